import PyProof.Rows.All
import Wide.All
import OpenK.AllK
import Wide.FinOn
import KE.KStateDown
import HandS.ForMost
import HandS.ForExc
import HandS.Defaults
import HandS.Wide
import HandS.IsInst
import HandS.Style
import HandS.More
import HandS.Deep
import HandS.Codes
import HandS.Conv
import HandS.ExcIs
import HandS.Head0
import HandS.Head1
import HandS.Head2
import HandS.HeadEnd
import HandS.HeadHook1
import HandS.HeadHook2
import HandS.HeadHook3
import HandS.HeadHook4
import PySem.Challenge.RW_countout_k04_numbers_refused
set_option Elab.async false
set_option linter.all false
set_option maxRecDepth 100000
set_option maxHeartbeats 4000000
namespace Jo
/-! ### rings as lists -/
def rotL {α : Type} (xs : List α) (k : Nat) : List α := xs.drop k ++ xs.take k
theorem rotL_length {α : Type} (xs : List α) (k : Nat) : (rotL xs k).length = xs.length := by
  unfold rotL
  rw [List.length_append, List.length_drop, List.length_take]
  omega
theorem rotL_map {α β : Type} (f : α → β) (xs : List α) (k : Nat) : rotL (xs.map f) k = (rotL xs k).map f := by
  unfold rotL
  rw [List.map_append, List.map_drop, List.map_take]
theorem rotL_perm {α : Type} (xs : List α) (k : Nat) : (rotL xs k).Perm xs := by
  unfold rotL
  have h : (xs.drop k ++ xs.take k).Perm (xs.take k ++ xs.drop k) := List.perm_append_comm
  rw [List.take_append_drop] at h
  exact h
theorem rotL_get {α : Type} (xs : List α) (k i : Nat) (hk : k ≤ xs.length) (hi : i < xs.length) : (rotL xs k)[i]? = xs[(i + k) % xs.length]? := by
  unfold rotL
  by_cases h : i < xs.length - k
  · rw [List.getElem?_append_left (by rw [List.length_drop]; exact h), List.getElem?_drop, Nat.mod_eq_of_lt (by omega)]
    congr 1
    omega
  · rw [List.getElem?_append_right (by rw [List.length_drop]; omega), List.length_drop, List.getElem?_take]
    have e : (i + k) % xs.length = i - (xs.length - k) := by
      rw [Nat.mod_eq_sub_mod (by omega), Nat.mod_eq_of_lt (by omega)]
      omega
    rw [e, if_pos (by omega)]
/-- counted out by the step t + 1: n turns -/
def outN {α : Type} (t : Nat) : Nat → List α → List α
  | 0, _ => []
  | n + 1, xs => match rotL xs (t % xs.length) with
    | [] => []
    | h :: r => h :: outN t n r
def out {α : Type} (t : Nat) (xs : List α) : List α := outN t xs.length xs
theorem out_nil {α : Type} (t : Nat) : out t ([] : List α) = [] := rfl
theorem out_step {α : Type} {t : Nat} {xs : List α} {h : α} {r : List α} (e : rotL xs (t % xs.length) = h :: r) : out t xs = h :: out t r := by
  have l : r.length + 1 = xs.length := by
    rw [← rotL_length xs (t % xs.length), e]
    rfl
  unfold out
  rw [← l]
  rw [outN, e]
theorem rot_cons {α : Type} (t : Nat) {xs : List α} (h : xs ≠ []) : ∃ x r, rotL xs (t % xs.length) = x :: r ∧ r.length + 1 = xs.length := by
  cases e : rotL xs (t % xs.length) with
  | nil =>
    have l := rotL_length xs (t % xs.length)
    rw [e] at l
    exact absurd (List.eq_nil_of_length_eq_zero l.symm) h
  | cons x r =>
    have l := rotL_length xs (t % xs.length)
    rw [e] at l
    exact ⟨x, r, rfl, l⟩
/-- induction along the counting out -/
theorem out_ind {α : Type} (t : Nat) {M : List α → Prop} (h0 : M []) (h1 : ∀ xs x r, xs ≠ [] → rotL xs (t % xs.length) = x :: r → r.length + 1 = xs.length → M r → M xs) (xs : List α) : M xs := by
  generalize hn : xs.length = n
  induction n generalizing xs with
  | zero => rw [List.eq_nil_of_length_eq_zero hn]; exact h0
  | succ n ih =>
    have hne : xs ≠ [] := fun q => by rw [q] at hn; cases hn
    obtain ⟨x, r, e, l⟩ := rot_cons t hne
    exact h1 xs x r hne e l (ih r (by omega))
theorem out_map {α β : Type} (t : Nat) (f : α → β) (xs : List α) : out t (xs.map f) = (out t xs).map f := by
  induction xs using out_ind t with
  | h0 => rfl
  | h1 xs x r hne e l ih =>
    rw [out_step e]
    have e2 : rotL (xs.map f) (t % (xs.map f).length) = f x :: r.map f := by
      rw [List.length_map, rotL_map, e, List.map_cons]
    rw [out_step e2, ih, List.map_cons]
theorem out_perm {α : Type} (t : Nat) (xs : List α) : (out t xs).Perm xs := by
  induction xs using out_ind t with
  | h0 => exact List.Perm.refl _
  | h1 xs x r hne e l ih =>
    rw [out_step e]
    have h : (x :: r).Perm xs := by
      rw [← e]
      exact rotL_perm xs _
    exact (List.Perm.cons x ih).trans h
theorem out_length {α : Type} (t : Nat) (xs : List α) : (out t xs).length = xs.length := (out_perm t xs).length_eq
theorem out_mod {α : Type} {t u : Nat} {n : Nat} {xs : List α} (hn : xs.length = n) (h : ∀ m, 0 < m → m ≤ n → t % m = u % m) : out t xs = out u xs := by
  induction xs using out_ind t generalizing n with
  | h0 => rfl
  | h1 xs x r hne e l ih =>
    rw [out_step e]
    have e2 : rotL xs (u % xs.length) = x :: r := by
      rw [← h xs.length (by omega) (by omega)]
      exact e
    rw [out_step e2, ih (n := r.length) rfl fun m h1 h2 => h m h1 (by omega)]
/-! ### places by numbers -/
/-- the place, begun at 0 in a ring of n, of the one who is told the number N, counted on and on (s the step) -/
def pos (s : Nat) : Nat → Nat → Nat
  | 0, _ => 0
  | n + 1, N => if N ≤ s then (N - 1) % (n + 1) else (pos s n (N - s) + s) % (n + 1)
theorem pos_lt (s n N : Nat) (h : 0 < n) : pos s n N < n := by
  cases n with
  | zero => cases h
  | succ n =>
    unfold pos
    split
    · exact Nat.mod_lt _ (Nat.succ_pos n)
    · exact Nat.mod_lt _ (Nat.succ_pos n)
theorem pos_low {s n N : Nat} (h : N ≤ s) : pos s (n + 1) N = (N - 1) % (n + 1) := if_pos h
theorem pos_high {s n N : Nat} (h : s < N) : pos s (n + 1) N = (pos s n (N - s) + s) % (n + 1) := if_neg (by omega)
/-- told at the first round -/
theorem pos_first {s : Nat} (hs : 1 ≤ s) : ∀ {n N : Nat}, 1 ≤ N → N ≤ n → pos s n N = N - 1
  | 0, N, h1, h2 => by omega
  | n + 1, N, h1, h2 => by
    by_cases h : N ≤ s
    · rw [pos_low h, Nat.mod_eq_of_lt (by omega)]
    · rw [pos_high (by omega), pos_first hs (n := n) (N := N - s) (by omega) (by omega), Nat.mod_eq_of_lt (by omega)]
      omega
theorem div_zero {a b : Nat} (h : a < b) : a / b = 0 := Nat.div_eq_of_lt h
/-- the number that one was told ahead of N -/
def prev (s n N : Nat) : Nat := N - n + (N - n - 1) / (s - 1)
theorem pos_prev {s : Nat} (hs : 2 ≤ s) : ∀ {n N : Nat}, n < N → N ≤ n * s → pos s n (prev s n N) = pos s n N
  | 0, N, h1, h2 => by
    rw [Nat.zero_mul] at h2
    omega
  | n + 1, N, h1, h2 => by
    by_cases h : N ≤ s
    · have z : (N - (n + 1) - 1) / (s - 1) = 0 := div_zero (by omega)
      have e : prev s (n + 1) N = N - (n + 1) := by
        unfold prev
        rw [z]
        omega
      rw [e, pos_low (by omega), pos_low h]
      have e2 : N - 1 = N - (n + 1) - 1 + (n + 1) := by omega
      rw [e2, Nat.add_mod_right]
    · have hN : N - s ≤ n * s := by
        rw [Nat.succ_mul] at h2
        omega
      rw [pos_high (show s < N by omega)]
      by_cases h3 : N - s ≤ n
      · rw [pos_first (by omega) (by omega) h3]
        have z : (N - (n + 1) - 1) / (s - 1) = 0 := div_zero (by omega)
        have e : prev s (n + 1) N = N - (n + 1) := by
          unfold prev
          rw [z]
          omega
        rw [e, pos_low (by omega)]
        have e2 : N - s - 1 + s = N - (n + 1) - 1 + (n + 1) := by omega
        rw [e2, Nat.add_mod_right]
      · have ih := pos_prev hs (n := n) (N := N - s) (by omega) hN
        have e : prev s (n + 1) N = prev s n (N - s) + s := by
          unfold prev
          have d : N - (n + 1) - 1 = N - s - n - 1 + (s - 1) := by omega
          rw [d, Nat.add_div_right _ (show 0 < s - 1 by omega)]
          omega
        have p : 1 ≤ prev s n (N - s) := by
          unfold prev
          generalize (N - s - n - 1) / (s - 1) = k
          omega
        rw [e, pos_high (by omega), Nat.add_sub_cancel, ih]
theorem prev_lt {s n N : Nat} (hs : 2 ≤ s) (h1 : n < N) (h2 : N ≤ n * s) : prev s n N < N := by
  unfold prev
  have h3 : (N - n - 1) / (s - 1) < n := by
    rw [Nat.div_lt_iff_lt_mul (by omega)]
    have e : n * s = n * (s - 1) + n := by
      have e2 : s = s - 1 + 1 := by omega
      rw [e2, Nat.mul_succ, Nat.add_sub_cancel]
    omega
  omega
theorem prev_pos {s n N : Nat} (h1 : n < N) : 1 ≤ prev s n N := by
  unfold prev
  generalize (N - n - 1) / (s - 1) = k
  omega
/-- the number that one is told next -/
theorem next_prev {s n N : Nat} (hs : 2 ≤ s) (h0 : 0 < N % s) (h2 : N ≤ n * s) : n < n + N - N / s ∧ n + N - N / s ≤ n * s ∧ N < n + N - N / s ∧ prev s n (n + N - N / s) = N := by
  have d := Nat.div_add_mod N s
  have m := Nat.mod_lt N (show 0 < s by omega)
  have q : N / s < n := by
    rw [Nat.div_lt_iff_lt_mul (by omega)]
    by_cases e : N = n * s
    · rw [e, Nat.mul_mod_left] at h0
      omega
    · omega
  have e1 : s * (N / s) = (s - 1) * (N / s) + N / s := by
    have e2 : s = s - 1 + 1 := by omega
    generalize N / s = k
    rw [e2, Nat.succ_mul, Nat.add_sub_cancel]
  have e3 : (s - 1) * (N / s + 1) ≤ (s - 1) * n := Nat.mul_le_mul_left _ q
  have e4 : n * s = (s - 1) * n + n := by
    have e2 : s = s - 1 + 1 := by omega
    generalize s - 1 = k at e2
    rw [e2, Nat.mul_succ, Nat.mul_comm]
  rw [Nat.mul_succ] at e3
  refine ⟨by omega, by omega, by omega, ?_⟩
  unfold prev
  have e5 : (n + N - N / s - n - 1) / (s - 1) = N / s := by
    have e6 : n + N - N / s - n - 1 = (N % s - 1) + (s - 1) * (N / s) := by omega
    rw [e6, Nat.add_mul_div_left _ _ (by omega), div_zero (by omega), Nat.zero_add]
  rw [e5]
  omega
/-! ### the ring of the places -/
theorem rot_range {n k : Nat} (hk : k < n + 1) : rotL (List.range (n + 1)) k = k :: (List.range n).map fun p => (p + 1 + k) % (n + 1) := by
  apply List.ext_getElem?
  intro i
  by_cases hi : i < n + 1
  · rw [rotL_get _ _ _ (by rw [List.length_range]; omega) (by rw [List.length_range]; exact hi), List.length_range, List.getElem?_range (Nat.mod_lt _ (Nat.succ_pos n))]
    cases i with
    | zero =>
      rw [Nat.zero_add, Nat.mod_eq_of_lt hk]
      rfl
    | succ i =>
      rw [List.getElem?_cons_succ, List.getElem?_map, List.getElem?_range (by omega)]
      rfl
  · rw [List.getElem?_eq_none (by rw [rotL_length, List.length_range]; omega), List.getElem?_eq_none (by rw [List.length_cons, List.length_map, List.length_range]; omega)]
theorem mod_add_mod2 (a b n : Nat) : (a + b % n) % n = (a + b) % n := Nat.add_mod_mod a b n
theorem out_range {s : Nat} (hs : 1 ≤ s) : ∀ {n c : Nat}, c < n → (out (s - 1) (List.range n))[c]? = some (pos s n ((c + 1) * s))
  | 0, c, h => by omega
  | n + 1, c, h => by
    have e := rot_range (n := n) (k := (s - 1) % (n + 1)) (Nat.mod_lt _ (Nat.succ_pos n))
    have e2 : rotL (List.range (n + 1)) ((s - 1) % (List.range (n + 1)).length) = (s - 1) % (n + 1) :: (List.range n).map fun p => (p + 1 + (s - 1) % (n + 1)) % (n + 1) := by
      rw [List.length_range]
      exact e
    rw [out_step e2, out_map]
    cases c with
    | zero =>
      rw [Nat.zero_add, Nat.one_mul, pos_low (Nat.le_refl s)]
      rfl
    | succ c =>
      rw [List.getElem?_cons_succ, List.getElem?_map, out_range hs (n := n) (c := c) (by omega)]
      have e3 : (c + 1 + 1) * s = (c + 1) * s + s := Nat.succ_mul _ _
      have e4 : 0 < (c + 1) * s := Nat.mul_pos (by omega) (by omega)
      rw [e3, pos_high (by omega), Nat.add_sub_cancel]
      show some ((pos s n ((c + 1) * s) + 1 + (s - 1) % (n + 1)) % (n + 1)) = _
      rw [mod_add_mod2]
      congr 2
      omega
theorem out_range_nodup (t n : Nat) : (out t (List.range n)).Nodup := (out_perm t (List.range n)).nodup_iff.mpr List.nodup_range
/-- different counts, different places -/
theorem pos_inj {s n c d : Nat} (hs : 1 ≤ s) (hc : c < n) (hd : d < n) (h : pos s n ((c + 1) * s) = pos s n ((d + 1) * s)) : c = d := by
  have e1 := out_range hs hc
  have e2 := out_range hs hd
  rw [h] at e1
  have hN := out_range_nodup (s - 1) n
  obtain ⟨l1, g1⟩ := List.getElem?_eq_some_iff.mp e1
  obtain ⟨l2, g2⟩ := List.getElem?_eq_some_iff.mp e2
  exact (List.getElem_inj hN).mp (g1.trans g2.symm)
end Jo
namespace Jo
/-! ### hand by hand -/
theorem rotL_zero {α : Type} (xs : List α) : rotL xs 0 = xs := by
  unfold rotL
  rw [List.drop_zero, List.take_zero, List.append_nil]
theorem rotL_ext {α : Type} {xs : List α} {k j : Nat} (hk : k ≤ xs.length) (ys : List α) (hl : ys.length = xs.length) (h : ∀ i, i < xs.length → ys[i]? = xs[(i + k) % xs.length]?) : ys = rotL xs k := by
  apply List.ext_getElem?
  intro i
  by_cases hi : i < xs.length
  · rw [rotL_get xs k i hk hi, h i hi]
  · rw [List.getElem?_eq_none (by omega), List.getElem?_eq_none (by rw [rotL_length]; omega)]
/-- one hand more -/
theorem rotL_more {α : Type} (x : α) (r : List α) (k : Nat) : rotL (r ++ [x]) (k % (x :: r).length) = rotL (x :: r) ((k + 1) % (x :: r).length) := by
  have hn : 0 < (x :: r).length := Nat.succ_pos _
  have l : (r ++ [x]).length = (x :: r).length := by rw [List.length_append]; rfl
  have m1 := Nat.mod_lt k hn
  have m2 := Nat.mod_lt (k + 1) hn
  refine rotL_ext (j := 0) (Nat.le_of_lt m2) _ (by rw [rotL_length, l]) fun i hi => ?_
  rw [rotL_get _ _ _ (by rw [l]; omega) (by rw [l]; exact hi), l]
  have e : ∀ j, j < (x :: r).length → (r ++ [x])[j]? = (x :: r)[(j + 1) % (x :: r).length]? := fun j hj => by
    have hj' : j < r.length + 1 := hj
    by_cases h : j < r.length
    · rw [List.getElem?_append_left h, Nat.mod_eq_of_lt (by show j + 1 < r.length + 1; omega), List.getElem?_cons_succ]
    · have ej : j = r.length := by omega
      subst ej
      rw [List.getElem?_append_right (Nat.le_refl _), Nat.sub_self]
      have z : (r.length + 1) % (x :: r).length = 0 := Nat.mod_self _
      rw [z]
      rfl
  rw [e _ (Nat.mod_lt _ hn)]
  congr 1
  rw [Nat.mod_add_mod, Nat.add_mod_mod]
  have a1 : i + k % (x :: r).length + 1 = (i + 1) + k % (x :: r).length := by omega
  rw [a1, Nat.add_mod_mod]
  congr 1
  omega
theorem told_mod {s n : Nat} (hs : 1 ≤ s) (hn : 0 < n) : (s % n + 2 * n - 1) % n = (s - 1) % n := by
  have h := Nat.div_add_mod s n
  by_cases e : s % n = 0
  · have e1 : s % n + 2 * n - 1 = n - 1 + n := by omega
    have hq : 0 < s / n := by
      rcases Nat.eq_zero_or_pos (s / n) with z | z
      · rw [z, Nat.mul_zero] at h
        omega
      · exact z
    have e2 : s - 1 = n - 1 + n * (s / n - 1) := by
      have e3 : n * (s / n) = n * (s / n - 1) + n := by
        have e4 : s / n = s / n - 1 + 1 := by omega
        generalize s / n - 1 = k at e4
        rw [e4, Nat.mul_succ]
      omega
    rw [e1, Nat.add_mod_right, e2, Nat.add_mul_mod_self_left]
  · have e1 : s % n + 2 * n - 1 = (s % n - 1) + n * 2 := by omega
    have e2 : s - 1 = (s % n - 1) + n * (s / n) := by omega
    rw [e1, Nat.add_mul_mod_self_left, e2, Nat.add_mul_mod_self_left]
end Jo
namespace Jo
theorem rot_range_map {n b : Nat} (hb : b < n) : rotL (List.range n) b = (List.range n).map fun p => (p + b) % n := by
  apply List.ext_getElem?
  intro i
  by_cases hi : i < n
  · rw [rotL_get _ _ _ (by rw [List.length_range]; omega) (by rw [List.length_range]; exact hi), List.length_range,
      List.getElem?_range (Nat.mod_lt _ (by omega)), List.getElem?_map, List.getElem?_range hi]
    rfl
  · rw [List.getElem?_eq_none (by rw [rotL_length, List.length_range]; omega), List.getElem?_eq_none (by rw [List.length_map, List.length_range]; omega)]
/-- a place told from the beginning b, and back -/
theorem turn_back {n b x : Nat} (hb : b < n) (hx : x < n) : ((b + x) % n + n - b) % n = x := by
  by_cases h : b + x < n
  · rw [Nat.mod_eq_of_lt h]
    have e : b + x + n - b = x + n := by omega
    rw [e, Nat.add_mod_right, Nat.mod_eq_of_lt hx]
  · have e : (b + x) % n = b + x - n := by rw [Nat.mod_eq_sub_mod (by omega), Nat.mod_eq_of_lt (by omega)]
    rw [e]
    have e2 : b + x - n + n - b = x := by omega
    rw [e2, Nat.mod_eq_of_lt hx]
theorem cnt_unique {n s b i c : Nat} (hs : 1 ≤ s) (hb : b < n) (hi : i < n) (c1 : 1 ≤ c) (c2 : c ≤ n)
    (h : pos s n (c * s) = ((b + pos s n ((i + 1) * s)) % n + n - b) % n) : c = i + 1 := by
  rw [turn_back hb (pos_lt _ _ _ (by omega))] at h
  have e : c = c - 1 + 1 := by omega
  rw [e] at h
  have := pos_inj hs (by omega) hi h
  omega
end Jo
namespace Jo
/-- many hands more at once, where no round ends -/
theorem pos_leap {s m N : Nat} (hs : 1 ≤ s) (hN : 1 ≤ N) : ∀ L : Nat, pos s m N + (s - 1) * L < m → pos s (m + L) (N + L * s) = pos s m N + s * L
  | 0, _ => by rw [Nat.zero_mul, Nat.mul_zero, Nat.add_zero, Nat.add_zero, Nat.add_zero]
  | L + 1, h => by
    have h1 : (s - 1) * (L + 1) = (s - 1) * L + (s - 1) := Nat.mul_succ _ _
    have h2 : s * (L + 1) = (s - 1) * (L + 1) + (L + 1) := by
      have e : s = s - 1 + 1 := by omega
      generalize s - 1 = k at e
      rw [e, Nat.succ_mul]
    have h3 : s * (L + 1) = s * L + s := Nat.mul_succ _ _
    have ih := pos_leap hs hN (m := m) L (by omega)
    have e1 : N + (L + 1) * s = N + L * s + s := by
      rw [Nat.succ_mul, Nat.add_assoc]
    have e2 : m + (L + 1) = m + L + 1 := rfl
    rw [e1, e2, pos_high (by omega), Nat.add_sub_cancel, ih, Nat.mod_eq_of_lt (by omega)]
    omega
/-- one hand more, or many where no round ends -/
theorem pos_leap1 {s m N L : Nat} (hs : 1 ≤ s) (hN : 1 ≤ N) (h : L = 1 ∨ pos s m N + (s - 1) * L < m) : pos s (m + L) (N + L * s) = (pos s m N + s * L) % (m + L) := by
  rcases h with rfl | h
  · rw [Nat.one_mul, Nat.mul_one, pos_high (by omega), Nat.add_sub_cancel]
  · rw [pos_leap hs hN L h, Nat.mod_eq_of_lt]
    have h2 : s * L = (s - 1) * L + L := by
      have e : s = s - 1 + 1 := by omega
      generalize s - 1 = k at e
      rw [e, Nat.succ_mul]
    omega
/-- a place turned by the beginning -/
theorem turn_fwd {n b p : Nat} (hb : b < n) (hp : p < n) : (b + (p + n - b) % n) % n = p := by
  rw [Nat.add_mod_mod]
  have e : b + (p + n - b) = p + n := by omega
  rw [e, Nat.add_mod_right, Nat.mod_eq_of_lt hp]
end Jo
namespace Jo
theorem turn_inv {n L b p : Nat} (hL : L < n) (hb : b < n) (hp : p < n) : (b + L) % n = p ↔ b = (p + n - L) % n := by
  constructor
  · intro h
    have e := turn_back hL hb
    rw [Nat.add_comm L b, h] at e
    exact e.symm
  · intro h
    have e := turn_fwd hL hp
    rw [← h, Nat.add_comm] at e
    exact e
end Jo
namespace Jo
/-- each place goes at some count -/
theorem pos_surj {s n x : Nat} (hs : 1 ≤ s) (hx : x < n) : ∃ c, 1 ≤ c ∧ c ≤ n ∧ pos s n (c * s) = x := by
  have hm : x ∈ out (s - 1) (List.range n) := (out_perm _ _).mem_iff.mpr (List.mem_range.mpr hx)
  obtain ⟨i, hi, e⟩ := List.mem_iff_getElem.mp hm
  have hl : i < n := by
    rw [out_length, List.length_range] at hi
    exact hi
  have e2 := out_range hs hl
  rw [List.getElem?_eq_getElem hi, e] at e2
  exact ⟨i + 1, by omega, by omega, (Option.some.inj e2).symm⟩
theorem pos_one {s n c d : Nat} (hs : 1 ≤ s) (c1 : 1 ≤ c) (c2 : c ≤ n) (d1 : 1 ≤ d) (d2 : d ≤ n) (h : pos s n (c * s) = pos s n (d * s)) : c = d := by
  have e1 : c = c - 1 + 1 := by omega
  have e2 : d = d - 1 + 1 := by omega
  rw [e1, e2] at h
  have := pos_inj hs (by omega) (by omega) h
  omega
end Jo
namespace Lz
open PySem PySem.Spec PyProof.Rows L2
/-! ### a def by its name: where it stands, how it binds, its promise -/
abbrev FnP (K : PySem.W.Frag) (x qual : Str) (st : Stmt) (dvs : List V) (f : Addr) (fd : FuncData) : Prop :=
  FunD K x qual (defArgs st) (defBody st) (defScope st) dvs [] f fd
abbrev CXr (P : Program) (w : World) : CXT := L2.CX P w
def FnAt (P : Program) (w : World) (K : PySem.W.Frag) (mg : Str → Option Value) (base : Heap) (C : CXT) (k : Nat)
    (x : Str) (ps : List Str) (dvs : List V) (sp : Sp) : Prop :=
  ∃ (f : Addr) (fd : FuncData) (ds : List Value), mg x = some (.ref f) ∧ PySem.W.keepIn K (.ref f) = true ∧
    Binds K fd ps ds ∧ Vals dvs ds ∧ FnOk P w K mg base C k f fd ps sp
/-- a method of the class at D -/
def FnMt (P : Program) (w : World) (K : PySem.W.Frag) (mg : Str → Option Value) (base : Heap) (C : CXT) (k : Nat)
    (D : Addr) (m : Str) (ps : List Str) (dvs : List V) (sp : Sp) : Prop :=
  ∃ (f : Addr) (fd : FuncData) (ds : List Value), Meth K D m f ∧ Binds K fd ps ds ∧ Vals dvs ds ∧
    FnOk P w K mg base C k f fd ps sp
/-- the maker of the class at D, by the module's name x -/
def FnMk (P : Program) (w : World) (K : PySem.W.Frag) (mg : Str → Option Value) (base : Heap) (C : CXT) (k : Nat)
    (x : Str) (D : Addr) (ps : List Str) (dvs : List V) (sp : Sp) : Prop :=
  ∃ (f : Addr) (fd : FuncData) (ds : List Value), Mk K D f ∧ mg x = some (.ref D) ∧ Binds K fd ps ds ∧ Vals dvs ds ∧
    FnOk P w K mg base C k f fd ps sp
section
variable {X : Cx} {C : CXT} {k : Nat} {x : Str} {ps : List Str} {dvs : List V} {sp : Sp} {E : XK} {p pos : Pos} {e o : Expr} {es : List Expr} {t : TA}
theorem pe_fn (G : FnAt X.prog X.w X.K X.mg X.base C k x ps dvs sp) (hr : Room k X.A) (hx : Passes C X E) (ha : PA X (e :: es) t)
    (hg : Gl X x := by rfl) (hdb : (x == ("__debug__" : Str)) = false := by decide)
    (he : starEach (e :: es) X.env = (false, eval e X.env) :: starEach es X.env := by rfl)
    (hpl : (backTo pos (starEach es X.env)).any (·.1) = false := by rfl) :
    PE X (.Call (.Name x p) (e :: es) [] pos) (tCall sp dvs E t) := by
  obtain ⟨f, fd, ds, h1, h2, h3, h4, h5⟩ := G
  exact pe_call h5 hr hg h1 h2 h3 h4 hx ha hdb he hpl
/-- a whole number of the module -/
theorem pe_gint {i : Int} (h : ∃ t, X.mg x = some (.int i t)) (hg : Gl X x := by rfl) (hdb : (x == ("__debug__" : Str)) = false := by decide) :
    PE X (.Name x pos) (tC (.int i)) := by
  obtain ⟨t, h⟩ := h
  exact pe_glob hg h ⟨t, rfl⟩ hdb
end
/-! ### heaps: all but some places is kept -/
def Kp (ws : List Addr) (H H' : Hp) : Prop := ∀ a o, H a = some o → a ∉ ws → H' a = some o
section
variable {ws vs : List Addr} {H H1 H2 : Hp} {a p : Addr} {o u : HO}
theorem Kp.refl (H : Hp) : Kp ws H H := fun _ _ h _ => h
theorem Kp.trans (x : Kp ws H H1) (y : Kp ws H1 H2) : Kp ws H H2 := fun a o h n => y a o (x a o h n) n
theorem Kp.mono (x : Kp ws H H1) (h : ∀ a, a ∈ ws → a ∈ vs) : Kp vs H H1 := fun a o e n => x a o e fun q => n (h a q)
theorem Kp.new (h : H p = none) : Kp ws H (upd H p o) := fun a u e _ => by
  rw [upd_ne (ne_of_none e h)]
  exact e
theorem Kp.put (h : p ∈ ws) : Kp ws H (upd H p o) := fun a u e n => by
  have q : a ≠ p := fun q => n (by rw [q]; exact h)
  rw [upd_ne q]
  exact e
/-- new since H -/
theorem Kp.late (x : Kp ws H H1) (h : H p = none) : Kp ws H (upd H1 p o) := fun a u e n => by
  rw [upd_ne (ne_of_none e h)]
  exact x a u e n
theorem Kp.same (x : Kp [] H H1) : Same H H1 := fun a o h => x a o h (List.not_mem_nil)
theorem Kp.of (x : Same H H1) : Kp ws H H1 := fun a o h _ => x a o h
theorem Kp.one (x : Kp [p] H H1) (h : H a = some o) (n : a ≠ p) : H1 a = some o := x a o h fun q => n (List.mem_singleton.mp q)
theorem Kp.lst {K : PySem.W.Frag} {xs : List V} (x : Kp ws H H1) (h : SqL K H a xs) (n : a ∉ ws) : SqL K H1 a xs := by
  rcases h with (h | ⟨o, h⟩) | h
  · exact .inl (.inl (x _ _ h n))
  · exact .inl (.inr ⟨o, x _ _ h n⟩)
  · exact .inr h
/-- where H knows and nothing was written, what is free behind was free before -/
theorem Kp.free (x : Kp ws H H1) (h : H1 p = none) (n : p ∉ ws) : H p = none := by
  cases q : H p with
  | none => rfl
  | some o =>
    have e := x p o q n
    rw [h] at e
    cases e
end
theorem sz (n : Nat) (h : n ≤ 1000000) : n ≤ sizeLine := Nat.le_trans h (by decide)
theorem szl (n : Nat) (h : n ≤ 1000000) : n < sizeLine := Nat.lt_of_le_of_lt h (by decide)
/-! ### exceptions of the program -/
structure ExcT (K : PySem.W.Frag) (C : Addr) : Prop where
  q : PySem.W.excIn K C He.veBase "ValueError.__new__" = true
  k : PySem.W.keepIn K (.ref C) = true
  s : PySem.W.subIn K (.ref C) (.type "BaseException") = some true
  t : PySem.W.typeIn K (.ref C) = some (.type "type")
theorem pmk_t {X : Cx} {C : Addr} {x m : Str} {j : Nat} {p p2 pos : Pos} (T : ExcT X.K C) (g : X.mg x = some (.ref C)) (hg : Gl X x := by rfl)
    (hdb : (x == ("__debug__" : Str)) = false := by decide) :
    PMk X (.Call (.Name x p) [.Constant (.str m) j p2] [] pos) (fun _ H Q => Q (.ref C) none H) :=
  pmk_own PySem.F.excBase_ValueError T.q g T.k (raises_own T.s T.t) hg hdb
/-! ### kinds of values -/
/-- not a whole number (True and False are none) -/
def NotNum (K : PySem.W.Frag) (H : Hp) (x : V) : Prop :=
  ∃ t : String, TyX K H x (.type t) ∧ t ∈ ["NoneType", "bool", "str", "list", "tuple", "dict"]
theorem NotNum.non {K : PySem.W.Frag} {H : Hp} : NotNum K H .non := ⟨_, .base .non, by simp⟩
theorem NotNum.bl {K : PySem.W.Frag} {H : Hp} {b : Bool} : NotNum K H (.bl b) := ⟨_, .base (.bl b), by simp⟩
theorem NotNum.str {K : PySem.W.Frag} {H : Hp} {z : Str} : NotNum K H (.str z) := ⟨_, .base (.str z), by simp⟩
theorem NotNum.lst {K : PySem.W.Frag} {H : Hp} {a : Addr} {xs : List V} (h : H a = some (.lst xs)) : NotNum K H (.ref a) := ⟨_, .base (.lst h), by simp⟩
theorem NotNum.tup {K : PySem.W.Frag} {H : Hp} {a : Addr} {xs : List V} (h : H a = some (.tup xs)) : NotNum K H (.ref a) := ⟨_, .base (.tup h), by simp⟩
/-- no whole number from lo to hi -/
def OutN (K : PySem.W.Frag) (H : Hp) (lo hi : Int) (x : V) : Prop := NotNum K H x ∨ ∃ i : Int, x = .int i ∧ ¬ (lo ≤ i ∧ i ≤ hi)
/-! ### lists of whole numbers and texts, compared -/
def PD : V → PyData
  | .int i => .int i
  | .str z => .str z
  | .bl b => .bool b
  | _ => .none
def isS : V → Bool
  | .int _ => true
  | .str z => PyData.strOk z
  | _ => false
theorem PD_dp {K : PySem.W.Frag} {H : Hp} {v : V} (h : isS v = true) : Dp K H v (PD v) := by
  cases v with
  | int i => exact .int i
  | str z => exact .str z
  | _ => cases h
theorem PD_all {K : PySem.W.Frag} {H : Hp} : ∀ {xs : List V}, xs.all isS = true → DpAll K H xs (xs.map PD)
  | [], _ => .nil
  | x :: xs, h => by
    rw [List.all_cons, Bool.and_eq_true] at h
    exact .cons (PD_dp h.1) (PD_all h.2)
theorem PD_lay : ∀ {xs : List V}, xs.all isS = true → PyData.canLayAll0 (xs.map PD) = true ∧ PyData.depthAll (xs.map PD) = 0
  | [], _ => ⟨by simp [PyData.canLayAll0], by simp [PyData.depthAll]⟩
  | x :: xs, h => by
    rw [List.all_cons, Bool.and_eq_true] at h
    obtain ⟨h1, h2⟩ := PD_lay h.2
    have h3 : PyData.canLay0 (PD x) = true ∧ PyData.depth (PD x) = 0 := by
      cases x with
      | int i => simp [PD, PyData.canLay0, PyData.depth]
      | str z =>
        have hz : PyData.strOk z = true := h.1
        simp [PD, PyData.canLay0, PyData.depth, hz]
      | _ => cases h.1
    exact ⟨by rw [List.map_cons, PyData.canLayAll0, h3.1, h1]; rfl, by rw [List.map_cons, PyData.depthAll, h3.2, h2]; rfl⟩
theorem PD_shaped {xs : List V} (h : xs.all isS = true) : SeqAt.shaped (.list (xs.map PD)) = true := by
  obtain ⟨h1, h2⟩ := PD_lay h
  unfold SeqAt.shaped
  rw [Bool.and_eq_true]
  exact ⟨by rw [PyData.canLay0]; exact h1, by rw [PyData.depth, h2]; rfl⟩
theorem PD_eqv1 {x y : V} (hx : isS x = true) (hy : isS y = true) : PyData.eqv (PD x) (PD y) = decide (x = y) := by
  cases x with
  | int i =>
    cases y with
    | int j =>
      show PyData.eqv (.int i) (.int j) = _
      rw [PyData.eqv]
      by_cases e : i = j
      · subst e
        simp
      · have e2 : ¬ (V.int i = V.int j) := fun q => e (V.int.inj q)
        rw [decide_eq_false e2]
        exact beq_eq_false_iff_ne.mpr e
    | str z =>
      show PyData.eqv (.int i) (.str z) = _
      rw [PyData.eqv]
      exact (decide_eq_false (fun q => nomatch q)).symm
    | _ => cases hy
  | str z =>
    cases y with
    | int j =>
      show PyData.eqv (.str z) (.int j) = _
      rw [PyData.eqv]
      exact (decide_eq_false (fun q => nomatch q)).symm
    | str u =>
      show PyData.eqv (.str z) (.str u) = _
      rw [PyData.eqv]
      by_cases e : z = u
      · subst e
        simp
      · have e2 : ¬ (V.str z = V.str u) := fun q => e (V.str.inj q)
        rw [decide_eq_false e2]
        exact beq_eq_false_iff_ne.mpr e
    | _ => cases hy
  | _ => cases hx
theorem PD_eqv : ∀ {xs ys : List V}, xs.all isS = true → ys.all isS = true → PyData.eqvAll (xs.map PD) (ys.map PD) = decide (xs = ys)
  | [], [], _, _ => by simp [PyData.eqvAll]
  | [], y :: ys, _, _ => by simp [PyData.eqvAll]
  | x :: xs, [], _, _ => by simp [PyData.eqvAll]
  | x :: xs, y :: ys, hx, hy => by
    rw [List.all_cons, Bool.and_eq_true] at hx hy
    rw [List.map_cons, List.map_cons, PyData.eqvAll, PD_eqv1 hx.1 hy.1, PD_eqv hx.2 hy.2, ← Bool.decide_and]
    exact decide_eq_decide.mpr (by rw [List.cons.injEq])
section
variable {K : PySem.W.Frag} {H : Hp} {p q : Addr} {xs ys : List V} {Q : VK}
theorem eqD_l (hp : SqL K H p xs) (hq : SqL K H q ys) (fx : xs.all isS = true) (fy : ys.all isS = true) (k : Q (.bl (decide (xs = ys))) H) : rEqD K (.ref p) (.ref q) H Q :=
  ⟨_, _, .lst hp (PD_all fx), .lst hq (PD_all fy), PD_shaped fx, PD_shaped fy, by
    have e : PyData.eqv (.list (xs.map PD)) (.list (ys.map PD)) = decide (xs = ys) := by rw [PyData.eqv, PD_eqv fx fy]
    rw [e]
    exact k⟩
theorem neD_l (hp : SqL K H p xs) (hq : SqL K H q ys) (fx : xs.all isS = true) (fy : ys.all isS = true) (k : Q (.bl (!decide (xs = ys))) H) : rNeD K (.ref p) (.ref q) H Q :=
  ⟨_, _, .lst hp (PD_all fx), .lst hq (PD_all fy), PD_shaped fx, PD_shaped fy, by
    have e : PyData.eqv (.list (xs.map PD)) (.list (ys.map PD)) = decide (xs = ys) := by rw [PyData.eqv, PD_eqv fx fy]
    rw [e]
    exact k⟩
end
theorem isS_ints {α : Type} (f : α → Int) (xs : List α) : (xs.map fun x => V.int (f x)).all isS = true := by
  rw [List.all_map, List.all_eq_true]
  intro x _
  rfl
/-! ### slices from and to a place -/
theorem cut_from (xs : List V) (k : Nat) : cutV xs (some (k : Int)) none = xs.drop k := by
  unfold cutV
  rw [HT.sIx_nat, HT.sIx_none]
  by_cases h : k ≤ xs.length
  · rw [Nat.min_eq_left h, List.take_of_length_le (by rw [List.length_drop]; exact Nat.le_refl _)]
  · rw [Nat.min_eq_right (by omega), List.drop_of_length_le (Nat.le_refl _), List.drop_of_length_le (by omega), List.take_nil]
theorem cut_to (xs : List V) (k : Nat) : cutV xs none (some (k : Int)) = xs.take k := by
  unfold cutV
  rw [HT.sIx_nat, HT.sIx_none, List.drop_zero, Nat.sub_zero]
  by_cases h : k ≤ xs.length
  · rw [Nat.min_eq_left h]
  · rw [Nat.min_eq_right (by omega), List.take_of_length_le (Nat.le_refl _), List.take_of_length_le (by omega)]
/-! ### for i, x in enumerate(xs) -/
theorem for_enum {K : PySem.W.Frag} {a : Addr} {xs : List V} {g : TG} {tb : TS} {D : Ends} {σ : L2.St} {H : Hp} (M : Nat → L2.St → Hp → Prop) (h0 : M 0 σ H)
    (hl : ∀ i σ H, i ≤ xs.length → M i σ H → SqL K H a xs)
    (hs : ∀ i x σ H T, xs[i]? = some x → M i σ H → H T = none → g (.ref T) σ (upd H T (.tup [.int (i : Nat), x])) fun σ2 H2 => tb { D with nx := M (i + 1), ct := M (i + 1), bk := D.nx } σ2 H2)
    (hd : ∀ σ H, M xs.length σ H → D.nx σ H) :
    ∃ W : Nat → Nat → L2.St → Hp → Prop, (∃ m, W 0 m σ H) ∧ ∀ i m σ H, W i m σ H →
      ((Ite K a).stop i H ∧ D.nx σ H) ∨ ((Ite K a).go i H ∧ ∃ N : L2.St → Hp → Prop, (∀ σ' H', N σ' H' → ∃ m', m' < m ∧ W (i + 1) m' σ' H') ∧
        ∀ x H', (Ite K a).yld i H x H' → g x σ H' fun σ2 H2 => tb { D with nx := N, ct := N, bk := D.nx } σ2 H2) := by
  refine ⟨fun i m σ H => m = xs.length - i ∧ i ≤ xs.length ∧ M i σ H, ⟨xs.length, by simp, Nat.zero_le _, h0⟩, ?_⟩
  rintro i m σ H ⟨rfl, hi, p⟩
  have q := hl i σ H hi p
  by_cases hlt : i < xs.length
  · refine .inr ⟨⟨xs, xs[i], q, by simp [hlt]⟩, M (i + 1), fun σ' H' p' => ⟨xs.length - (i + 1), by omega, rfl, hlt, p'⟩, fun v H' y => ?_⟩
    obtain ⟨T, x, rfl, hT, rfl, e⟩ := y
    exact hs i x σ H T (e xs q) p hT
  · have e : i = xs.length := by omega
    subst e
    exact .inl ⟨⟨xs, q, Nat.le_refl _⟩, hd σ H p⟩
/-! ### the law's draws: a list of one number -/
def StOk (s : Int) : Prop := 0 ≤ s ∧ s < 4294967296
def StAt (H : Hp) (st : Addr) : Prop := ∃ s, StOk s ∧ H st = some (.lst [.int s])
/-- some draws were made: the state's number changed, what is new may stand beside -/
def Drew (st : Addr) (H H' : Hp) : Prop := Kp [st] H H' ∧ StAt H' st
section
variable {st a p : Addr} {H H1 H2 : Hp} {o : HO}
theorem Drew.trans (x : Drew st H H1) (y : Drew st H1 H2) : Drew st H H2 := ⟨x.1.trans y.1, y.2⟩
theorem Drew.at (x : Drew st H H1) (h : H a = some o) (n : a ≠ st) : H1 a = some o := x.1.one h n
theorem Drew.lst {K : PySem.W.Frag} {xs : List V} (x : Drew st H H1) (h : SqL K H a xs) (n : a ≠ st) : SqL K H1 a xs := x.1.lst h fun q => n (List.mem_singleton.mp q)
theorem Drew.free (x : Drew st H H1) (h : H1 p = none) : H p = none := x.1.free h fun q => by
  obtain ⟨s, _, e⟩ := x.2
  rw [List.mem_singleton.mp q, e] at h
  cases h
theorem Drew.new (x : Drew st H H1) (h : H1 p = none) : Drew st H (upd H1 p o) := by
  obtain ⟨s, h1, e⟩ := id x.2
  exact ⟨x.1.trans (Kp.new h), s, h1, by rw [upd_ne (ne_of_none e h)]; exact e⟩
theorem StAt.new (x : StAt H st) (h : H p = none) : StAt (upd H p o) st := by
  obtain ⟨s, h1, e⟩ := x
  exact ⟨s, h1, by rw [upd_ne (ne_of_none e h)]; exact e⟩
theorem Drew.refl (x : StAt H st) : Drew st H H := ⟨Kp.refl H, x⟩
theorem StAt.ne {xs : List V} (x : StAt H st) (h : H a = some (.lst xs)) (n : 2 ≤ xs.length) : a ≠ st := fun q => by
  obtain ⟨s, _, e⟩ := x
  rw [q, e] at h
  injection h with h
  injection h with h
  rw [← h] at n
  exact absurd n (by simp)
end
/-! ### small facts -/
theorem emod_nat {s : Int} (n : Nat) (h : 0 ≤ s) : s % (n : Int) = ((s.toNat % n : Nat) : Int) := by
  obtain ⟨k, rfl⟩ := Int.eq_ofNat_of_zero_le h
  rfl
theorem seq0 {α : Type} (x : α) (c : List α) : seqIndex? 0 (x :: c).length = some 0 := by
  have h : (0 : Int) < ((c.length + 1 : Nat) : Int) := by omega
  simp [seqIndex?, h]
theorem StAt.fresh {H : Hp} {st p : Addr} (x : StAt H st) (h : H p = none) : p ≠ st := fun q => by
  obtain ⟨s, _, e⟩ := x
  rw [q, e] at h
  cases h
theorem StAt.keep {H H1 : Hp} {st : Addr} {ws : List Addr} (k : Kp ws H H1) (x : StAt H st) (n : st ∉ ws) : StAt H1 st := by
  obtain ⟨s, h1, e⟩ := x
  exact ⟨s, h1, k _ _ e n⟩
theorem StAt.same {H H1 : Hp} {st : Addr} (x : StAt H st) (k : Kp [] H H1) : StAt H1 st := x.keep k List.not_mem_nil
theorem Drew.kp {H H1 : Hp} {st : Addr} (k : Kp [] H H1) (x : StAt H st) : Drew st H H1 := ⟨k.mono fun _ h => absurd h List.not_mem_nil, x.same k⟩
theorem rotL_all {α : Type} {f : α → Bool} {xs : List α} (k : Nat) (h : xs.all f = true) : (Jo.rotL xs k).all f = true := by
  rw [List.all_eq_true] at h ⊢
  intro x hx
  exact h x ((Jo.rotL_perm xs k).mem_iff.mp hx)
theorem out_all {α : Type} {f : α → Bool} {xs : List α} (t : Nat) (h : xs.all f = true) : (Jo.out t xs).all f = true := by
  rw [List.all_eq_true] at h ⊢
  intro x hx
  exact h x ((Jo.out_perm t xs).mem_iff.mp hx)
theorem rgV_all (n : Nat) : (rgV 0 n).all isS = true := by
  unfold rgV
  rw [List.all_map, List.all_eq_true]
  intro x _
  rfl
theorem rgV_len (n : Nat) : (rgV 0 n).length = n := by
  rw [rgV_length]
  omega
/-- the places in the order in which they go -/
abbrev ordV (s n b : Nat) : List V := Jo.out (s - 1) (Jo.rotL (rgV 0 n) b)
theorem ordV_len (s n b : Nat) : (ordV s n b).length = n := by rw [Jo.out_length, Jo.rotL_length, rgV_len]
theorem ordV_all (s n b : Nat) : (ordV s n b).all isS = true := out_all _ (rotL_all _ (rgV_all n))
theorem ordV_get {s n b i : Nat} (hs : 1 ≤ s) (hb : b < n) (hi : i < n) : (ordV s n b)[i]? = some (.int (((b + Jo.pos s n ((i + 1) * s)) % n : Nat) : Int)) := by
  have e : rgV 0 n = (List.range n).map fun i => V.int ((i : Nat) : Int) := by
    unfold rgV
    have e1 : ((n : Int) - 0).toNat = n := by omega
    rw [e1]
    refine List.map_congr_left fun x _ => ?_
    rw [Int.zero_add]
  unfold ordV
  rw [e, Jo.rotL_map, Jo.rot_range_map hb, List.map_map, Jo.out_map, List.getElem?_map, Jo.out_range hs hi]
  show some (V.int (((Jo.pos s n ((i + 1) * s) + b) % n : Nat) : Int)) = _
  rw [Nat.add_comm]
theorem rotL_id {α : Type} (xs : List α) : Jo.rotL xs 0 = xs := Jo.rotL_zero xs
theorem at_last {α : Type} {xs : List α} {n : Nat} {v : α} (hl : xs.length = n) (hn : 0 < n) (h : xs[n - 1]? = some v) : atI xs (-1) = some v := by
  have e : ixN xs.length (-1) = some (n - 1) := by
    unfold ixN
    rw [hl, if_neg (by decide), if_pos (by omega)]
    congr 1
    omega
  unfold atI
  rw [e]
  exact h
section
variable {K : PySem.W.Frag} {H : Hp} {p q : Addr} {xs : List V} {x : V} {Q : VK}
theorem ne_same (h : scal x x = true) (k : Q (.bl false) H) : rNe x x H Q := ⟨h, by rw [decide_eq_true rfl]; exact k⟩
theorem eq_same (h : scal x x = true) (k : Q (.bl true) H) : rEq x x H Q := ⟨h, by rw [decide_eq_true rfl]; exact k⟩
theorem neD_same (hp : SqL K H p xs) (hq : SqL K H q xs) (fx : xs.all isS = true) (k : Q (.bl false) H) : rNeD K (.ref p) (.ref q) H Q :=
  neD_l hp hq fx fx (by rw [decide_eq_true rfl]; exact k)
theorem eqD_same (hp : SqL K H p xs) (hq : SqL K H q xs) (fx : xs.all isS = true) (k : Q (.bl true) H) : rEqD K (.ref p) (.ref q) H Q :=
  eqD_l hp hq fx fx (by rw [decide_eq_true rfl]; exact k)
end
theorem exct {K : PySem.W.Frag} {x : Str} (h : (He.Fa.exc x).ok K = true) : ExcT K (He.ga K x) := by
  obtain ⟨h1, h2, h3, h4⟩ := He.exc_ok h
  exact ⟨h1, h2, h3, h4⟩
/-- a def with defaults, called with all its arguments -/
theorem bindsFull {K : PySem.W.Frag} {x qual : Str} {params : Arguments} {body : List Stmt} {scope : Scope} {dvs : List V} {f : Addr} {fd : FuncData} {ps : List Str}
    (F : FunD K x qual params body scope dvs [] f fd) (hd : dvs ≠ [])
    (h : ∀ (T : Addr) (kV doc pm : Value) (an : Option Addr) (cdv ct : Value) (us : List Value), us.length = ps.length →
      bindArgs (PySem.W.fnOf x qual params body scope (.ref T) kV doc pm an cdv ct) ⟨us, []⟩ = pure (ps.zip us)) : Binds K fd ps [] := by
  obtain ⟨oc, od, dV, kV, doc, pm, an, cdv, ct, osl, rfl, lk, hcd, hD, hK⟩ := F.ex
  rcases hD with ⟨e, _⟩ | ⟨_, T, o, its, m, rfl, lT, oT, rT⟩
  · exact absurd e hd
  · exact .all (h T kV doc pm an cdv ct)
/-- what is written was not known at the start -/
theorem Kp.lst0 {K : PySem.W.Frag} {ws : List Addr} {H H1 : Hp} {a : Addr} {xs : List V} (x : Kp ws H H1) (h : SqL K H a xs) (n : ∀ w ∈ ws, H w = none) : SqL K H1 a xs := by
  rcases h with (h | ⟨o, h⟩) | h
  · exact .inl (.inl (x _ _ h fun q => by rw [n _ q] at h; cases h))
  · exact .inl (.inr ⟨o, x _ _ h fun q => by rw [n _ q] at h; cases h⟩)
  · exact .inr h
theorem Drew.lst0 {K : PySem.W.Frag} {H H1 : Hp} {a st : Addr} {xs : List V} (d : Drew st H H1) (h : SqL K H a xs) (n : H st = none) : SqL K H1 a xs :=
  d.1.lst0 h fun w q => by rw [List.mem_singleton.mp q]; exact n
theorem pow60 : (10 : Int) ^ (60 : Int).toNat = 10 ^ 60 := rfl
theorem sub_mod {n p L : Nat} (hL : L < n) (hp : p < n) : ((p : Int) - (L : Int)) % (n : Int) = (((p + n - L) % n : Nat) : Int) := by
  have e1 : ((p : Int) - (L : Int)) % (n : Int) = ((p : Int) - (L : Int) + (n : Int)) % (n : Int) := by rw [Int.add_emod_right]
  have e2 : (p : Int) - (L : Int) + (n : Int) = ((p + n - L : Nat) : Int) := by omega
  rw [e1, e2]
  rfl
/-! ### rules that name the written part K (within a comprehension's block) -/
section
variable {X : Cx} {K : PySem.W.Frag}
theorem ix_lK (e : X.K = K := by rfl) : IxR X (rIxL K) := by
  subst e
  exact ix_list
theorem lenK (e : X.K = K := by rfl) : CallR X (.builtin "len") (fun xs H Q => ∃ p ys, xs = [.ref p] ∧ (SqL K H p ys ∨ SqT K H p ys) ∧ Q (.int ys.length) H) := by
  subst e
  exact call_len_seq
theorem isiK (e : X.K = K := by rfl) : CallR X (.builtin "isinstance") (rIsi K) := by
  subst e
  exact call_isi
end
/-- the value that is stored, in another form -/
theorem set_eq {i : Nat} {x y : V} {σ : L2.St} {H : Hp} {Q : L2.St → Hp → Prop} (e : x = y) (h : gName i y σ H Q) : gName i x σ H Q := by
  rw [e]
  exact h
theorem tyes {σ : L2.St} {H : Hp} {Q : Bool → Hp → Prop} (h : Q true H) : tYes σ H Q := h
section
variable {H : Hp} {x y : V} {Q : VK}
theorem ne_no (e : x = y) (h : scal x x = true) (k : Q (.bl false) H) : rNe x y H Q := by
  subst e
  exact ne_same h k
theorem ne_yes (e : ¬ x = y) (h : scal x y = true) (k : Q (.bl true) H) : rNe x y H Q := ⟨h, by rw [decide_eq_false e]; exact k⟩
theorem eq_yes (e : x = y) (h : scal x x = true) (k : Q (.bl true) H) : rEq x y H Q := by
  subst e
  exact eq_same h k
theorem eq_no (e : ¬ x = y) (h : scal x y = true) (k : Q (.bl false) H) : rEq x y H Q := ⟨h, by rw [decide_eq_false e]; exact k⟩
end
theorem vint {a b : Int} (e : a = b) : V.int a = V.int b := congrArg V.int e
theorem vint_ne {a b : Int} (e : ¬ a = b) : ¬ V.int a = V.int b := fun q => e (V.int.inj q)
theorem vnat {a b : Nat} (e : a = b) : V.int (a : Int) = V.int (b : Int) := congrArg (fun q : Nat => V.int (q : Int)) e
theorem vnat_ne {a b : Nat} (e : ¬ a = b) : ¬ V.int (a : Int) = V.int (b : Int) := fun q => e (by have := V.int.inj q; omega)
end Lz
namespace Lz
open PySem PySem.Spec PyProof.Rows L2
/-! ### an exception that is kept behind its clause -/
/-- at a: an exception of the class cls, without a dict of its own -/
def ExA (cls : Value) (a : Addr) : HO := .ext fun h => ∃ (o : Obj) (vs : Array Value), h.get? a = some o ∧ Zc cls none o ∧ o.data = .fields vs
theorem exA_ok {P : Program} {w : World} {H : Hp} {h : Heap} {a : Addr} {cls : Value} {o : Obj} {vs : Array Value} (e : h.get? a = some o) (z : Zc cls none o) (d : o.data = .fields vs) :
    ObjOk P w H h a (ExA cls a) := ⟨⟨o, vs, e, z, d⟩, ⟨o, e⟩, fun _ _ ⟨u, v, q, r⟩ k => ⟨u, v, k u q, r⟩⟩
/-- an object that stands, made since the entry and not tracked, is tracked from now on -/
theorem track {X : Cx} {pins : List (Addr × Obj)} {σ : L2.St} {H : Hp} {s : Shared} {a : Addr} {o : Obj} {vs : Array Value} {u : HO} (I : Inv X pins σ H s) (ha : s.heap.get? a = some o) (hd : o.data = .fields vs)
    (na : H a = none) (n0 : X.s_0.heap.get? a = none) (nL : a ≠ X.env.locals) (np : ∀ p ∈ X.pn ++ pins, p.1 ≠ a) (new : ObjOk X.prog X.w (upd H a u) s.heap a u) : Inv X pins σ (upd H a u) s := by
  have ne0 : ∀ b q, X.s_0.heap.get? b = some q → b ≠ a := fun b q e z => by
    rw [z, n0] at e
    cases e
  have neH : ∀ b q, H b = some q → b ≠ a := fun b q e z => by
    rw [z, na] at e
    cases e
  have B := I.base
  refine ⟨I.ok, I.os, I.bare, ⟨B.keep, B.slot, fun b q e n x => ?_, B.there, fun b xs e => ?_, fun b q v e => ?_, fun b ps e => ?_⟩, I.loc, I.cell, ?_, fun x c e => ?_, fun p hp => ?_, fun b q e => ?_, I.len⟩
  · rw [upd_ne (ne0 b q e)]
    exact B.free b q e n x
  · have z := B.tups b xs e
    rw [upd_ne (neH _ _ z)]
    exact z
  · have z := B.frzs b q v e
    rw [upd_ne (neH _ _ z)]
    exact z
  · obtain ⟨m, z⟩ := B.tbls b ps e
    exact ⟨m, by rw [upd_ne (neH _ _ z)]; exact z⟩
  · rw [upd_ne fun z => nL z.symm]
    exact I.free
  · have z : c ≠ a := fun z => by
      obtain ⟨v, oc, hc, hv⟩ := I.cell x c e
      rw [z, ha] at hc
      cases hc
      rw [hd] at hv
      cases hv
    rw [upd_ne z]
    exact I.freeC x c e
  · obtain ⟨q1, q2, q3⟩ := I.pin p hp
    exact ⟨q1, by rw [upd_ne (np p hp)]; exact q2, q3⟩
  · by_cases hb : b = a
    · rw [hb, upd_same] at e
      cases e
      rw [hb]
      exact new
    · rw [upd_ne hb] at e
      refine (I.hok b q e).stay (fun _ _ _ r => r) (fun c r => ?_) fun c xs r => ?_
      · rw [upd_ne (neH _ _ r)]
        exact r
      · rw [upd_ne (neH _ _ r)]
        exact r
/-- what a clause 'except x as n: .. n kept by another name ..' wishes of an exception of the body: all of them are x's; slot i is n's -/
def wKeep (K : PySem.W.Frag) (c : Value) (i : Nat) (ts : Addr → Value → TS) (D : Ends) : WX := fun cls d σ H =>
  PySem.W.exmOne K cls c = some true ∧ d = none ∧ ∀ a, H a = none →
    ts a cls { nx := fun σ' H' => H' a = none → D.nx (σ'.set i none) (upd H' a (ExA cls a)), rt := fun _ _ => False, bk := fun _ _ => False, ct := fun _ _ => False } (σ.set i (some (.ref a))) H
section
variable {X : Cx} {x n : Str} {c : Value} {i : Nat} {body suite : List Stmt} {b0 : Stmt} {np pos pos' : Pos} {tb : WX → TS} {ts : Addr → Value → TS}
theorem ps_try_keep (hs : X.stack = X.env :: X.outer) (hf : X.env.frame = some X.env.locals) (hex : X.ex = []) (hN : X.N.Nodup) (hi : X.N[i]? = some n) (hln : X.env.kindOf n = some .local) (hc : Names X x c)
    (hb : ∀ (W : WX) (pn : List (Addr × Obj)) (xe : Value → Shared → Prop), Takes (X.tr pn xe) W → PSs (X.tr pn xe) body (tb W))
    (hsu : ∀ (a : Addr) (oe : Obj) (cls : Value) (d : Option Addr) (pn : List (Addr × Obj)), PSs (X.suite a ((a, oe) :: pn)) (b0 :: suite) (ts a cls)) :
    PS X (.Try body [.ExceptHandler (some (.Name x np)) (some n) (b0 :: suite) pos'] [] [] pos) (fun D σ H => tb (wKeep X.K c i ts D) D σ H) := by
  refine ⟨fun pins s σ H D I0 h => ?_⟩
  have OK := I0.ok
  have frames : X.A.frames = some (X.env :: X.outer) := OK.frames.trans (congrArg some hs)
  refine wpAny_Try_except (wpAny_mono ((hb (wKeep X.K c i ts D) (X.pn ++ pins) (fun e z1 => wpAny (model X.prog X.w) X.A (noteFrame e X.env) (fun _ z2 => wpAny (model X.prog X.w) X.A (setFlight e none)
    (fun _ z3 => wpAny (model X.prog X.w) X.A (handleBy e X.env [.ExceptHandler (some (.Name x np)) (some n) (b0 :: suite) pos']) (SP X pins D) X.xe z3) X.xe z2) X.xe z1) (fun u s' air => ?_)).run [] s σ H D (I0.toTry _) h)
    (fun fl s1 done => ?_) (fun e s1 he => he))
  · obtain ⟨a, B, sI, _, τ, G, cls, d, rfl, J0, ground, ups, sky0, na, eos, gens, hm, rfl, keep⟩ := air
    have J : Inv X pins τ G sI := J0.ofTry OK
    rw [show (X.tr (X.pn ++ pins) _).stack = X.env :: X.outer from hs] at sky0
    show wpAny (model X.prog X.w) X.A (noteFrame (.ref a) X.env) _ _ _
    refine Sky.land Zc.steady frames hf sky0 fun h3 F3 U3 => ?_
    have J3 := J.landed (s' := { s' with heap := h3 }) ground F3.1 (ups.trans U3) eos gens
    obtain ⟨o3, v3, g3, z3, d3⟩ := F3.there
    have noFrame : a ∉ frs (X.env :: X.outer) := fun q => by
      obtain ⟨_, oq, eq, hq⟩ := F3.2.2.1.mem q
      rw [g3] at eq
      cases eq
      exact hq _ d3
    have aL : a ≠ X.env.locals := fun z => noFrame (List.mem_filterMap.mpr ⟨X.env, List.mem_cons_self, hf.trans (congrArg some z.symm)⟩)
    have aF : a ∉ X.fs := fun q => by
      obtain ⟨en, hen, qen⟩ := List.mem_filterMap.mp q
      exact noFrame (List.mem_filterMap.mpr ⟨en, List.mem_cons_of_mem _ hen, qen⟩)
    have notIn : ∀ b q, sI.heap.get? b = some q → b ∉ frs X.stack → b ≠ a := fun b q e1 e2 e3 => by
      have e4 := ground b q e1 e2
      rw [e3, F3.2.1] at e4
      cases e4
    have a0 : X.s_0.heap.get? a = none := by
      cases q : X.s_0.heap.get? a with
      | none => rfl
      | some oq =>
        obtain ⟨o', e'⟩ := J.base.there a oq q (by rw [hex]; exact List.not_mem_nil)
        exact absurd rfl (notIn a o' e' (by rw [hs]; exact noFrame))
    have aP : ∀ p ∈ X.pn ++ pins, p.1 ≠ a := fun p hp => by
      obtain ⟨q1, q2, q3, q4, _⟩ := J.pin p hp
      refine notIn p.1 p.2 q1 fun q => ?_
      rcases List.mem_cons.mp (J.stkSub p.1 q) with z | z
      · exact q3 z
      · exact q4 z
    have SU := J3.suite g3 d3 na aL aF
    refine wpAny_handleBy_cons (codeAny_handlers_test ?_) (by intro q; cases q)
    have LT : PySem.W.Looks (model X.prog X.w) h3 (typeOf (.ref a)) cls := fun A Q E z k q => wpAny_typeOf_ref (k _ _ g3) (by rw [z3.1]; exact q)
    have LM := PySem.W.exm_one (M := model X.prog X.w) J3.kIn LT hm
    have asks : ∀ {Q : Value → Shared → Prop} {E : Value → Shared → Prop}, Q c { s' with heap := h3 } → wpAny (model X.prog X.w) (X.A.mark (some (.ref a))) (eval (.Name x np) X.env) Q E { s' with heap := h3 } := fun {Q E} q => by
      obtain ⟨w1, w2, w3 | ⟨w3, w4, w5⟩⟩ := hc
      · exact ld_glob (X := X.suite a ((a, o3) :: (X.pn ++ pins))) SU w1 w3 q w2
      · exact ld_blt (X := X.suite a ((a, o3) :: (X.pn ++ pins))) SU w1 w3 w4 q w5 w2
    refine asks (LM.here (codeAny_handlers_suite_as (HandSPX.lands_againZ F3 fun h4 F4 U4 => ?_)))
    have J4 := J.landed (s' := { s' with heap := h4 }) ground F4.1 ((ups.trans U3).trans U4) eos gens
    obtain ⟨o4, v4, g4, z4, d4⟩ := F4.there
    have SV := J4.suite g4 d4 na aL aF
    refine store_ok (X := X.suite a ((a, o4) :: (X.pn ++ pins))) (v := .ref a) SV hN hi (.inl hln) rfl (fun s5 S5 => ?_) (.inr hln)
    refine wpAny_mono ((hsu a o4 cls none (X.pn ++ pins)).run [] s5 _ G _ S5 (keep a na)) (fun fl s6 done => ?_) (fun _ _ z => False.elim z)
    cases fl with
    | next =>
      obtain ⟨τ6, G6, S6, q6⟩ := done
      obtain ⟨p1, p2, _⟩ := S6.pin (a, o4) (List.mem_append_left _ List.mem_cons_self)
      exact gone_ok (track (S6.unsuite OK) p1 d4 p2 a0 aL aP (exA_ok p1 z4 d4)) hN hi hln fun s7 J7 => ⟨_, _, J7, q6 p2⟩
    | brk =>
      obtain ⟨_, _, _, q6⟩ := done
      exact q6.elim
    | cont =>
      obtain ⟨_, _, _, q6⟩ := done
      exact q6.elim
    | ret u =>
      obtain ⟨_, _, _, _, _, q6⟩ := done
      exact q6.elim
  · cases fl with
    | next =>
      obtain ⟨τ, G, J, q⟩ := done
      exact wpAny_execs_nil ⟨τ, G, J.ofTry OK, q⟩
    | brk =>
      obtain ⟨τ, G, J, q⟩ := done
      exact ⟨τ, G, J.ofTry OK, q⟩
    | cont =>
      obtain ⟨τ, G, J, q⟩ := done
      exact ⟨τ, G, J.ofTry OK, q⟩
    | ret u =>
      obtain ⟨v, τ, G, J, r, q⟩ := done
      exact ⟨v, τ, G, J.ofTry OK, r, q⟩
end
/-- in such a body: what a callee lets out, whatever stands in the slots -/
abbrev EL (N : List Str) (W : WX) : XK := fun cls d H => ∀ σ : L2.St, σ.length = N.length → W cls d σ H
theorem passT {X : Cx} {W : WX} {N : List Str} (tk : Takes X W) (hN : X.N = N := by rfl) : Passes (L2.CX X.prog X.w) X (EL N W) := fun _ σ _ _ e s' I t => by
  subst hN
  exact tk e s' (XE.of_call I (fun _ _ _ h => h σ I.len) t)
/-- isinstance of an exception that was kept -/
def rIsX (K : PySem.W.Frag) : List V → Hp → VK → Prop := fun xs H Q => ∃ (a D : Addr) (v : V) (u : Value) (b : Bool), xs = [.ref a, v] ∧ H a = some (ExA (.ref D) a) ∧ ExcC K D ∧ (∀ t, RelV v t → t = u) ∧ PySem.W.kitOne K (.ref D) u = some b ∧ Q (.bl b) H
theorem call_isX {X : Cx} : CallR X (.builtin "isinstance") (rIsX X.K) := by
  intro pins s σ H xs us Q I r h
  obtain ⟨a, D, v, u, b, rfl, ha, C, hv, hk, q⟩ := h
  obtain ⟨u1, u2, rfl, r1, r2⟩ : ∃ u1 u2, us = [u1, u2] ∧ RelV (.ref a) u1 ∧ RelV v u2 := by
    cases r with
    | cons p1 t =>
      cases t with
      | cons p2 t2 =>
        cases t2
        exact ⟨_, _, rfl, p1, p2⟩
  cases (show u1 = Value.ref a from r1)
  have e2 := hv _ r2
  subst e2
  obtain ⟨⟨o, vs, g, z, d⟩, _⟩ := (show ObjOk X.prog X.w H s.heap a (ExA (.ref D) a) from I.hok a _ ha)
  have J : PySem.W.InstAt s.heap a o D none := by
    obtain ⟨o1, o2, o3, o4⟩ := o
    obtain ⟨z1, z2⟩ := z
    dsimp only at z1 z2 d
    subst z1 z2 d
    exact ⟨g, rfl, rfl, trivial⟩
  exact PySem.W.kia_one (PySem.W.handS_kitx_exc C.hg C.hk C.hs C.hd C.ha C.hn C.ht C.hm) I.kIn J hk (fun z => nomatch z) fun tk => ⟨.bl b, H, I.kept (t' := tk) fun _ _ z => z, rfl, q⟩
/-! ### the words of the refusals -/
structure ErrT (K : PySem.W.Frag) (xs : List Str) : Prop where
  c : ∀ x ∈ xs, ExcC K (He.ga K x)
  v : ∀ x ∈ xs, PySem.W.kitOne K (.ref (He.ga K x)) (.type "ValueError") = some true
  m : ∀ x ∈ xs, PySem.W.exmOne K (.ref (He.ga K x)) (.ref (He.ga K "CountError")) = some true
  k : ∀ x ∈ xs, ∀ y ∈ xs, PySem.W.kitOne K (.ref (He.ga K x)) (.ref (He.ga K y)) = some (decide (x = y))
def excB (K : PySem.W.Frag) (D : Addr) : Bool :=
  decide (PySem.W.findIn K (.ref D) "__getattribute__" = some (some (.builtin "BaseException.__getattribute__"))) &&
  (decide (PySem.W.findIn K (.ref D) "__getattr__" = some none) && (decide (PySem.W.subIn K (.ref D) (.type "BaseException") = some true) &&
  (PySem.W.hasDictIn K D && (decide (PySem.W.findIn K (.ref D) "__class__" = some (some (.builtin "object.__class__"))) &&
  (decide (PySem.W.specialIn K (.builtin "object.__class__") "__get__" = some (some (.builtin "getset_descriptor.__get__"))) &&
  (decide (PySem.W.takesIn K (.builtin "object.__class__") = some true) && decide (PySem.W.mroIn K D (.type "object") = some true)))))))
theorem excB_ok {K : PySem.W.Frag} {D : Addr} (h : excB K D = true) : ExcC K D := by
  obtain ⟨h1, h⟩ := He.ba h
  obtain ⟨h2, h⟩ := He.ba h
  obtain ⟨h3, h⟩ := He.ba h
  obtain ⟨h4, h⟩ := He.ba h
  obtain ⟨h5, h⟩ := He.ba h
  obtain ⟨h6, h⟩ := He.ba h
  obtain ⟨h7, h8⟩ := He.ba h
  exact ⟨of_decide_eq_true h1, of_decide_eq_true h2, of_decide_eq_true h3, h4, of_decide_eq_true h5, of_decide_eq_true h6, of_decide_eq_true h7, of_decide_eq_true h8⟩
def errB (K : PySem.W.Frag) (xs : List Str) : Bool := xs.all fun x => excB K (He.ga K x) && (decide (PySem.W.kitOne K (.ref (He.ga K x)) (.type "ValueError") = some true) &&
  (decide (PySem.W.exmOne K (.ref (He.ga K x)) (.ref (He.ga K "CountError")) = some true) && xs.all fun y => decide (PySem.W.kitOne K (.ref (He.ga K x)) (.ref (He.ga K y)) = some (decide (x = y)))))
theorem errB_ok {K : PySem.W.Frag} {xs : List Str} (h : errB K xs = true) : ErrT K xs := by
  have g := fun x hx => He.ba (List.all_eq_true.mp h x hx)
  refine ⟨fun x hx => excB_ok (g x hx).1, fun x hx => ?_, fun x hx => ?_, fun x hx y hy => ?_⟩
  · exact of_decide_eq_true (He.ba (g x hx).2).1
  · exact of_decide_eq_true (He.ba (He.ba (g x hx).2).2).1
  · exact of_decide_eq_true (List.all_eq_true.mp (He.ba (He.ba (g x hx).2).2).2 y hy)
/-- a class (a def) of the module as a value -/
theorem pe_gref {X : Cx} {x : Str} {a : Addr} {pos : Pos} (h : X.mg x = some (.ref a)) (hg : Gl X x := by rfl) (hdb : (x == ("__debug__" : Str)) = false := by decide) :
    PE X (.Name x pos) (tC (.ref a)) := pe_glob hg h rfl hdb
/-- a constant has been read -/
theorem c_ {v : V} {σ : L2.St} {H : Hp} {Q : VK} (h : Q v H) : tC v σ H Q := h
/-! ### a weaker wish of what is raised -/
def spW (sp : Sp) : Sp := fun vs H Q E' => ∃ E : XK, sp vs H Q E ∧ ∀ cls d G, E cls d G → E' cls d G
section
variable {P : Program} {w : World} {K : PySem.W.Frag} {mg : Str → Option Value} {base : Heap} {k : Nat} {f : Addr} {fd : FuncData} {x : Str} {ps : List Str} {dvs : List V} {sp : Sp} {D : Addr}
theorem weak (F : FnOk P w K mg base (CXr P w) k f fd ps sp) : FnOk P w K mg base (CXr P w) k f fd ps (spW sp) := by
  refine ⟨fun vs H Q E ⟨E0, h, _⟩ => F.len vs H Q E0 h, fun A outer s H args us vs Q E hr e0 hb hv ⟨E0, h, hE⟩ => ?_⟩
  refine codeAny_mono (F.run A outer s H args us vs Q E0 hr e0 hb hv h) fun r s' hq => ?_
  cases r with
  | error e =>
    obtain ⟨a, B, G, cls, d, q1, q2, q3, q4, q5, q6, q7, q8⟩ := hq
    exact ⟨a, B, G, cls, d, q1, q2, q3, q4, q5, q6, q7, hE _ _ _ q8⟩
  | ok fl =>
    cases fl with
    | ret u => exact hq
    | next => exact hq
    | brk => exact hq
    | cont => exact hq
theorem weakF (G : FnAt P w K mg base (CXr P w) k x ps dvs sp) : FnAt P w K mg base (CXr P w) k x ps dvs (spW sp) := by
  obtain ⟨f, fd, ds, h1, h2, h3, h4, h5⟩ := G
  exact ⟨f, fd, ds, h1, h2, h3, h4, weak h5⟩
theorem weakM (G : FnMt P w K mg base (CXr P w) k D x ps dvs sp) : FnMt P w K mg base (CXr P w) k D x ps dvs (spW sp) := by
  obtain ⟨f, fd, ds, h1, h3, h4, h5⟩ := G
  exact ⟨f, fd, ds, h1, h3, h4, weak h5⟩
theorem weakK (G : FnMk P w K mg base (CXr P w) k x D ps dvs sp) : FnMk P w K mg base (CXr P w) k x D ps dvs (spW sp) := by
  obtain ⟨f, fd, ds, h1, h2, h3, h4, h5⟩ := G
  exact ⟨f, fd, ds, h1, h2, h3, h4, weak h5⟩
end
/-! ### values that are no number of a range -/
def BadV (st : Addr) (H : Hp) (lo hi : Int) (x : V) : Prop :=
  x = .non ∨ (∃ b, x = .bl b) ∨ (∃ z, x = .str z) ∨ (∃ a xs, x = .ref a ∧ a ≠ st ∧ (H a = some (.lst xs) ∨ H a = some (.tup xs))) ∨ ∃ i, x = .int i ∧ ¬ (lo ≤ i ∧ i ≤ hi)
theorem BadV.keep {st : Addr} {H H1 : Hp} {lo hi : Int} {x : V} (h : BadV st H lo hi x) (d : Kp [st] H H1) : BadV st H1 lo hi x := by
  rcases h with h | h | h | ⟨a, xs, rfl, n, h⟩ | h
  · exact .inl h
  · exact .inr (.inl h)
  · exact .inr (.inr (.inl h))
  · refine .inr (.inr (.inr (.inl ⟨a, xs, rfl, n, ?_⟩)))
    rcases h with h | h
    · exact .inl (d.one h n)
    · exact .inr (d.one h n)
  · exact .inr (.inr (.inr (.inr h)))
theorem BadV.out {K : PySem.W.Frag} {st : Addr} {H : Hp} {lo hi : Int} {x : V} (h : BadV st H lo hi x) : OutN K H lo hi x := by
  rcases h with rfl | ⟨b, rfl⟩ | ⟨z, rfl⟩ | ⟨a, xs, rfl, n, h⟩ | ⟨i, rfl, h⟩
  · exact .inl .non
  · exact .inl .bl
  · exact .inl .str
  · rcases h with h | h
    · exact .inl (.lst h)
    · exact .inl (.tup h)
  · exact .inr ⟨i, rfl, h⟩
theorem badN {st : Addr} {H : Hp} {lo hi : Int} : BadV st H lo hi .non := .inl rfl
theorem badB {st : Addr} {H : Hp} {lo hi : Int} {b : Bool} : BadV st H lo hi (.bl b) := .inr (.inl ⟨b, rfl⟩)
theorem badS {st : Addr} {H : Hp} {lo hi : Int} {z : Str} : BadV st H lo hi (.str z) := .inr (.inr (.inl ⟨z, rfl⟩))
theorem badI {st : Addr} {H : Hp} {lo hi i : Int} (h : ¬ (lo ≤ i ∧ i ≤ hi)) : BadV st H lo hi (.int i) := .inr (.inr (.inr (.inr ⟨i, rfl, h⟩)))
theorem badL {st a : Addr} {H : Hp} {lo hi : Int} {xs : List V} (n : a ≠ st) (h : H a = some (.lst xs)) : BadV st H lo hi (.ref a) := .inr (.inr (.inr (.inl ⟨a, xs, rfl, n, .inl h⟩)))
theorem badT {st a : Addr} {H : Hp} {lo hi : Int} {xs : List V} (n : a ≠ st) (h : H a = some (.tup xs)) : BadV st H lo hi (.ref a) := .inr (.inr (.inr (.inl ⟨a, xs, rfl, n, .inr h⟩)))
end Lz
namespace Lz
open PySem PySem.Spec PyProof.Rows L2

def top (i : Nat) : Stmt := PySem.Challenge.pw_countout_k04_numbers_refused.main.body.getD i (.Pass ⟨0, 0, 0, 0⟩)
abbrev cCountError (K : PySem.W.Frag) : Addr := He.ga K "CountError"
abbrev cNoRing (K : PySem.W.Frag) : Addr := He.ga K "NoRing"
abbrev cNoMany (K : PySem.W.Frag) : Addr := He.ga K "NoMany"
abbrev cNoStep (K : PySem.W.Frag) : Addr := He.ga K "NoStep"
abbrev cNoPlace (K : PySem.W.Frag) : Addr := He.ga K "NoPlace"
abbrev cNoCount (K : PySem.W.Frag) : Addr := He.ga K "NoCount"
abbrev cNoHand (K : PySem.W.Frag) : Addr := He.ga K "NoHand"
abbrev cTwiceTold (K : PySem.W.Frag) : Addr := He.ga K "TwiceTold"
abbrev cTooMany (K : PySem.W.Frag) : Addr := He.ga K "TooMany"
def errNames : List (Str × Str) := [("NoRing", "ring"), ("NoMany", "many"), ("NoStep", "step"), ("NoPlace", "place"), ("NoCount", "count"), ("NoHand", "hand"), ("TwiceTold", "twice"), ("TooMany", "much")]
/-- an own refusal, told by its word -/
def EE (K : PySem.W.Frag) (Q : VK) : XK := fun cls d H => d = none ∧ ∃ x wd : Str, (x, wd) ∈ errNames ∧ cls = .ref (He.ga K x) ∧ ∀ H', Kp [] H H' → Q (.str wd) H'
structure Txt (K : PySem.W.Frag) (mg : Str → Option Value) : Prop where
  b_len : mg "len" = none
  b_range : mg "range" = none
  b_list : mg "list" = none
  b_min : mg "min" = none
  b_max : mg "max" = none
  b_isinstance : mg "isinstance" = none
  b_int : mg "int" = none
  b_bool : mg "bool" = none
  b_str : mg "str" = none
  b_enumerate : mg "enumerate" = none
  b_all : mg "all" = none
  b_set : mg "set" = none
  b_ValueError : mg "ValueError" = none
  c_GREATEST : ∃ t, mg "GREATEST" = some (.int (1000000000000000000000000000000000000000000000000000000000000) t)
  c_MOST_STEP : ∃ t, mg "MOST_STEP" = some (.int (100) t)
  g_CountError : mg "CountError" = some (.ref (cCountError K))
  g_NoRing : mg "NoRing" = some (.ref (cNoRing K))
  g_NoMany : mg "NoMany" = some (.ref (cNoMany K))
  g_NoStep : mg "NoStep" = some (.ref (cNoStep K))
  g_NoPlace : mg "NoPlace" = some (.ref (cNoPlace K))
  g_NoCount : mg "NoCount" = some (.ref (cNoCount K))
  g_NoHand : mg "NoHand" = some (.ref (cNoHand K))
  g_TwiceTold : mg "TwiceTold" = some (.ref (cTwiceTold K))
  g_TooMany : mg "TooMany" = some (.ref (cTooMany K))
  x_CountError : PySem.W.keepIn K (.ref (cCountError K)) = true
  x_NoRing : ExcT K (cNoRing K)
  x_NoMany : ExcT K (cNoMany K)
  x_NoStep : ExcT K (cNoStep K)
  x_NoPlace : ExcT K (cNoPlace K)
  x_NoCount : ExcT K (cNoCount K)
  x_NoHand : ExcT K (cNoHand K)
  x_TwiceTold : ExcT K (cTwiceTold K)
  x_TooMany : ExcT K (cTooMany K)
  err : ErrT K (errNames.map (·.1))
end Lz
namespace Lz
open PySem PySem.Spec PyProof.Rows L2
abbrev s__law_cell_at : Stmt := top 28
def spCell (K : PySem.W.Frag) : Sp := fun vs H Q _ => ∃ (a : Addr) (ns : List Int) (k : Int), vs = [.ref a, .int k] ∧
  SqL K H a (ns.map V.int) ∧ 0 ≤ k ∧ ∀ v : Int, Q (.int v) H
section
variable {P : Program} {w : World} {K : PySem.W.Frag} {mg : Str → Option Value} {base : Heap}
theorem sc__law_cell_at : FnScope ["_law_script", "_law_k"] ["_law_script", "_law_k"] (defScope s__law_cell_at) := ⟨rfl, rfl, rfl, by decide +kernel, rfl, by decide +kernel, by decide +kernel⟩
theorem ok__law_cell_at {f : Addr} {fd : FuncData} (F : FnP K "_law_cell_at" "_law_cell_at" s__law_cell_at [] f fd) (T : Txt K mg)  :
    FnOk P w K mg base CX0 1 f fd ["_law_script", "_law_k"] (spCell K) := by
  have S := sc__law_cell_at
  refine F.ok S (fun vs H Q E h => ?_) (fun cdv A outer s H vs Q E hr h => ?_)
  · obtain ⟨a, ns, k, rfl, _⟩ := h
    rfl
  · obtain ⟨a, ns, k, rfl, hS, h0, hQ⟩ := h
    refine ⟨_, PSs.nox (pss_cons (ps_if (pt_cmpR op_lt (pv 1) (pe_callB call_len_seq (by rfl) T.b_len PySem.boot_len (pa_cons (pv 0) pa_nil)) (nomark _)) (pss_one (ps_ret (pe_ix ix_list (pv 0) (pv 1) (fun _ _ => rfl)))) pss_nil) (pss_one (ps_ret pe_int))), ?_⟩
    refine ⟨_, rfl, _, rfl, a, _, rfl, .inl hS, _, _, rfl, rfl, _, rfl, ite2 (fun c => ?_) (fun c => hQ 0)⟩
    have c1 : k < ((ns.map V.int).length : Int) := of_decide_eq_true c
    rw [List.length_map] at c1
    have c2 : k.toNat < ns.length := by omega
    have e : (ns.map V.int)[k.toNat]? = some (.int ns[k.toNat]) := by
      rw [List.getElem?_map, List.getElem?_eq_getElem c2]
      rfl
    exact ⟨_, rfl, _, rfl, a, _, _, _, rfl, rfl, hS, at_of (j := k.toNat) (by omega) e, hQ _⟩
end
end Lz
namespace Lz
open PySem PySem.Spec PyProof.Rows L2
abbrev s__law_state : Stmt := top 30
def spState (K : PySem.W.Frag) : Sp := fun vs H Q _ => ∃ (a : Addr) (ns : List Int) (k : Int), vs = [.ref a, .int k] ∧
  SqL K H a (ns.map V.int) ∧ 0 ≤ k ∧ ∀ (p : Addr) (H' : Hp), H p = none → Kp [] H H' → StAt H' p → Q (.ref p) H'
section
variable {P : Program} {w : World} {K : PySem.W.Frag} {mg : Str → Option Value} {base : Heap}
theorem sc__law_state : FnScope ["_law_script", "_law_first"] ["_law_script", "_law_first"] (defScope s__law_state) := ⟨rfl, rfl, rfl, by decide +kernel, rfl, by decide +kernel, by decide +kernel⟩
theorem ok__law_state {f : Addr} {fd : FuncData} (F : FnP K "_law_state" "_law_state" s__law_state [] f fd) (T : Txt K mg) (G__law_cell_at : FnAt P w K mg base CX0 1 "_law_cell_at" ["_law_script", "_law_k"] [] (spCell K)) :
    FnOk P w K mg base CX0 2 f fd ["_law_script", "_law_first"] (spState K) := by
  have S := sc__law_state
  refine F.ok S (fun vs H Q E h => ?_) (fun cdv A outer s H vs Q E hr h => ?_)
  · obtain ⟨a, ns, k, rfl, _⟩ := h
    rfl
  · obtain ⟨a, ns, k, rfl, hS, h0, hQ⟩ := h
    refine ⟨_, PSs.nox (pss_one (ps_ret (pe_lst (pa_cons (pe_op op_add (pe_op op_add pe_int (pe_op op_mod (pe_fn G__law_cell_at (hr.mono (by decide)) pass0 (pa_cons (pv 0) (pa_cons (pv 1) pa_nil))) pe_int)) (pe_op op_mod (pe_fn G__law_cell_at (hr.mono (by decide)) pass0 (pa_cons (pv 0) (pa_cons (pe_op op_add (pv 1) pe_int) pa_nil))) pe_int)) pa_nil)))), ?_⟩
    refine ⟨_, rfl, _, rfl, a, ns, k, rfl, hS, h0, fun v => ?_⟩
    refine ⟨_, _, rfl, rfl, (by show (0 : Int) < _; decide), _, _, rfl, rfl, ?_⟩
    refine ⟨_, rfl, _, rfl, _, _, rfl, rfl, a, ns, k + 1, rfl, hS, by omega, fun u => ?_⟩
    refine ⟨_, _, rfl, rfl, (by show (0 : Int) < _; decide), _, _, rfl, rfl, sz 1 (by decide), fun p hp => ?_⟩
    refine hQ p _ hp (Kp.new hp) ⟨_, ⟨?_, ?_⟩, upd_same⟩
    · omega
    · omega
end
end Lz
namespace Lz
open PySem PySem.Spec PyProof.Rows L2
abbrev s__law_next : Stmt := top 29
def spNext : Sp := fun vs H Q _ => ∃ st : Addr, vs = [.ref st] ∧ StAt H st ∧
  ∀ (H' : Hp) (r : Int), Drew st H H' → 0 ≤ r → r < 2147483648 → Q (.int r) H'
section
variable {P : Program} {w : World} {K : PySem.W.Frag} {mg : Str → Option Value} {base : Heap}
theorem sc__law_next : FnScope ["_law_state_here"] ["_law_state_here"] (defScope s__law_next) := ⟨rfl, rfl, rfl, by decide +kernel, rfl, by decide +kernel, by decide +kernel⟩
theorem ok__law_next {f : Addr} {fd : FuncData} (F : FnP K "_law_next" "_law_next" s__law_next [] f fd) (T : Txt K mg)  :
    FnOk P w K mg base CX0 1 f fd ["_law_state_here"] spNext := by
  have S := sc__law_next
  refine F.ok S (fun vs H Q E h => ?_) (fun cdv A outer s H vs Q E hr h => ?_)
  · obtain ⟨st, rfl, _⟩ := h
    rfl
  · obtain ⟨st, rfl, ⟨s, hs, h⟩, k⟩ := h
    refine ⟨_, PSs.nox (pss_cons (ps_asg (pe_op op_mod (pe_op op_add (pe_op op_mul (pe_ix ix_list (pv 0) pe_int (fun _ _ => rfl)) pe_int) pe_int) pe_int) (pg_sub (pv 0) pe_int set_list)) (pss_one (ps_ret (pe_op op_fdiv (pe_op op_mod (pe_op op_mul (pe_ix ix_list (pv 0) pe_int (fun _ _ => rfl)) (pe_ix ix_list (pv 0) pe_int (fun _ _ => rfl))) pe_int) pe_int)))), ?_⟩
    refine ⟨_, rfl, _, _, _, _, rfl, rfl, SqL.of h, rfl, _, _, rfl, rfl, .inr ⟨by decide, by decide⟩, _, _, rfl, rfl, _, _, rfl, rfl, (by show (0 : Int) < _; decide),
      _, rfl, _, _, _, 0, rfl, rfl, h, rfl, ?_⟩
    refine ⟨_, rfl, _, _, _, _, rfl, rfl, SqL.of upd_same, rfl, _, rfl, _, _, _, _, rfl, rfl, SqL.of upd_same, rfl, _, _, rfl, rfl, ?_, _, _, rfl, rfl, (by show (0 : Int) < _; decide),
      _, _, rfl, rfl, ⟨by decide, by decide⟩, ?_⟩
    · refine .inl ⟨?_, ?_⟩
      · show -(2 ^ 64) < (s * 48271 + 11) % 2147483647
        omega
      · show (s * 48271 + 11) % 2147483647 < 2 ^ 64
        omega
    · generalize (s * 48271 + 11) % 2147483647 * ((s * 48271 + 11) % 2147483647) = z
      refine k _ _ ⟨Kp.put (List.mem_singleton.mpr rfl), (s * 48271 + 11) % 2147483647, ⟨by omega, by omega⟩, upd_same⟩ ?_ ?_
      · show 0 ≤ z % 2147483629 / 7
        omega
      · show z % 2147483629 / 7 < 2147483648
        omega
end
end Lz
namespace Lz
open PySem PySem.Spec PyProof.Rows L2
abbrev s__law_of : Stmt := top 31
/-- one of the items of a list, one of the signs of a text -/
def spOf (K : PySem.W.Frag) : Sp := fun vs H Q _ => ∃ (st : Addr) (x : V), vs = [.ref st, x] ∧ StAt H st ∧
  ((∃ (p : Addr) (xs : List V), x = .ref p ∧ SqL K H p xs ∧ xs ≠ [] ∧ p ≠ st ∧ ∀ (H' : Hp) (v : V), v ∈ xs → Drew st H H' → Q v H') ∨
   (∃ z : Str, x = .str z ∧ 0 < z.length ∧ z.length ≤ 1000 ∧ ∀ (H' : Hp) (c : Nat), c ∈ z.cps.toList → Drew st H H' → Q (.str ⟨#[c]⟩) H'))
section
variable {P : Program} {w : World} {K : PySem.W.Frag} {mg : Str → Option Value} {base : Heap}
theorem sc__law_of : FnScope ["_law_state_here", "_law_some"] ["_law_state_here", "_law_some"] (defScope s__law_of) := ⟨rfl, rfl, rfl, by decide +kernel, rfl, by decide +kernel, by decide +kernel⟩
theorem ok__law_of {f : Addr} {fd : FuncData} (F : FnP K "_law_of" "_law_of" s__law_of [] f fd) (T : Txt K mg) (G__law_next : FnAt P w K mg base CX0 1 "_law_next" ["_law_state_here"] [] spNext) :
    FnOk P w K mg base CX0 2 f fd ["_law_state_here", "_law_some"] (spOf K) := by
  have S := sc__law_of
  refine F.ok S (fun vs H Q E h => ?_) (fun cdv A outer s H vs Q E hr h => ?_)
  · obtain ⟨st, x, rfl, _⟩ := h
    rfl
  · obtain ⟨st, x, rfl, hst, h⟩ := h
    refine ⟨_, PSs.nox (pss_one (ps_ret (pe_ix ix_seq (pv 1) (pe_op op_mod (pe_fn G__law_next (hr.mono (by decide)) pass0 (pa_cons (pv 0) pa_nil)) (pe_callB call_len (by rfl) T.b_len PySem.boot_len (pa_cons (pv 1) pa_nil))) (fun _ _ => rfl)))), ?_⟩
    refine ⟨_, rfl, _, rfl, st, rfl, hst, fun H1 r d r0 r1 => ?_⟩
    rcases h with ⟨p, xs, rfl, hS, hne, n, k⟩ | ⟨z, rfl, z0, z1, k⟩
    · have hl : 0 < xs.length := List.length_pos_iff.mpr hne
      refine ⟨_, rfl, _, xs.length, rfl, .inl ⟨_, d.lst hS n, rfl⟩, _, _, rfl, rfl, by omega, ?_⟩
      have m0 := Int.emod_nonneg r (show (xs.length : Int) ≠ 0 by omega)
      have m1 := Int.emod_lt_of_pos r (show 0 < (xs.length : Int) by omega)
      have hi : (r % (xs.length : Int)).toNat < xs.length := by omega
      exact .inl ⟨p, xs, _, _, rfl, rfl, d.lst hS n, at_of (j := (r % (xs.length : Int)).toNat) (by omega) (List.getElem?_eq_getElem hi), k _ _ (List.getElem_mem hi) d⟩
    · refine ⟨_, rfl, _, z.length, rfl, ⟨sz _ (by omega), rfl⟩, _, _, rfl, rfl, by omega, ?_⟩
      have m0 := Int.emod_nonneg r (show (z.length : Int) ≠ 0 by omega)
      have m1 := Int.emod_lt_of_pos r (show 0 < (z.length : Int) by omega)
      have hi : (r % (z.length : Int)).toNat < z.cps.toList.length := by
        show (r % (z.length : Int)).toNat < z.length
        omega
      have e : atI z.cps.toList (r % (z.length : Int)) = some z.cps.toList[(r % (z.length : Int)).toNat] := by
        have e1 : r % (z.length : Int) = (((r % (z.length : Int)).toNat : Nat) : Int) := by omega
        have e2 := atI_nat (List.getElem?_eq_getElem hi)
        rw [← e1] at e2
        exact e2
      exact .inr (.inr ⟨z, _, _, rfl, rfl, sz _ (by omega), e, k _ _ (List.getElem_mem hi) d⟩)
end
end Lz
namespace Lz
open PySem PySem.Spec PyProof.Rows L2
abbrev s__law_far : Stmt := top 32
def spFar : Sp := fun vs H Q _ => ∃ (st : Addr) (m : Int), vs = [.ref st, .int m] ∧ StAt H st ∧ 0 < m ∧
  ∀ (H' : Hp) (r : Int), Drew st H H' → 0 ≤ r → r < m → Q (.int r) H'
section
variable {P : Program} {w : World} {K : PySem.W.Frag} {mg : Str → Option Value} {base : Heap}
theorem sc__law_far : FnScope ["_law_state_here", "_law_many", "_law_found", "_law_k"] ["_law_state_here", "_law_many"] (defScope s__law_far) := ⟨rfl, rfl, rfl, by decide +kernel, rfl, by decide +kernel, by decide +kernel⟩
theorem ok__law_far {f : Addr} {fd : FuncData} (F : FnP K "_law_far" "_law_far" s__law_far [] f fd) (T : Txt K mg) (G__law_next : FnAt P w K mg base CX0 1 "_law_next" ["_law_state_here"] [] spNext) :
    FnOk P w K mg base CX0 2 f fd ["_law_state_here", "_law_many"] spFar := by
  have S := sc__law_far
  refine F.ok S (fun vs H Q E h => ?_) (fun cdv A outer s H vs Q E hr h => ?_)
  · obtain ⟨st, m, rfl, _⟩ := h
    rfl
  · obtain ⟨st, m, rfl, hst, hm, k⟩ := h
    refine ⟨_, PSs.nox (pss_cons (ps_set (i := 2) S.nd rfl (Or.inl rfl) pe_int) (pss_cons (ps_for PassesOwn.never rfl (pi_range1 (by rfl) T.b_range (pa_cons pe_int pa_nil)) (pg_name (i := 3) S.nd rfl (Or.inl rfl)) (pss_one (ps_set (i := 2) S.nd rfl (Or.inl rfl) (pe_op op_add (pe_op op_mul (pv 2) (pe_op op_pow pe_int pe_int)) (pe_op op_mod (pe_fn G__law_next (hr.mono (by decide)) pass0 (pa_cons (pv 0) pa_nil)) (pe_op op_pow pe_int pe_int)))))) (pss_one (ps_ret (pe_op op_mod (pv 2) (pv 1)))))), ?_⟩
    refine ⟨7, rfl, by decide, by decide, for_range (lo := 0) (n := 7) (fun i σ H' => ∃ (v : Option V) (z : Int), σ = [some (.ref st), some (.int m), some (.int z), v] ∧ 0 ≤ z ∧ Drew st H H')
      ⟨none, 0, rfl, Int.le_refl 0, Drew.refl hst⟩ ?_ ?_⟩
    · rintro i σ H1 _ ⟨v, z, rfl, hz, d⟩
      have e9 : (10 : Int) ^ (9 : Int).toNat = 1000000000 := by decide
      refine ⟨_, rfl, _, _, rfl, rfl, ⟨by decide, by decide, by decide⟩, _, _, rfl, rfl, .inr ⟨by decide, by decide⟩, _, rfl, st, rfl, d.2, fun H2 r d2 r0 r1 => ?_⟩
      refine ⟨_, _, rfl, rfl, ⟨by decide, by decide, by decide⟩, _, _, rfl, rfl, by show (0 : Int) < 10 ^ (9 : Int).toNat; decide, _, _, rfl, rfl, ?_⟩
      refine ⟨_, _, rfl, ?_, d.trans d2⟩
      show 0 ≤ z * 10 ^ (9 : Int).toNat + r % 10 ^ (9 : Int).toNat
      rw [e9]
      omega
    · rintro σ H1 ⟨v, z, rfl, hz, d⟩
      refine ⟨_, rfl, _, rfl, _, _, rfl, rfl, hm, ?_⟩
      exact k _ _ d (Int.emod_nonneg z (by omega)) (Int.emod_lt_of_pos z hm)
end
end Lz
namespace Lz
open PySem PySem.Spec PyProof.Rows L2
abbrev s_is_number : Stmt := top 12
def spIsNum (K : PySem.W.Frag) : Sp := fun vs H Q _ => ∃ x, vs = [x] ∧ ((∃ i, x = .int i ∧ Q (.bl true) H) ∨ (NotNum K H x ∧ Q (.bl false) H))
section
variable {P : Program} {w : World} {K : PySem.W.Frag} {mg : Str → Option Value} {base : Heap}
theorem sc_is_number : FnScope ["thing"] ["thing"] (defScope s_is_number) := ⟨rfl, rfl, rfl, by decide +kernel, rfl, by decide +kernel, by decide +kernel⟩
theorem ok_is_number {f : Addr} {fd : FuncData} (F : FnP K "is_number" "is_number" s_is_number [] f fd) (T : Txt K mg)  :
    FnOk P w K mg base CX0 1 f fd ["thing"] (spIsNum K) := by
  have S := sc_is_number
  refine F.ok S (fun vs H Q E h => ?_) (fun cdv A outer s H vs Q E hr h => ?_)
  · obtain ⟨x, rfl, _⟩ := h
    rfl
  · obtain ⟨x, rfl, h⟩ := h
    refine ⟨_, PSs.nox (pss_one (ps_ret (pe_and (pe_callB call_isi (by rfl) T.b_isinstance (by decide +kernel) (pa_cons (pv 0) (pa_cons (pe_bltn (v := .ty "int") (by rfl) T.b_int (by decide +kernel) rfl) pa_nil))) (pe_one (pe_not (pe_callB call_isi (by rfl) T.b_isinstance (by decide +kernel) (pa_cons (pv 0) (pa_cons (pe_bltn (v := .ty "bool") (by rfl) T.b_bool (by decide +kernel) rfl) pa_nil)))))))), ?_⟩
    rcases h with ⟨i, rfl, k⟩ | ⟨⟨t, ht, hm⟩, k⟩
    · refine ⟨_, rfl, _, _, _, _, true, rfl, .ty _, .base (.int i), kit_ty (by decide +kernel), _, rfl, ?_⟩
      exact iteT ⟨_, rfl, _, _, _, _, false, rfl, .ty _, .base (.int i), kit_ty (by decide +kernel), _, rfl, k⟩
    · simp only [List.mem_cons, List.not_mem_nil, or_false] at hm
      rcases hm with rfl | rfl | rfl | rfl | rfl | rfl
      · exact ⟨_, rfl, _, _, _, _, false, rfl, .ty _, ht, kit_ty (by decide +kernel), _, rfl, iteF k⟩
      · refine ⟨_, rfl, _, _, _, _, true, rfl, .ty _, ht, kit_ty (by decide +kernel), _, rfl, iteT ?_⟩
        exact ⟨_, rfl, _, _, _, _, true, rfl, .ty _, ht, kit_ty (by decide +kernel), _, rfl, k⟩
      · exact ⟨_, rfl, _, _, _, _, false, rfl, .ty _, ht, kit_ty (by decide +kernel), _, rfl, iteF k⟩
      · exact ⟨_, rfl, _, _, _, _, false, rfl, .ty _, ht, kit_ty (by decide +kernel), _, rfl, iteF k⟩
      · exact ⟨_, rfl, _, _, _, _, false, rfl, .ty _, ht, kit_ty (by decide +kernel), _, rfl, iteF k⟩
      · exact ⟨_, rfl, _, _, _, _, false, rfl, .ty _, ht, kit_ty (by decide +kernel), _, rfl, iteF k⟩
end
end Lz
namespace Lz
open PySem PySem.Spec PyProof.Rows L2
abbrev s_need_many : Stmt := top 13
/-- a number from lo to the second, or the class's refusal -/
def spNeed (K : PySem.W.Frag) (C : Addr) (lo : Int) : Sp := fun vs H Q E => ∃ x m, vs = [x, .int m] ∧
  ((∃ i, x = .int i ∧ lo ≤ i ∧ i ≤ m ∧ Q .non H) ∨ (OutN K H lo m x ∧ E (.ref C) none H))
section
variable {P : Program} {w : World} {K : PySem.W.Frag} {mg : Str → Option Value} {base : Heap}
theorem sc_need_many : FnScope ["many", "most"] ["many", "most"] (defScope s_need_many) := ⟨rfl, rfl, rfl, by decide +kernel, rfl, by decide +kernel, by decide +kernel⟩
theorem ok_need_many {f : Addr} {fd : FuncData} (F : FnP K "need_many" "need_many" s_need_many [] f fd) (T : Txt K mg) (G_is_number : FnAt P w K mg base CX0 1 "is_number" ["thing"] [] (spIsNum K)) :
    FnOk P w K mg base (CXr P w) 2 f fd ["many", "most"] (spNeed K (cNoMany K) 1) := by
  have S := sc_need_many
  refine F.ok S (fun vs H Q E h => ?_) (fun cdv A outer s H vs Q E hr h => ?_)
  · obtain ⟨x, m, rfl, _⟩ := h
    rfl
  · obtain ⟨x, m, rfl, h⟩ := h
    refine ⟨_, (pss_one (ps_if (PW.pt (pw_or (pt_not (pt_val (pe_fn G_is_number (hr.mono (by decide)) pass0 (pa_cons (pv 0) pa_nil)))) (pw_or1 (pt_not (pt_chain op_le op_le pe_int (pv 0) (pv 1)))))) (pss_one (ps_raise rfl (takes_of rfl rfl rfl rfl) (pmk_t T.x_NoMany T.g_NoMany))) pss_nil)), ?_⟩
    rcases h with ⟨i, rfl, h1, h2, k⟩ | ⟨⟨hn⟩ | ⟨i, rfl, hn⟩, k⟩
    · refine ⟨_, rfl, _, rfl, .inl ⟨i, rfl, _, rfl, iteF ?_⟩⟩
      refine ⟨_, rfl, _, _, rfl, rfl, _, rfl, ?_⟩
      rw [decide_eq_true h1]
      refine iteT ⟨_, rfl, _, _, rfl, rfl, _, rfl, ?_⟩
      rw [decide_eq_true h2]
      exact iteF k
    · exact ⟨_, rfl, _, rfl, .inr ⟨‹_›, _, rfl, iteT (iteT k)⟩⟩
    · refine ⟨_, rfl, _, rfl, .inl ⟨i, rfl, _, rfl, iteF ?_⟩⟩
      refine ⟨_, rfl, _, _, rfl, rfl, _, rfl, ?_⟩
      by_cases h1 : 1 ≤ i
      · rw [decide_eq_true h1]
        refine iteT ⟨_, rfl, _, _, rfl, rfl, _, rfl, ?_⟩
        rw [decide_eq_false (by omega)]
        exact iteT k
      · rw [decide_eq_false h1]
        exact iteF ⟨_, rfl, iteT k⟩
end
end Lz
namespace Lz
open PySem PySem.Spec PyProof.Rows L2
abbrev s_need_step : Stmt := top 14
section
variable {P : Program} {w : World} {K : PySem.W.Frag} {mg : Str → Option Value} {base : Heap}
theorem sc_need_step : FnScope ["step", "most"] ["step", "most"] (defScope s_need_step) := ⟨rfl, rfl, rfl, by decide +kernel, rfl, by decide +kernel, by decide +kernel⟩
theorem ok_need_step {f : Addr} {fd : FuncData} (F : FnP K "need_step" "need_step" s_need_step [] f fd) (T : Txt K mg) (G_is_number : FnAt P w K mg base CX0 1 "is_number" ["thing"] [] (spIsNum K)) :
    FnOk P w K mg base (CXr P w) 2 f fd ["step", "most"] (spNeed K (cNoStep K) 1) := by
  have S := sc_need_step
  refine F.ok S (fun vs H Q E h => ?_) (fun cdv A outer s H vs Q E hr h => ?_)
  · obtain ⟨x, m, rfl, _⟩ := h
    rfl
  · obtain ⟨x, m, rfl, h⟩ := h
    refine ⟨_, (pss_one (ps_if (PW.pt (pw_or (pt_not (pt_val (pe_fn G_is_number (hr.mono (by decide)) pass0 (pa_cons (pv 0) pa_nil)))) (pw_or1 (pt_not (pt_chain op_le op_le pe_int (pv 0) (pv 1)))))) (pss_one (ps_raise rfl (takes_of rfl rfl rfl rfl) (pmk_t T.x_NoStep T.g_NoStep))) pss_nil)), ?_⟩
    rcases h with ⟨i, rfl, h1, h2, k⟩ | ⟨⟨hn⟩ | ⟨i, rfl, hn⟩, k⟩
    · refine ⟨_, rfl, _, rfl, .inl ⟨i, rfl, _, rfl, iteF ?_⟩⟩
      refine ⟨_, rfl, _, _, rfl, rfl, _, rfl, ?_⟩
      rw [decide_eq_true h1]
      refine iteT ⟨_, rfl, _, _, rfl, rfl, _, rfl, ?_⟩
      rw [decide_eq_true h2]
      exact iteF k
    · exact ⟨_, rfl, _, rfl, .inr ⟨‹_›, _, rfl, iteT (iteT k)⟩⟩
    · refine ⟨_, rfl, _, rfl, .inl ⟨i, rfl, _, rfl, iteF ?_⟩⟩
      refine ⟨_, rfl, _, _, rfl, rfl, _, rfl, ?_⟩
      by_cases h1 : 1 ≤ i
      · rw [decide_eq_true h1]
        refine iteT ⟨_, rfl, _, _, rfl, rfl, _, rfl, ?_⟩
        rw [decide_eq_false (by omega)]
        exact iteT k
      · rw [decide_eq_false h1]
        exact iteF ⟨_, rfl, iteT k⟩
end
end Lz
namespace Lz
open PySem PySem.Spec PyProof.Rows L2
abbrev s_need_place : Stmt := top 15
def spPlace (K : PySem.W.Frag) : Sp := fun vs H Q E => ∃ x m, vs = [.int m, x] ∧
  ((∃ i, x = .int i ∧ 0 ≤ i ∧ i < m ∧ Q .non H) ∨ (OutN K H 0 (m - 1) x ∧ E (.ref (cNoPlace K)) none H))
section
variable {P : Program} {w : World} {K : PySem.W.Frag} {mg : Str → Option Value} {base : Heap}
theorem sc_need_place : FnScope ["many", "place"] ["many", "place"] (defScope s_need_place) := ⟨rfl, rfl, rfl, by decide +kernel, rfl, by decide +kernel, by decide +kernel⟩
theorem ok_need_place {f : Addr} {fd : FuncData} (F : FnP K "need_place" "need_place" s_need_place [] f fd) (T : Txt K mg) (G_is_number : FnAt P w K mg base CX0 1 "is_number" ["thing"] [] (spIsNum K)) :
    FnOk P w K mg base (CXr P w) 2 f fd ["many", "place"] (spPlace K) := by
  have S := sc_need_place
  refine F.ok S (fun vs H Q E h => ?_) (fun cdv A outer s H vs Q E hr h => ?_)
  · obtain ⟨x, m, rfl, _⟩ := h
    rfl
  · obtain ⟨x, m, rfl, h⟩ := h
    refine ⟨_, (pss_one (ps_if (PW.pt (pw_or (pt_not (pt_val (pe_fn G_is_number (hr.mono (by decide)) pass0 (pa_cons (pv 1) pa_nil)))) (pw_or1 (pt_not (pt_chain op_le op_lt pe_int (pv 1) (pv 0)))))) (pss_one (ps_raise rfl (takes_of rfl rfl rfl rfl) (pmk_t T.x_NoPlace T.g_NoPlace))) pss_nil)), ?_⟩
    rcases h with ⟨i, rfl, h1, h2, k⟩ | ⟨⟨hn⟩ | ⟨i, rfl, hn⟩, k⟩
    · refine ⟨_, rfl, _, rfl, .inl ⟨i, rfl, _, rfl, iteF ?_⟩⟩
      refine ⟨_, rfl, _, _, rfl, rfl, _, rfl, ?_⟩
      rw [decide_eq_true h1]
      refine iteT ⟨_, rfl, _, _, rfl, rfl, _, rfl, ?_⟩
      rw [decide_eq_true h2]
      exact iteF k
    · exact ⟨_, rfl, _, rfl, .inr ⟨‹_›, _, rfl, iteT (iteT k)⟩⟩
    · refine ⟨_, rfl, _, rfl, .inl ⟨i, rfl, _, rfl, iteF ?_⟩⟩
      refine ⟨_, rfl, _, _, rfl, rfl, _, rfl, ?_⟩
      by_cases h1 : 0 ≤ i
      · rw [decide_eq_true h1]
        refine iteT ⟨_, rfl, _, _, rfl, rfl, _, rfl, ?_⟩
        rw [decide_eq_false (by omega)]
        exact iteT k
      · rw [decide_eq_false h1]
        exact iteF ⟨_, rfl, iteT k⟩
end
end Lz
namespace Lz
open PySem PySem.Spec PyProof.Rows L2
abbrev s_need_told : Stmt := top 21
/-- a ring's number of hands, its step, its beginning, looked at from the left -/
def Told (K : PySem.W.Frag) (H : Hp) (E : XK) (x y z : V) (k : Nat → Nat → Nat → Prop) : Prop :=
  (OutN K H 1 (10 ^ 60) x ∧ E (.ref (cNoMany K)) none H) ∨ ∃ n : Nat, x = .int n ∧ 1 ≤ n ∧ n ≤ 10 ^ 60 ∧
  ((OutN K H 1 100 y ∧ E (.ref (cNoStep K)) none H) ∨ ∃ s : Nat, y = .int s ∧ 1 ≤ s ∧ s ≤ 100 ∧
  ((OutN K H 0 ((n : Int) - 1) z ∧ E (.ref (cNoPlace K)) none H) ∨ ∃ b : Nat, z = .int b ∧ b < n ∧ k n s b))
def spTold (K : PySem.W.Frag) : Sp := fun vs H Q E => ∃ x y z, vs = [x, y, z] ∧ Told K H E x y z fun _ _ _ => Q .non H
section
variable {P : Program} {w : World} {K : PySem.W.Frag} {mg : Str → Option Value} {base : Heap}
theorem sc_need_told : FnScope ["many", "step", "begin"] ["many", "step", "begin"] (defScope s_need_told) := ⟨rfl, rfl, rfl, by decide +kernel, rfl, by decide +kernel, by decide +kernel⟩
theorem ok_need_told {f : Addr} {fd : FuncData} (F : FnP K "need_told" "need_told" s_need_told [] f fd) (T : Txt K mg) (G_need_many : FnAt P w K mg base (CXr P w) 2 "need_many" ["many", "most"] [] (spNeed K (cNoMany K) 1)) (G_need_step : FnAt P w K mg base (CXr P w) 2 "need_step" ["step", "most"] [] (spNeed K (cNoStep K) 1)) (G_need_place : FnAt P w K mg base (CXr P w) 2 "need_place" ["many", "place"] [] (spPlace K)) :
    FnOk P w K mg base (CXr P w) 3 f fd ["many", "step", "begin"] (spTold K) := by
  have S := sc_need_told
  refine F.ok S (fun vs H Q E h => ?_) (fun cdv A outer s H vs Q E hr h => ?_)
  · obtain ⟨x, y, z, rfl, _⟩ := h
    rfl
  · obtain ⟨x, y, z, rfl, h⟩ := h
    refine ⟨_, (pss_cons (ps_expr (pe_fn G_need_many (hr.mono (by decide)) (passes_call (takes_of rfl rfl rfl rfl) (fun _ _ _ _ h => h)) (pa_cons (pv 0) (pa_cons (pe_gint T.c_GREATEST) pa_nil)))) (pss_cons (ps_expr (pe_fn G_need_step (hr.mono (by decide)) (passes_call (takes_of rfl rfl rfl rfl) (fun _ _ _ _ h => h)) (pa_cons (pv 1) (pa_cons (pe_gint T.c_MOST_STEP) pa_nil)))) (pss_one (ps_expr (pe_fn G_need_place (hr.mono (by decide)) (passes_call (takes_of rfl rfl rfl rfl) (fun _ _ _ _ h => h)) (pa_cons (pv 0) (pa_cons (pv 2) pa_nil))))))), ?_⟩
    rcases h with ⟨o, k⟩ | ⟨n, rfl, n1, n2, h⟩
    · exact ⟨_, rfl, _, _, rfl, .inr ⟨o, k⟩⟩
    refine ⟨_, rfl, _, _, rfl, .inl ⟨n, rfl, by omega, by omega, ?_⟩⟩
    rcases h with ⟨o, k⟩ | ⟨s', rfl, s1, s2, h⟩
    · exact ⟨_, rfl, _, _, rfl, .inr ⟨o, k⟩⟩
    refine ⟨_, rfl, _, _, rfl, .inl ⟨s', rfl, by omega, by omega, ?_⟩⟩
    rcases h with ⟨o, k⟩ | ⟨b, rfl, b1, h⟩
    · exact ⟨_, rfl, _, rfl, _, _, rfl, .inr ⟨o, k⟩⟩
    exact ⟨_, rfl, _, rfl, _, _, rfl, .inl ⟨b, rfl, by omega, by omega, h⟩⟩
end
end Lz
namespace Lz
open PySem PySem.Spec PyProof.Rows L2
abbrev s_count_by : Stmt := top 19
/-- the count c of the one who is told N first -/
def spCountBy : Sp := fun vs H Q _ => ∃ n s N : Nat, vs = [.int n, .int s, .int N] ∧ 1 ≤ s ∧ s ≤ 100 ∧ 1 ≤ N ∧ N ≤ n * s ∧
  ∀ c : Nat, 1 ≤ c → c ≤ n → Jo.pos s n (c * s) = Jo.pos s n N → Q (.int c) H
section
variable {P : Program} {w : World} {K : PySem.W.Frag} {mg : Str → Option Value} {base : Heap}
theorem sc_count_by : FnScope ["many", "step", "number"] ["many", "step", "number"] (defScope s_count_by) := ⟨rfl, rfl, rfl, by decide +kernel, rfl, by decide +kernel, by decide +kernel⟩
theorem ok_count_by {f : Addr} {fd : FuncData} (F : FnP K "count_by" "count_by" s_count_by [] f fd) (T : Txt K mg)  :
    FnOk P w K mg base CX0 1 f fd ["many", "step", "number"] spCountBy := by
  have S := sc_count_by
  refine F.ok S (fun vs H Q E h => ?_) (fun cdv A outer s H vs Q E hr h => ?_)
  · obtain ⟨n, s, N, rfl, _⟩ := h
    rfl
  · obtain ⟨n, s, N, rfl, hs, hs2, hN, hN2, k⟩ := h
    refine ⟨_, PSs.nox (pss_cons (ps_while PassesOwn.never (pt_cmpR op_gt (pe_op op_mod (pv 2) (pv 1)) pe_int (nomark _)) (pss_one (ps_set (i := 2) S.nd rfl (Or.inl rfl) (pe_op op_sub (pe_op op_add (pv 0) (pv 2)) (pe_op op_fdiv (pv 2) (pv 1)))))) (pss_one (ps_ret (pe_op op_fdiv (pv 2) (pv 1))))), ?_⟩
    refine ⟨fun m σ H' => ∃ M : Nat, σ = [some (.int n), some (.int s), some (.int M)] ∧ H' = H ∧ m = n * s - M ∧ 1 ≤ M ∧ M ≤ n * s ∧ Jo.pos s n M = Jo.pos s n N,
      ⟨_, N, rfl, rfl, rfl, hN, hN2, rfl⟩, ?_⟩
    rintro m σ H' ⟨M, rfl, rfl, rfl, h1, h2, h3⟩
    refine ⟨_, rfl, _, rfl, _, _, rfl, rfl, by show (0 : Int) < (s : Int); omega, _, _, rfl, rfl, _, rfl, ite2 (fun c => ?_) (fun c => ?_)⟩
    · have c1 : 0 < (M : Int) % (s : Int) := of_decide_eq_true c
      have c2 : 0 < M % s := by omega
      have hs1 : 2 ≤ s := by
        by_cases e : s = 1
        · rw [e, Nat.mod_one] at c2
          exact absurd c2 (Nat.lt_irrefl 0)
        · omega
      obtain ⟨a1, a2, a3, a4⟩ := Jo.next_prev hs1 c2 h2
      have d1 : M / s ≤ M := Nat.div_le_self M s
      refine ⟨_, fun _ _ h => h, ?_⟩
      refine ⟨_, rfl, _, rfl, _, _, rfl, rfl, _, rfl, _, rfl, _, _, rfl, rfl, ⟨by omega, by omega⟩, _, _, rfl, rfl, ?_⟩
      refine ⟨_, ?_, n + M - M / s, ?_, rfl, rfl, by omega, a2, ?_⟩
      · omega
      · have e : (n : Int) + (M : Int) - (M : Int) / (s : Int) = ((n + M - M / s : Nat) : Int) := by omega
        show [some (V.int n), some (V.int s), some (V.int ((n : Int) + (M : Int) - (M : Int) / (s : Int)))] = _
        rw [e]
      · rw [← h3, ← Jo.pos_prev hs1 a1 a2, a4]
    · have c1 : ¬ 0 < (M : Int) % (s : Int) := fun q => c (decide_eq_true q)
      have c2 : M % s = 0 := by omega
      have d := Nat.div_add_mod M s
      rw [c2, Nat.add_zero, Nat.mul_comm] at d
      refine ⟨_, rfl, _, rfl, _, _, rfl, rfl, ⟨by omega, by omega⟩, ?_⟩
      refine k (M / s) ?_ ?_ ?_
      · rcases Nat.eq_zero_or_pos (M / s) with z | z
        · rw [z, Nat.zero_mul] at d
          omega
        · exact z
      · have q : M / s * s ≤ n * s := by omega
        exact Nat.le_of_mul_le_mul_right q (by omega)
      · rw [d, h3]
end
end Lz
namespace Lz
open PySem PySem.Spec PyProof.Rows L2
abbrev s_count_of : Stmt := top 22
def spCountOf (K : PySem.W.Frag) : Sp := fun vs H Q E => ∃ x y z u, vs = [x, y, z, u] ∧ Told K H E x y z fun n s b =>
  (OutN K H 0 ((n : Int) - 1) u ∧ E (.ref (cNoPlace K)) none H) ∨ ∃ p : Nat, u = .int p ∧ p < n ∧
    ∀ c : Nat, 1 ≤ c → c ≤ n → Jo.pos s n (c * s) = (p + n - b) % n → Q (.int c) H
section
variable {P : Program} {w : World} {K : PySem.W.Frag} {mg : Str → Option Value} {base : Heap}
theorem sc_count_of : FnScope ["many", "step", "begin", "place"] ["many", "step", "begin", "place"] (defScope s_count_of) := ⟨rfl, rfl, rfl, by decide +kernel, rfl, by decide +kernel, by decide +kernel⟩
theorem ok_count_of {f : Addr} {fd : FuncData} (F : FnP K "count_of" "count_of" s_count_of [] f fd) (T : Txt K mg) (G_need_told : FnAt P w K mg base (CXr P w) 3 "need_told" ["many", "step", "begin"] [] (spTold K)) (G_need_place : FnAt P w K mg base (CXr P w) 2 "need_place" ["many", "place"] [] (spPlace K)) (G_count_by : FnAt P w K mg base CX0 1 "count_by" ["many", "step", "number"] [] spCountBy) :
    FnOk P w K mg base (CXr P w) 4 f fd ["many", "step", "begin", "place"] (spCountOf K) := by
  have S := sc_count_of
  refine F.ok S (fun vs H Q E h => ?_) (fun cdv A outer s H vs Q E hr h => ?_)
  · obtain ⟨x, y, z, u, rfl, _⟩ := h
    rfl
  · obtain ⟨x, y, z, u, rfl, h⟩ := h
    refine ⟨_, (pss_cons (ps_expr (pe_fn G_need_told (hr.mono (by decide)) (passes_call (takes_of rfl rfl rfl rfl) (fun _ _ _ _ h => h)) (pa_cons (pv 0) (pa_cons (pv 1) (pa_cons (pv 2) pa_nil))))) (pss_cons (ps_expr (pe_fn G_need_place (hr.mono (by decide)) (passes_call (takes_of rfl rfl rfl rfl) (fun _ _ _ _ h => h)) (pa_cons (pv 0) (pa_cons (pv 3) pa_nil)))) (PSs.nox (pss_one (ps_ret (pe_fn G_count_by (hr.mono (by decide)) pass0 (pa_cons (pv 0) (pa_cons (pv 1) (pa_cons (pe_op op_add (pe_op op_mod (pe_op op_sub (pv 3) (pv 2)) (pv 0)) pe_int) pa_nil))))))))), ?_⟩
    refine ⟨_, rfl, _, rfl, _, rfl, _, _, _, rfl, ?_⟩
    rcases h with h | ⟨n, rfl, n1, n2, h⟩
    · exact .inl h
    refine .inr ⟨n, rfl, n1, n2, ?_⟩
    rcases h with h | ⟨s', rfl, s1, s2, h⟩
    · exact .inl h
    refine .inr ⟨s', rfl, s1, s2, ?_⟩
    rcases h with h | ⟨b, rfl, b1, h⟩
    · exact .inl h
    refine .inr ⟨b, rfl, b1, ?_⟩
    rcases h with ⟨o, k⟩ | ⟨q, rfl, q1, k⟩
    · exact ⟨_, rfl, _, rfl, _, _, rfl, .inr ⟨o, k⟩⟩
    refine ⟨_, rfl, _, rfl, _, _, rfl, .inl ⟨q, rfl, by omega, by omega, ?_⟩⟩
    refine ⟨_, rfl, _, rfl, _, rfl, _, rfl, _, _, rfl, rfl, _, rfl, _, _, rfl, rfl, by show (0 : Int) < (n : Int); omega, _, _, rfl, rfl, ?_⟩
    have e : ((q : Int) - (b : Int)) % (n : Int) + 1 = (((q + n - b) % n + 1 : Nat) : Int) := by
      have e1 : ((q : Int) - (b : Int)) % (n : Int) = ((q : Int) - (b : Int) + (n : Int)) % (n : Int) := by rw [Int.add_emod_right]
      have e2 : (q : Int) - (b : Int) + (n : Int) = ((q + n - b : Nat) : Int) := by omega
      rw [e1, e2]
      rfl
    have hm := Nat.mod_lt (q + n - b) (show 0 < n by omega)
    refine ⟨n, s', (q + n - b) % n + 1, ?_, s1, s2, by omega, ?_, fun c c1 c2 hc => k c c1 c2 ?_⟩
    · show [V.int n, V.int s', V.int (((q : Int) - (b : Int)) % (n : Int) + 1)] = _
      rw [e]
    · have q2 : n * 1 ≤ n * s' := Nat.mul_le_mul_left n s1
      omega
    · rw [hc, Jo.pos_first s1 (by omega) (by omega)]
      omega
end
end Lz
namespace Lz
open PySem PySem.Spec PyProof.Rows L2
abbrev s_need_count : Stmt := top 16
def spCount (K : PySem.W.Frag) : Sp := fun vs H Q E => ∃ x lo m, vs = [.int lo, x, .int m] ∧
  ((∃ i, x = .int i ∧ lo ≤ i ∧ i ≤ m ∧ Q .non H) ∨ (OutN K H lo m x ∧ E (.ref (cNoCount K)) none H))
section
variable {P : Program} {w : World} {K : PySem.W.Frag} {mg : Str → Option Value} {base : Heap}
theorem sc_need_count : FnScope ["least", "count", "most"] ["least", "count", "most"] (defScope s_need_count) := ⟨rfl, rfl, rfl, by decide +kernel, rfl, by decide +kernel, by decide +kernel⟩
theorem ok_need_count {f : Addr} {fd : FuncData} (F : FnP K "need_count" "need_count" s_need_count [] f fd) (T : Txt K mg) (G_is_number : FnAt P w K mg base CX0 1 "is_number" ["thing"] [] (spIsNum K)) :
    FnOk P w K mg base (CXr P w) 2 f fd ["least", "count", "most"] (spCount K) := by
  have S := sc_need_count
  refine F.ok S (fun vs H Q E h => ?_) (fun cdv A outer s H vs Q E hr h => ?_)
  · obtain ⟨x, lo, m, rfl, _⟩ := h
    rfl
  · obtain ⟨x, lo, m, rfl, h⟩ := h
    refine ⟨_, (pss_one (ps_if (PW.pt (pw_or (pt_not (pt_val (pe_fn G_is_number (hr.mono (by decide)) pass0 (pa_cons (pv 1) pa_nil)))) (pw_or1 (pt_not (pt_chain op_le op_le (pv 0) (pv 1) (pv 2)))))) (pss_one (ps_raise rfl (takes_of rfl rfl rfl rfl) (pmk_t T.x_NoCount T.g_NoCount))) pss_nil)), ?_⟩
    rcases h with ⟨i, rfl, h1, h2, k⟩ | ⟨⟨hn⟩ | ⟨i, rfl, hn⟩, k⟩
    · refine ⟨_, rfl, _, rfl, .inl ⟨i, rfl, _, rfl, iteF ?_⟩⟩
      refine ⟨_, rfl, _, rfl, _, _, rfl, rfl, _, rfl, ?_⟩
      rw [decide_eq_true h1]
      refine iteT ⟨_, rfl, _, _, rfl, rfl, _, rfl, ?_⟩
      rw [decide_eq_true h2]
      exact iteF k
    · exact ⟨_, rfl, _, rfl, .inr ⟨‹_›, _, rfl, iteT (iteT k)⟩⟩
    · refine ⟨_, rfl, _, rfl, .inl ⟨i, rfl, _, rfl, iteF ?_⟩⟩
      refine ⟨_, rfl, _, rfl, _, _, rfl, rfl, _, rfl, ?_⟩
      by_cases h1 : lo ≤ i
      · rw [decide_eq_true h1]
        refine iteT ⟨_, rfl, _, _, rfl, rfl, _, rfl, ?_⟩
        rw [decide_eq_false (by omega)]
        exact iteT k
      · rw [decide_eq_false h1]
        exact iteF ⟨_, rfl, iteT k⟩
end
end Lz
namespace Lz
open PySem PySem.Spec PyProof.Rows L2
abbrev s_first_number : Stmt := top 20
def spFirst : Sp := fun vs H Q _ => ∃ n s c : Nat, vs = [.int n, .int s, .int c] ∧ 1 ≤ s ∧ s ≤ 100 ∧ 1 ≤ c ∧ c ≤ n ∧ Q (.int ((Jo.pos s n (c * s) + 1 : Nat) : Int)) H
section
variable {P : Program} {w : World} {K : PySem.W.Frag} {mg : Str → Option Value} {base : Heap}
theorem sc_first_number : FnScope ["many", "step", "count", "number", "passed"] ["many", "step", "count"] (defScope s_first_number) := ⟨rfl, rfl, rfl, by decide +kernel, rfl, by decide +kernel, by decide +kernel⟩
theorem ok_first_number {f : Addr} {fd : FuncData} (F : FnP K "first_number" "first_number" s_first_number [] f fd) (T : Txt K mg)  :
    FnOk P w K mg base CX0 1 f fd ["many", "step", "count"] spFirst := by
  have S := sc_first_number
  refine F.ok S (fun vs H Q E h => ?_) (fun cdv A outer s H vs Q E hr h => ?_)
  · obtain ⟨n, s, N, rfl, _⟩ := h
    rfl
  · obtain ⟨n, s, c, rfl, hs, hs2, hc, hc2, k⟩ := h
    refine ⟨_, PSs.nox (pss_cons (ps_set (i := 3) S.nd rfl (Or.inl rfl) (pe_op op_mul (pv 2) (pv 1))) (pss_cons (ps_while PassesOwn.never (pt_cmpR op_gt (pv 3) (pv 0) (nomark _)) (pss_cons (ps_set (i := 4) S.nd rfl (Or.inl rfl) (pe_op op_sub (pv 3) (pv 0))) (pss_one (ps_set (i := 3) S.nd rfl (Or.inl rfl) (pe_op op_add (pv 4) (pe_op op_fdiv (pe_op op_sub (pv 4) pe_int) (pe_op op_sub (pv 1) pe_int))))))) (pss_one (ps_ret (pv 3))))), ?_⟩
    refine ⟨_, rfl, _, rfl, _, _, rfl, rfl, .inr ⟨by omega, by omega⟩, ?_⟩
    have hcs : 1 ≤ c * s := Nat.mul_pos (by omega) (by omega)
    refine ⟨fun m σ H' => ∃ (M : Nat) (v : Option V), σ = [some (.int n), some (.int s), some (.int c), some (.int M), v] ∧ H' = H ∧ m = M ∧ 1 ≤ M ∧ M ≤ n * s ∧ Jo.pos s n M = Jo.pos s n (c * s),
      ⟨_, c * s, none, ?_, rfl, rfl, hcs, Nat.mul_le_mul_right s hc2, rfl⟩, ?_⟩
    · have e : (c : Int) * (s : Int) = ((c * s : Nat) : Int) := (Int.natCast_mul c s).symm
      show [some (V.int n), some (V.int s), some (V.int c), some (V.int ((c : Int) * (s : Int))), none] = _
      rw [e]
    rintro m σ H' ⟨M, v, rfl, rfl, em, h1, h2, h3⟩
    refine ⟨_, rfl, _, rfl, _, _, rfl, rfl, _, rfl, ite2 (fun z => ?_) (fun z => ?_)⟩
    · have z1 : (n : Int) < (M : Int) := of_decide_eq_true z
      have z2 : n < M := by omega
      have hs1 : 2 ≤ s := by
        by_cases e : s = 1
        · rw [e, Nat.mul_one] at h2
          omega
        · omega
      have a1 := Jo.pos_prev hs1 z2 h2
      have a2 := Jo.prev_lt hs1 z2 h2
      have a3 := Jo.prev_pos (s := s) z2
      refine ⟨_, fun _ _ h => h, ?_⟩
      refine ⟨_, rfl, _, rfl, _, _, rfl, rfl, ?_⟩
      refine ⟨_, rfl, _, rfl, _, _, rfl, rfl, _, rfl, _, _, rfl, rfl, _, _, rfl, rfl, ⟨by omega, by omega⟩, _, _, rfl, rfl, ?_⟩
      refine ⟨Jo.prev s n M, by omega, Jo.prev s n M, some (.int ((M : Int) - (n : Int))), ?_, rfl, rfl, a3, by omega, ?_⟩
      · have e : (M : Int) - (n : Int) + ((M : Int) - (n : Int) - 1) / ((s : Int) - 1) = ((Jo.prev s n M : Nat) : Int) := by
          have e1 : (M : Int) - (n : Int) - 1 = ((M - n - 1 : Nat) : Int) := by omega
          have e2 : (s : Int) - 1 = ((s - 1 : Nat) : Int) := by omega
          have e3 : ((M - n - 1 : Nat) : Int) / ((s - 1 : Nat) : Int) = (((M - n - 1) / (s - 1) : Nat) : Int) := rfl
          rw [e1, e2, e3]
          unfold Jo.prev
          generalize (M - n - 1) / (s - 1) = q
          omega
        show [some (V.int n), some (V.int s), some (V.int c), some (V.int ((M : Int) - (n : Int) + ((M : Int) - (n : Int) - 1) / ((s : Int) - 1))), _] = _
        rw [e]
      · rw [a1, h3]
    · have z1 : ¬ (n : Int) < (M : Int) := fun q => z (decide_eq_true q)
      refine ⟨_, rfl, ?_⟩
      have e := Jo.pos_first hs h1 (show M ≤ n by omega)
      have e2 : M = Jo.pos s n (c * s) + 1 := by
        rw [← h3, e]
        omega
      show Q (.int (M : Int)) H'
      rw [e2]
      exact k
end
end Lz
namespace Lz
open PySem PySem.Spec PyProof.Rows L2
abbrev s_goes_at : Stmt := top 23
def spGoesAt (K : PySem.W.Frag) : Sp := fun vs H Q E => ∃ x y z u, vs = [x, y, z, u] ∧ Told K H E x y z fun n s b =>
  (OutN K H 1 (n : Int) u ∧ E (.ref (cNoCount K)) none H) ∨ ∃ c : Nat, u = .int c ∧ 1 ≤ c ∧ c ≤ n ∧
    Q (.int (((b + Jo.pos s n (c * s)) % n : Nat) : Int)) H
section
variable {P : Program} {w : World} {K : PySem.W.Frag} {mg : Str → Option Value} {base : Heap}
theorem sc_goes_at : FnScope ["many", "step", "begin", "count"] ["many", "step", "begin", "count"] (defScope s_goes_at) := ⟨rfl, rfl, rfl, by decide +kernel, rfl, by decide +kernel, by decide +kernel⟩
theorem ok_goes_at {f : Addr} {fd : FuncData} (F : FnP K "goes_at" "goes_at" s_goes_at [] f fd) (T : Txt K mg) (G_need_told : FnAt P w K mg base (CXr P w) 3 "need_told" ["many", "step", "begin"] [] (spTold K)) (G_need_count : FnAt P w K mg base (CXr P w) 2 "need_count" ["least", "count", "most"] [] (spCount K)) (G_first_number : FnAt P w K mg base CX0 1 "first_number" ["many", "step", "count"] [] spFirst) :
    FnOk P w K mg base (CXr P w) 4 f fd ["many", "step", "begin", "count"] (spGoesAt K) := by
  have S := sc_goes_at
  refine F.ok S (fun vs H Q E h => ?_) (fun cdv A outer s H vs Q E hr h => ?_)
  · obtain ⟨x, y, z, u, rfl, _⟩ := h
    rfl
  · obtain ⟨x, y, z, u, rfl, h⟩ := h
    refine ⟨_, (pss_cons (ps_expr (pe_fn G_need_told (hr.mono (by decide)) (passes_call (takes_of rfl rfl rfl rfl) (fun _ _ _ _ h => h)) (pa_cons (pv 0) (pa_cons (pv 1) (pa_cons (pv 2) pa_nil))))) (pss_cons (ps_expr (pe_fn G_need_count (hr.mono (by decide)) (passes_call (takes_of rfl rfl rfl rfl) (fun _ _ _ _ h => h)) (pa_cons pe_int (pa_cons (pv 3) (pa_cons (pv 0) pa_nil))))) (PSs.nox (pss_one (ps_ret (pe_op op_mod (pe_op op_sub (pe_op op_add (pv 2) (pe_fn G_first_number (hr.mono (by decide)) pass0 (pa_cons (pv 0) (pa_cons (pv 1) (pa_cons (pv 3) pa_nil))))) pe_int) (pv 0))))))), ?_⟩
    refine ⟨_, rfl, _, rfl, _, rfl, _, _, _, rfl, ?_⟩
    rcases h with h | ⟨n, rfl, n1, n2, h⟩
    · exact .inl h
    refine .inr ⟨n, rfl, n1, n2, ?_⟩
    rcases h with h | ⟨s', rfl, s1, s2, h⟩
    · exact .inl h
    refine .inr ⟨s', rfl, s1, s2, ?_⟩
    rcases h with h | ⟨b, rfl, b1, h⟩
    · exact .inl h
    refine .inr ⟨b, rfl, b1, ?_⟩
    rcases h with ⟨o, k⟩ | ⟨c, rfl, c1, c2, k⟩
    · exact ⟨_, rfl, _, rfl, _, _, _, rfl, .inr ⟨o, k⟩⟩
    refine ⟨_, rfl, _, rfl, _, _, _, rfl, .inl ⟨c, rfl, by omega, by omega, ?_⟩⟩
    refine ⟨_, rfl, _, rfl, _, rfl, _, rfl, n, s', c, rfl, s1, s2, c1, c2, ?_⟩
    refine ⟨_, _, rfl, rfl, _, _, rfl, rfl, _, rfl, _, _, rfl, rfl, by show (0 : Int) < (n : Int); omega, ?_⟩
    generalize Jo.pos s' n (c * s') = q at k ⊢
    have e : ((b : Int) + ((q + 1 : Nat) : Int) - 1) % (n : Int) = (((b + q) % n : Nat) : Int) := by
      have e2 : (b : Int) + ((q + 1 : Nat) : Int) - 1 = ((b + q : Nat) : Int) := by omega
      rw [e2]
      rfl
    show Q (.int (((b : Int) + ((q + 1 : Nat) : Int) - 1) % (n : Int))) H
    rw [e]
    exact k
end
end Lz
namespace Lz
open PySem PySem.Spec PyProof.Rows L2
abbrev s_last_of : Stmt := top 24
def spLastOf (K : PySem.W.Frag) : Sp := fun vs H Q E => ∃ x y z, vs = [x, y, z] ∧ Told K H E x y z fun n s b =>
  Q (.int (((b + Jo.pos s n (n * s)) % n : Nat) : Int)) H
section
variable {P : Program} {w : World} {K : PySem.W.Frag} {mg : Str → Option Value} {base : Heap}
theorem sc_last_of : FnScope ["many", "step", "begin"] ["many", "step", "begin"] (defScope s_last_of) := ⟨rfl, rfl, rfl, by decide +kernel, rfl, by decide +kernel, by decide +kernel⟩
theorem ok_last_of {f : Addr} {fd : FuncData} (F : FnP K "last_of" "last_of" s_last_of [V.int (0)] f fd) (T : Txt K mg) (G_need_told : FnAt P w K mg base (CXr P w) 3 "need_told" ["many", "step", "begin"] [] (spTold K)) (G_first_number : FnAt P w K mg base CX0 1 "first_number" ["many", "step", "count"] [] spFirst) :
    FnOk P w K mg base (CXr P w) 4 f fd ["many", "step", "begin"] (spLastOf K) := by
  have S := sc_last_of
  refine F.ok S (fun vs H Q E h => ?_) (fun cdv A outer s H vs Q E hr h => ?_)
  · obtain ⟨x, y, z, rfl, _⟩ := h
    rfl
  · obtain ⟨x, y, z, rfl, h⟩ := h
    refine ⟨_, (pss_cons (ps_expr (pe_fn G_need_told (hr.mono (by decide)) (passes_call (takes_of rfl rfl rfl rfl) (fun _ _ _ _ h => h)) (pa_cons (pv 0) (pa_cons (pv 1) (pa_cons (pv 2) pa_nil))))) (PSs.nox (pss_one (ps_ret (pe_op op_mod (pe_op op_sub (pe_op op_add (pv 2) (pe_fn G_first_number (hr.mono (by decide)) pass0 (pa_cons (pv 0) (pa_cons (pv 1) (pa_cons (pv 0) pa_nil))))) pe_int) (pv 0)))))), ?_⟩
    refine ⟨_, rfl, _, rfl, _, rfl, _, _, _, rfl, ?_⟩
    rcases h with h | ⟨n, rfl, n1, n2, h⟩
    · exact .inl h
    refine .inr ⟨n, rfl, n1, n2, ?_⟩
    rcases h with h | ⟨s', rfl, s1, s2, h⟩
    · exact .inl h
    refine .inr ⟨s', rfl, s1, s2, ?_⟩
    rcases h with h | ⟨b, rfl, b1, k⟩
    · exact .inl h
    refine .inr ⟨b, rfl, b1, ?_⟩
    refine ⟨_, rfl, _, rfl, _, rfl, _, rfl, n, s', n, rfl, s1, s2, n1, Nat.le_refl n, ?_⟩
    refine ⟨_, _, rfl, rfl, _, _, rfl, rfl, _, rfl, _, _, rfl, rfl, by show (0 : Int) < (n : Int); omega, ?_⟩
    generalize Jo.pos s' n (n * s') = q at k ⊢
    have e : ((b : Int) + ((q + 1 : Nat) : Int) - 1) % (n : Int) = (((b + q) % n : Nat) : Int) := by
      have e2 : (b : Int) + ((q + 1 : Nat) : Int) - 1 = ((b + q : Nat) : Int) := by omega
      rw [e2]
      rfl
    show Q (.int (((b : Int) + ((q + 1 : Nat) : Int) - 1) % (n : Int))) H
    rw [e]
    exact k
end
end Lz
namespace Lz
open PySem PySem.Spec PyProof.Rows L2
abbrev s_begin_for : Stmt := top 26
def spBeginFor (K : PySem.W.Frag) : Sp := fun vs H Q E => ∃ x y z, vs = [x, y, z] ∧ Told K H E x y (.int 0) fun n s _ =>
  (OutN K H 0 ((n : Int) - 1) z ∧ E (.ref (cNoPlace K)) none H) ∨ ∃ p : Nat, z = .int p ∧ p < n ∧ Q (.int (((p + n - Jo.pos s n (n * s)) % n : Nat) : Int)) H
section
variable {P : Program} {w : World} {K : PySem.W.Frag} {mg : Str → Option Value} {base : Heap}
theorem sc_begin_for : FnScope ["many", "step", "place", "found"] ["many", "step", "place"] (defScope s_begin_for) := ⟨rfl, rfl, rfl, by decide +kernel, rfl, by decide +kernel, by decide +kernel⟩
theorem ok_begin_for {f : Addr} {fd : FuncData} (F : FnP K "begin_for" "begin_for" s_begin_for [] f fd) (T : Txt K mg) (G_last_of_d : FnAt P w K mg base (CXr P w) 4 "last_of" ["many", "step", "begin"] [V.int (0)] (spLastOf K)) (G_need_place : FnAt P w K mg base (CXr P w) 2 "need_place" ["many", "place"] [] (spPlace K)) :
    FnOk P w K mg base (CXr P w) 5 f fd ["many", "step", "place"] (spBeginFor K) := by
  have S := sc_begin_for
  refine F.ok S (fun vs H Q E h => ?_) (fun cdv A outer s H vs Q E hr h => ?_)
  · obtain ⟨x, y, z, rfl, _⟩ := h
    rfl
  · obtain ⟨x, y, z, rfl, h⟩ := h
    refine ⟨_, (pss_cons (ps_set (i := 3) S.nd rfl (Or.inl rfl) (pe_fn G_last_of_d (hr.mono (by decide)) (passes_call (takes_of rfl rfl rfl rfl) (fun _ _ _ _ h => h)) (pa_cons (pv 0) (pa_cons (pv 1) pa_nil)))) (pss_cons (ps_expr (pe_fn G_need_place (hr.mono (by decide)) (passes_call (takes_of rfl rfl rfl rfl) (fun _ _ _ _ h => h)) (pa_cons (pv 0) (pa_cons (pv 2) pa_nil)))) (PSs.nox (pss_one (ps_ret (pe_op op_mod (pe_op op_sub (pv 2) (pv 3)) (pv 0))))))), ?_⟩
    refine ⟨_, rfl, _, rfl, _, _, _, rfl, ?_⟩
    rcases h with h | ⟨n, rfl, n1, n2, h⟩
    · exact .inl h
    refine .inr ⟨n, rfl, n1, n2, ?_⟩
    rcases h with h | ⟨s', rfl, s1, s2, h⟩
    · exact .inl h
    refine .inr ⟨s', rfl, s1, s2, ?_⟩
    rcases h with h | ⟨b, eb, b1, h⟩
    · exact .inl h
    refine .inr ⟨b, eb, b1, ?_⟩
    have e0 : b = 0 := by
      have := V.int.inj eb
      omega
    subst e0
    have hL := Jo.pos_lt s' n (n * s') (by omega)
    have eL : (0 + Jo.pos s' n (n * s')) % n = Jo.pos s' n (n * s') := by rw [Nat.zero_add, Nat.mod_eq_of_lt hL]
    dsimp only
    rw [eL]
    rcases h with ⟨o, k⟩ | ⟨p, rfl, p1, k⟩
    · exact ⟨_, rfl, _, rfl, _, _, rfl, .inr ⟨o, k⟩⟩
    refine ⟨_, rfl, _, rfl, _, _, rfl, .inl ⟨p, rfl, by omega, by omega, ?_⟩⟩
    refine ⟨_, rfl, _, rfl, _, _, rfl, rfl, _, rfl, _, _, rfl, rfl, by show (0 : Int) < (n : Int); omega, ?_⟩
    show Q (.int (((p : Int) - ((Jo.pos s' n (n * s') : Nat) : Int)) % (n : Int))) H
    rw [sub_mod hL p1]
    exact k
end
end Lz
namespace Lz
open PySem PySem.Spec PyProof.Rows L2
abbrev s__law_error : Stmt := top 33
def spErr (K : PySem.W.Frag) : Sp := fun vs H Q _ => ∃ (a : Addr) (x wd : Str), vs = [.ref a] ∧ (x, wd) ∈ errNames ∧ H a = some (ExA (.ref (He.ga K x)) a) ∧
  ∀ H', Kp [] H H' → Q (.str wd) H'
section
variable {P : Program} {w : World} {K : PySem.W.Frag} {mg : Str → Option Value} {base : Heap}
theorem sc__law_error : FnScope ["_law_e", "_law_words"] ["_law_e"] (defScope s__law_error) := ⟨rfl, rfl, rfl, by decide +kernel, rfl, by decide +kernel, by decide +kernel⟩
theorem ok__law_error {f : Addr} {fd : FuncData} (F : FnP K "_law_error" "_law_error" s__law_error [] f fd) (T : Txt K mg)  :
    FnOk P w K mg base CX0 1 f fd ["_law_e"] (spErr K) := by
  have S := sc__law_error
  refine F.ok S (fun vs H Q E h => ?_) (fun cdv A outer s H vs Q E hr h => ?_)
  · obtain ⟨a, x, wd, rfl, _⟩ := h
    rfl
  · obtain ⟨a, x, wd, rfl, hm, ha0, k⟩ := h
    refine ⟨_, PSs.nox (pss_cons (ps_set (i := 1) S.nd rfl (Or.inl rfl) (pe_lst pa_nil)) (pss_cons (ps_if (pt_val (pe_callB call_isX (by rfl) T.b_isinstance (by decide +kernel) (pa_cons (pv 0) (pa_cons (pe_gref T.g_NoRing) pa_nil)))) (pss_one (ps_expr (pe_bm PySem.F.plainAttrs_list PySem.F.slot_list_append PySem.F.type_list_append mt_append (pv 1) (pa_cons pe_str pa_nil)))) pss_nil) (pss_cons (ps_if (pt_val (pe_callB call_isX (by rfl) T.b_isinstance (by decide +kernel) (pa_cons (pv 0) (pa_cons (pe_gref T.g_NoMany) pa_nil)))) (pss_one (ps_expr (pe_bm PySem.F.plainAttrs_list PySem.F.slot_list_append PySem.F.type_list_append mt_append (pv 1) (pa_cons pe_str pa_nil)))) pss_nil) (pss_cons (ps_if (pt_val (pe_callB call_isX (by rfl) T.b_isinstance (by decide +kernel) (pa_cons (pv 0) (pa_cons (pe_gref T.g_NoStep) pa_nil)))) (pss_one (ps_expr (pe_bm PySem.F.plainAttrs_list PySem.F.slot_list_append PySem.F.type_list_append mt_append (pv 1) (pa_cons pe_str pa_nil)))) pss_nil) (pss_cons (ps_if (pt_val (pe_callB call_isX (by rfl) T.b_isinstance (by decide +kernel) (pa_cons (pv 0) (pa_cons (pe_gref T.g_NoPlace) pa_nil)))) (pss_one (ps_expr (pe_bm PySem.F.plainAttrs_list PySem.F.slot_list_append PySem.F.type_list_append mt_append (pv 1) (pa_cons pe_str pa_nil)))) pss_nil) (pss_cons (ps_if (pt_val (pe_callB call_isX (by rfl) T.b_isinstance (by decide +kernel) (pa_cons (pv 0) (pa_cons (pe_gref T.g_NoCount) pa_nil)))) (pss_one (ps_expr (pe_bm PySem.F.plainAttrs_list PySem.F.slot_list_append PySem.F.type_list_append mt_append (pv 1) (pa_cons pe_str pa_nil)))) pss_nil) (pss_cons (ps_if (pt_val (pe_callB call_isX (by rfl) T.b_isinstance (by decide +kernel) (pa_cons (pv 0) (pa_cons (pe_gref T.g_NoHand) pa_nil)))) (pss_one (ps_expr (pe_bm PySem.F.plainAttrs_list PySem.F.slot_list_append PySem.F.type_list_append mt_append (pv 1) (pa_cons pe_str pa_nil)))) pss_nil) (pss_cons (ps_if (pt_val (pe_callB call_isX (by rfl) T.b_isinstance (by decide +kernel) (pa_cons (pv 0) (pa_cons (pe_gref T.g_TwiceTold) pa_nil)))) (pss_one (ps_expr (pe_bm PySem.F.plainAttrs_list PySem.F.slot_list_append PySem.F.type_list_append mt_append (pv 1) (pa_cons pe_str pa_nil)))) pss_nil) (pss_cons (ps_if (pt_val (pe_callB call_isX (by rfl) T.b_isinstance (by decide +kernel) (pa_cons (pv 0) (pa_cons (pe_gref T.g_TooMany) pa_nil)))) (pss_one (ps_expr (pe_bm PySem.F.plainAttrs_list PySem.F.slot_list_append PySem.F.type_list_append mt_append (pv 1) (pa_cons pe_str pa_nil)))) pss_nil) (pss_cons (ps_if (PW.pt (pw_or (pt_cmpR op_ne (pe_callB call_len_seq (by rfl) T.b_len PySem.boot_len (pa_cons (pv 1) pa_nil)) pe_int (nomark _)) (pw_or1 (pt_not (pt_val (pe_callB call_isX (by rfl) T.b_isinstance (by decide +kernel) (pa_cons (pv 0) (pa_cons (pe_bltn (v := .ty "ValueError") (by rfl) T.b_ValueError (by decide +kernel) rfl) pa_nil)))))))) (pss_one (ps_ret pe_str)) pss_nil) (pss_one (ps_ret (pe_ix ix_list (pv 1) pe_int (fun _ _ => rfl)))))))))))))), ?_⟩
    refine ⟨Nat.zero_le _, fun l hl => ?_⟩
    have nal : a ≠ l := ne_of_none ha0 hl
    have ha : upd H l (.lst []) a = some (ExA (.ref (He.ga K x)) a) := by rw [upd_ne nal]; exact ha0
    have h0 : upd H l (.lst []) l = some (.lst []) := upd_same
    simp only [errNames, List.mem_cons, List.not_mem_nil, or_false, Prod.mk.injEq] at hm
    rcases hm with ⟨rfl, rfl⟩ | ⟨rfl, rfl⟩ | ⟨rfl, rfl⟩ | ⟨rfl, rfl⟩ | ⟨rfl, rfl⟩ | ⟨rfl, rfl⟩ | ⟨rfl, rfl⟩ | ⟨rfl, rfl⟩
    · have hx : ("NoRing" : Str) ∈ errNames.map (·.1) := by decide
      have hC := T.err.c _ hx
      have kNoRing : PySem.W.kitOne K (.ref (He.ga K "NoRing")) (.ref (He.ga K "NoRing")) = some true := (T.err.k _ hx "NoRing" (by decide)).trans (by decide)
      have kNoMany : PySem.W.kitOne K (.ref (He.ga K "NoRing")) (.ref (He.ga K "NoMany")) = some false := (T.err.k _ hx "NoMany" (by decide)).trans (by decide)
      have kNoStep : PySem.W.kitOne K (.ref (He.ga K "NoRing")) (.ref (He.ga K "NoStep")) = some false := (T.err.k _ hx "NoStep" (by decide)).trans (by decide)
      have kNoPlace : PySem.W.kitOne K (.ref (He.ga K "NoRing")) (.ref (He.ga K "NoPlace")) = some false := (T.err.k _ hx "NoPlace" (by decide)).trans (by decide)
      have kNoCount : PySem.W.kitOne K (.ref (He.ga K "NoRing")) (.ref (He.ga K "NoCount")) = some false := (T.err.k _ hx "NoCount" (by decide)).trans (by decide)
      have kNoHand : PySem.W.kitOne K (.ref (He.ga K "NoRing")) (.ref (He.ga K "NoHand")) = some false := (T.err.k _ hx "NoHand" (by decide)).trans (by decide)
      have kTwiceTold : PySem.W.kitOne K (.ref (He.ga K "NoRing")) (.ref (He.ga K "TwiceTold")) = some false := (T.err.k _ hx "TwiceTold" (by decide)).trans (by decide)
      have kTooMany : PySem.W.kitOne K (.ref (He.ga K "NoRing")) (.ref (He.ga K "TooMany")) = some false := (T.err.k _ hx "TooMany" (by decide)).trans (by decide)
      refine ⟨_, rfl, a, _, _, _, _, rfl, ha, hC, (fun _ z => z), kNoRing, _, rfl, ?_⟩
      refine iteT ⟨_, rfl, .inl ⟨rfl, _, SqL.of h0⟩, l, _, _, rfl, rfl, h0, szl 0 (by decide), ?_⟩
      have ha1 : upd (upd H l (.lst [])) l (.lst ([] ++ [.str "ring"])) a = some (ExA (.ref (He.ga K "NoRing")) a) := by rw [upd_ne nal]; exact ha
      refine ⟨_, rfl, a, _, _, _, _, rfl, ha1, hC, (fun _ z => z), kNoMany, _, rfl, iteF ?_⟩
      refine ⟨_, rfl, a, _, _, _, _, rfl, ha1, hC, (fun _ z => z), kNoStep, _, rfl, iteF ?_⟩
      refine ⟨_, rfl, a, _, _, _, _, rfl, ha1, hC, (fun _ z => z), kNoPlace, _, rfl, iteF ?_⟩
      refine ⟨_, rfl, a, _, _, _, _, rfl, ha1, hC, (fun _ z => z), kNoCount, _, rfl, iteF ?_⟩
      refine ⟨_, rfl, a, _, _, _, _, rfl, ha1, hC, (fun _ z => z), kNoHand, _, rfl, iteF ?_⟩
      refine ⟨_, rfl, a, _, _, _, _, rfl, ha1, hC, (fun _ z => z), kTwiceTold, _, rfl, iteF ?_⟩
      refine ⟨_, rfl, a, _, _, _, _, rfl, ha1, hC, (fun _ z => z), kTooMany, _, rfl, iteF ?_⟩
      refine ⟨_, rfl, l, [.str "ring"], rfl, .inl (SqL.of upd_same), ?_⟩
      refine c_ (ne_same (x := .int 1) rfl ?_)
      refine ⟨_, rfl, iteF ?_⟩
      refine ⟨_, rfl, a, _, _, _, _, rfl, ha1, hC, (fun _ z => z), T.err.v _ hx, _, rfl, iteF ?_⟩
      exact ⟨_, rfl, l, _, _, _, rfl, rfl, SqL.of upd_same, rfl, k _ ((Kp.new hl).late hl)⟩
    · have hx : ("NoMany" : Str) ∈ errNames.map (·.1) := by decide
      have hC := T.err.c _ hx
      have kNoRing : PySem.W.kitOne K (.ref (He.ga K "NoMany")) (.ref (He.ga K "NoRing")) = some false := (T.err.k _ hx "NoRing" (by decide)).trans (by decide)
      have kNoMany : PySem.W.kitOne K (.ref (He.ga K "NoMany")) (.ref (He.ga K "NoMany")) = some true := (T.err.k _ hx "NoMany" (by decide)).trans (by decide)
      have kNoStep : PySem.W.kitOne K (.ref (He.ga K "NoMany")) (.ref (He.ga K "NoStep")) = some false := (T.err.k _ hx "NoStep" (by decide)).trans (by decide)
      have kNoPlace : PySem.W.kitOne K (.ref (He.ga K "NoMany")) (.ref (He.ga K "NoPlace")) = some false := (T.err.k _ hx "NoPlace" (by decide)).trans (by decide)
      have kNoCount : PySem.W.kitOne K (.ref (He.ga K "NoMany")) (.ref (He.ga K "NoCount")) = some false := (T.err.k _ hx "NoCount" (by decide)).trans (by decide)
      have kNoHand : PySem.W.kitOne K (.ref (He.ga K "NoMany")) (.ref (He.ga K "NoHand")) = some false := (T.err.k _ hx "NoHand" (by decide)).trans (by decide)
      have kTwiceTold : PySem.W.kitOne K (.ref (He.ga K "NoMany")) (.ref (He.ga K "TwiceTold")) = some false := (T.err.k _ hx "TwiceTold" (by decide)).trans (by decide)
      have kTooMany : PySem.W.kitOne K (.ref (He.ga K "NoMany")) (.ref (He.ga K "TooMany")) = some false := (T.err.k _ hx "TooMany" (by decide)).trans (by decide)
      refine ⟨_, rfl, a, _, _, _, _, rfl, ha, hC, (fun _ z => z), kNoRing, _, rfl, iteF ?_⟩
      refine ⟨_, rfl, a, _, _, _, _, rfl, ha, hC, (fun _ z => z), kNoMany, _, rfl, ?_⟩
      refine iteT ⟨_, rfl, .inl ⟨rfl, _, SqL.of h0⟩, l, _, _, rfl, rfl, h0, szl 0 (by decide), ?_⟩
      have ha1 : upd (upd H l (.lst [])) l (.lst ([] ++ [.str "many"])) a = some (ExA (.ref (He.ga K "NoMany")) a) := by rw [upd_ne nal]; exact ha
      refine ⟨_, rfl, a, _, _, _, _, rfl, ha1, hC, (fun _ z => z), kNoStep, _, rfl, iteF ?_⟩
      refine ⟨_, rfl, a, _, _, _, _, rfl, ha1, hC, (fun _ z => z), kNoPlace, _, rfl, iteF ?_⟩
      refine ⟨_, rfl, a, _, _, _, _, rfl, ha1, hC, (fun _ z => z), kNoCount, _, rfl, iteF ?_⟩
      refine ⟨_, rfl, a, _, _, _, _, rfl, ha1, hC, (fun _ z => z), kNoHand, _, rfl, iteF ?_⟩
      refine ⟨_, rfl, a, _, _, _, _, rfl, ha1, hC, (fun _ z => z), kTwiceTold, _, rfl, iteF ?_⟩
      refine ⟨_, rfl, a, _, _, _, _, rfl, ha1, hC, (fun _ z => z), kTooMany, _, rfl, iteF ?_⟩
      refine ⟨_, rfl, l, [.str "many"], rfl, .inl (SqL.of upd_same), ?_⟩
      refine c_ (ne_same (x := .int 1) rfl ?_)
      refine ⟨_, rfl, iteF ?_⟩
      refine ⟨_, rfl, a, _, _, _, _, rfl, ha1, hC, (fun _ z => z), T.err.v _ hx, _, rfl, iteF ?_⟩
      exact ⟨_, rfl, l, _, _, _, rfl, rfl, SqL.of upd_same, rfl, k _ ((Kp.new hl).late hl)⟩
    · have hx : ("NoStep" : Str) ∈ errNames.map (·.1) := by decide
      have hC := T.err.c _ hx
      have kNoRing : PySem.W.kitOne K (.ref (He.ga K "NoStep")) (.ref (He.ga K "NoRing")) = some false := (T.err.k _ hx "NoRing" (by decide)).trans (by decide)
      have kNoMany : PySem.W.kitOne K (.ref (He.ga K "NoStep")) (.ref (He.ga K "NoMany")) = some false := (T.err.k _ hx "NoMany" (by decide)).trans (by decide)
      have kNoStep : PySem.W.kitOne K (.ref (He.ga K "NoStep")) (.ref (He.ga K "NoStep")) = some true := (T.err.k _ hx "NoStep" (by decide)).trans (by decide)
      have kNoPlace : PySem.W.kitOne K (.ref (He.ga K "NoStep")) (.ref (He.ga K "NoPlace")) = some false := (T.err.k _ hx "NoPlace" (by decide)).trans (by decide)
      have kNoCount : PySem.W.kitOne K (.ref (He.ga K "NoStep")) (.ref (He.ga K "NoCount")) = some false := (T.err.k _ hx "NoCount" (by decide)).trans (by decide)
      have kNoHand : PySem.W.kitOne K (.ref (He.ga K "NoStep")) (.ref (He.ga K "NoHand")) = some false := (T.err.k _ hx "NoHand" (by decide)).trans (by decide)
      have kTwiceTold : PySem.W.kitOne K (.ref (He.ga K "NoStep")) (.ref (He.ga K "TwiceTold")) = some false := (T.err.k _ hx "TwiceTold" (by decide)).trans (by decide)
      have kTooMany : PySem.W.kitOne K (.ref (He.ga K "NoStep")) (.ref (He.ga K "TooMany")) = some false := (T.err.k _ hx "TooMany" (by decide)).trans (by decide)
      refine ⟨_, rfl, a, _, _, _, _, rfl, ha, hC, (fun _ z => z), kNoRing, _, rfl, iteF ?_⟩
      refine ⟨_, rfl, a, _, _, _, _, rfl, ha, hC, (fun _ z => z), kNoMany, _, rfl, iteF ?_⟩
      refine ⟨_, rfl, a, _, _, _, _, rfl, ha, hC, (fun _ z => z), kNoStep, _, rfl, ?_⟩
      refine iteT ⟨_, rfl, .inl ⟨rfl, _, SqL.of h0⟩, l, _, _, rfl, rfl, h0, szl 0 (by decide), ?_⟩
      have ha1 : upd (upd H l (.lst [])) l (.lst ([] ++ [.str "step"])) a = some (ExA (.ref (He.ga K "NoStep")) a) := by rw [upd_ne nal]; exact ha
      refine ⟨_, rfl, a, _, _, _, _, rfl, ha1, hC, (fun _ z => z), kNoPlace, _, rfl, iteF ?_⟩
      refine ⟨_, rfl, a, _, _, _, _, rfl, ha1, hC, (fun _ z => z), kNoCount, _, rfl, iteF ?_⟩
      refine ⟨_, rfl, a, _, _, _, _, rfl, ha1, hC, (fun _ z => z), kNoHand, _, rfl, iteF ?_⟩
      refine ⟨_, rfl, a, _, _, _, _, rfl, ha1, hC, (fun _ z => z), kTwiceTold, _, rfl, iteF ?_⟩
      refine ⟨_, rfl, a, _, _, _, _, rfl, ha1, hC, (fun _ z => z), kTooMany, _, rfl, iteF ?_⟩
      refine ⟨_, rfl, l, [.str "step"], rfl, .inl (SqL.of upd_same), ?_⟩
      refine c_ (ne_same (x := .int 1) rfl ?_)
      refine ⟨_, rfl, iteF ?_⟩
      refine ⟨_, rfl, a, _, _, _, _, rfl, ha1, hC, (fun _ z => z), T.err.v _ hx, _, rfl, iteF ?_⟩
      exact ⟨_, rfl, l, _, _, _, rfl, rfl, SqL.of upd_same, rfl, k _ ((Kp.new hl).late hl)⟩
    · have hx : ("NoPlace" : Str) ∈ errNames.map (·.1) := by decide
      have hC := T.err.c _ hx
      have kNoRing : PySem.W.kitOne K (.ref (He.ga K "NoPlace")) (.ref (He.ga K "NoRing")) = some false := (T.err.k _ hx "NoRing" (by decide)).trans (by decide)
      have kNoMany : PySem.W.kitOne K (.ref (He.ga K "NoPlace")) (.ref (He.ga K "NoMany")) = some false := (T.err.k _ hx "NoMany" (by decide)).trans (by decide)
      have kNoStep : PySem.W.kitOne K (.ref (He.ga K "NoPlace")) (.ref (He.ga K "NoStep")) = some false := (T.err.k _ hx "NoStep" (by decide)).trans (by decide)
      have kNoPlace : PySem.W.kitOne K (.ref (He.ga K "NoPlace")) (.ref (He.ga K "NoPlace")) = some true := (T.err.k _ hx "NoPlace" (by decide)).trans (by decide)
      have kNoCount : PySem.W.kitOne K (.ref (He.ga K "NoPlace")) (.ref (He.ga K "NoCount")) = some false := (T.err.k _ hx "NoCount" (by decide)).trans (by decide)
      have kNoHand : PySem.W.kitOne K (.ref (He.ga K "NoPlace")) (.ref (He.ga K "NoHand")) = some false := (T.err.k _ hx "NoHand" (by decide)).trans (by decide)
      have kTwiceTold : PySem.W.kitOne K (.ref (He.ga K "NoPlace")) (.ref (He.ga K "TwiceTold")) = some false := (T.err.k _ hx "TwiceTold" (by decide)).trans (by decide)
      have kTooMany : PySem.W.kitOne K (.ref (He.ga K "NoPlace")) (.ref (He.ga K "TooMany")) = some false := (T.err.k _ hx "TooMany" (by decide)).trans (by decide)
      refine ⟨_, rfl, a, _, _, _, _, rfl, ha, hC, (fun _ z => z), kNoRing, _, rfl, iteF ?_⟩
      refine ⟨_, rfl, a, _, _, _, _, rfl, ha, hC, (fun _ z => z), kNoMany, _, rfl, iteF ?_⟩
      refine ⟨_, rfl, a, _, _, _, _, rfl, ha, hC, (fun _ z => z), kNoStep, _, rfl, iteF ?_⟩
      refine ⟨_, rfl, a, _, _, _, _, rfl, ha, hC, (fun _ z => z), kNoPlace, _, rfl, ?_⟩
      refine iteT ⟨_, rfl, .inl ⟨rfl, _, SqL.of h0⟩, l, _, _, rfl, rfl, h0, szl 0 (by decide), ?_⟩
      have ha1 : upd (upd H l (.lst [])) l (.lst ([] ++ [.str "place"])) a = some (ExA (.ref (He.ga K "NoPlace")) a) := by rw [upd_ne nal]; exact ha
      refine ⟨_, rfl, a, _, _, _, _, rfl, ha1, hC, (fun _ z => z), kNoCount, _, rfl, iteF ?_⟩
      refine ⟨_, rfl, a, _, _, _, _, rfl, ha1, hC, (fun _ z => z), kNoHand, _, rfl, iteF ?_⟩
      refine ⟨_, rfl, a, _, _, _, _, rfl, ha1, hC, (fun _ z => z), kTwiceTold, _, rfl, iteF ?_⟩
      refine ⟨_, rfl, a, _, _, _, _, rfl, ha1, hC, (fun _ z => z), kTooMany, _, rfl, iteF ?_⟩
      refine ⟨_, rfl, l, [.str "place"], rfl, .inl (SqL.of upd_same), ?_⟩
      refine c_ (ne_same (x := .int 1) rfl ?_)
      refine ⟨_, rfl, iteF ?_⟩
      refine ⟨_, rfl, a, _, _, _, _, rfl, ha1, hC, (fun _ z => z), T.err.v _ hx, _, rfl, iteF ?_⟩
      exact ⟨_, rfl, l, _, _, _, rfl, rfl, SqL.of upd_same, rfl, k _ ((Kp.new hl).late hl)⟩
    · have hx : ("NoCount" : Str) ∈ errNames.map (·.1) := by decide
      have hC := T.err.c _ hx
      have kNoRing : PySem.W.kitOne K (.ref (He.ga K "NoCount")) (.ref (He.ga K "NoRing")) = some false := (T.err.k _ hx "NoRing" (by decide)).trans (by decide)
      have kNoMany : PySem.W.kitOne K (.ref (He.ga K "NoCount")) (.ref (He.ga K "NoMany")) = some false := (T.err.k _ hx "NoMany" (by decide)).trans (by decide)
      have kNoStep : PySem.W.kitOne K (.ref (He.ga K "NoCount")) (.ref (He.ga K "NoStep")) = some false := (T.err.k _ hx "NoStep" (by decide)).trans (by decide)
      have kNoPlace : PySem.W.kitOne K (.ref (He.ga K "NoCount")) (.ref (He.ga K "NoPlace")) = some false := (T.err.k _ hx "NoPlace" (by decide)).trans (by decide)
      have kNoCount : PySem.W.kitOne K (.ref (He.ga K "NoCount")) (.ref (He.ga K "NoCount")) = some true := (T.err.k _ hx "NoCount" (by decide)).trans (by decide)
      have kNoHand : PySem.W.kitOne K (.ref (He.ga K "NoCount")) (.ref (He.ga K "NoHand")) = some false := (T.err.k _ hx "NoHand" (by decide)).trans (by decide)
      have kTwiceTold : PySem.W.kitOne K (.ref (He.ga K "NoCount")) (.ref (He.ga K "TwiceTold")) = some false := (T.err.k _ hx "TwiceTold" (by decide)).trans (by decide)
      have kTooMany : PySem.W.kitOne K (.ref (He.ga K "NoCount")) (.ref (He.ga K "TooMany")) = some false := (T.err.k _ hx "TooMany" (by decide)).trans (by decide)
      refine ⟨_, rfl, a, _, _, _, _, rfl, ha, hC, (fun _ z => z), kNoRing, _, rfl, iteF ?_⟩
      refine ⟨_, rfl, a, _, _, _, _, rfl, ha, hC, (fun _ z => z), kNoMany, _, rfl, iteF ?_⟩
      refine ⟨_, rfl, a, _, _, _, _, rfl, ha, hC, (fun _ z => z), kNoStep, _, rfl, iteF ?_⟩
      refine ⟨_, rfl, a, _, _, _, _, rfl, ha, hC, (fun _ z => z), kNoPlace, _, rfl, iteF ?_⟩
      refine ⟨_, rfl, a, _, _, _, _, rfl, ha, hC, (fun _ z => z), kNoCount, _, rfl, ?_⟩
      refine iteT ⟨_, rfl, .inl ⟨rfl, _, SqL.of h0⟩, l, _, _, rfl, rfl, h0, szl 0 (by decide), ?_⟩
      have ha1 : upd (upd H l (.lst [])) l (.lst ([] ++ [.str "count"])) a = some (ExA (.ref (He.ga K "NoCount")) a) := by rw [upd_ne nal]; exact ha
      refine ⟨_, rfl, a, _, _, _, _, rfl, ha1, hC, (fun _ z => z), kNoHand, _, rfl, iteF ?_⟩
      refine ⟨_, rfl, a, _, _, _, _, rfl, ha1, hC, (fun _ z => z), kTwiceTold, _, rfl, iteF ?_⟩
      refine ⟨_, rfl, a, _, _, _, _, rfl, ha1, hC, (fun _ z => z), kTooMany, _, rfl, iteF ?_⟩
      refine ⟨_, rfl, l, [.str "count"], rfl, .inl (SqL.of upd_same), ?_⟩
      refine c_ (ne_same (x := .int 1) rfl ?_)
      refine ⟨_, rfl, iteF ?_⟩
      refine ⟨_, rfl, a, _, _, _, _, rfl, ha1, hC, (fun _ z => z), T.err.v _ hx, _, rfl, iteF ?_⟩
      exact ⟨_, rfl, l, _, _, _, rfl, rfl, SqL.of upd_same, rfl, k _ ((Kp.new hl).late hl)⟩
    · have hx : ("NoHand" : Str) ∈ errNames.map (·.1) := by decide
      have hC := T.err.c _ hx
      have kNoRing : PySem.W.kitOne K (.ref (He.ga K "NoHand")) (.ref (He.ga K "NoRing")) = some false := (T.err.k _ hx "NoRing" (by decide)).trans (by decide)
      have kNoMany : PySem.W.kitOne K (.ref (He.ga K "NoHand")) (.ref (He.ga K "NoMany")) = some false := (T.err.k _ hx "NoMany" (by decide)).trans (by decide)
      have kNoStep : PySem.W.kitOne K (.ref (He.ga K "NoHand")) (.ref (He.ga K "NoStep")) = some false := (T.err.k _ hx "NoStep" (by decide)).trans (by decide)
      have kNoPlace : PySem.W.kitOne K (.ref (He.ga K "NoHand")) (.ref (He.ga K "NoPlace")) = some false := (T.err.k _ hx "NoPlace" (by decide)).trans (by decide)
      have kNoCount : PySem.W.kitOne K (.ref (He.ga K "NoHand")) (.ref (He.ga K "NoCount")) = some false := (T.err.k _ hx "NoCount" (by decide)).trans (by decide)
      have kNoHand : PySem.W.kitOne K (.ref (He.ga K "NoHand")) (.ref (He.ga K "NoHand")) = some true := (T.err.k _ hx "NoHand" (by decide)).trans (by decide)
      have kTwiceTold : PySem.W.kitOne K (.ref (He.ga K "NoHand")) (.ref (He.ga K "TwiceTold")) = some false := (T.err.k _ hx "TwiceTold" (by decide)).trans (by decide)
      have kTooMany : PySem.W.kitOne K (.ref (He.ga K "NoHand")) (.ref (He.ga K "TooMany")) = some false := (T.err.k _ hx "TooMany" (by decide)).trans (by decide)
      refine ⟨_, rfl, a, _, _, _, _, rfl, ha, hC, (fun _ z => z), kNoRing, _, rfl, iteF ?_⟩
      refine ⟨_, rfl, a, _, _, _, _, rfl, ha, hC, (fun _ z => z), kNoMany, _, rfl, iteF ?_⟩
      refine ⟨_, rfl, a, _, _, _, _, rfl, ha, hC, (fun _ z => z), kNoStep, _, rfl, iteF ?_⟩
      refine ⟨_, rfl, a, _, _, _, _, rfl, ha, hC, (fun _ z => z), kNoPlace, _, rfl, iteF ?_⟩
      refine ⟨_, rfl, a, _, _, _, _, rfl, ha, hC, (fun _ z => z), kNoCount, _, rfl, iteF ?_⟩
      refine ⟨_, rfl, a, _, _, _, _, rfl, ha, hC, (fun _ z => z), kNoHand, _, rfl, ?_⟩
      refine iteT ⟨_, rfl, .inl ⟨rfl, _, SqL.of h0⟩, l, _, _, rfl, rfl, h0, szl 0 (by decide), ?_⟩
      have ha1 : upd (upd H l (.lst [])) l (.lst ([] ++ [.str "hand"])) a = some (ExA (.ref (He.ga K "NoHand")) a) := by rw [upd_ne nal]; exact ha
      refine ⟨_, rfl, a, _, _, _, _, rfl, ha1, hC, (fun _ z => z), kTwiceTold, _, rfl, iteF ?_⟩
      refine ⟨_, rfl, a, _, _, _, _, rfl, ha1, hC, (fun _ z => z), kTooMany, _, rfl, iteF ?_⟩
      refine ⟨_, rfl, l, [.str "hand"], rfl, .inl (SqL.of upd_same), ?_⟩
      refine c_ (ne_same (x := .int 1) rfl ?_)
      refine ⟨_, rfl, iteF ?_⟩
      refine ⟨_, rfl, a, _, _, _, _, rfl, ha1, hC, (fun _ z => z), T.err.v _ hx, _, rfl, iteF ?_⟩
      exact ⟨_, rfl, l, _, _, _, rfl, rfl, SqL.of upd_same, rfl, k _ ((Kp.new hl).late hl)⟩
    · have hx : ("TwiceTold" : Str) ∈ errNames.map (·.1) := by decide
      have hC := T.err.c _ hx
      have kNoRing : PySem.W.kitOne K (.ref (He.ga K "TwiceTold")) (.ref (He.ga K "NoRing")) = some false := (T.err.k _ hx "NoRing" (by decide)).trans (by decide)
      have kNoMany : PySem.W.kitOne K (.ref (He.ga K "TwiceTold")) (.ref (He.ga K "NoMany")) = some false := (T.err.k _ hx "NoMany" (by decide)).trans (by decide)
      have kNoStep : PySem.W.kitOne K (.ref (He.ga K "TwiceTold")) (.ref (He.ga K "NoStep")) = some false := (T.err.k _ hx "NoStep" (by decide)).trans (by decide)
      have kNoPlace : PySem.W.kitOne K (.ref (He.ga K "TwiceTold")) (.ref (He.ga K "NoPlace")) = some false := (T.err.k _ hx "NoPlace" (by decide)).trans (by decide)
      have kNoCount : PySem.W.kitOne K (.ref (He.ga K "TwiceTold")) (.ref (He.ga K "NoCount")) = some false := (T.err.k _ hx "NoCount" (by decide)).trans (by decide)
      have kNoHand : PySem.W.kitOne K (.ref (He.ga K "TwiceTold")) (.ref (He.ga K "NoHand")) = some false := (T.err.k _ hx "NoHand" (by decide)).trans (by decide)
      have kTwiceTold : PySem.W.kitOne K (.ref (He.ga K "TwiceTold")) (.ref (He.ga K "TwiceTold")) = some true := (T.err.k _ hx "TwiceTold" (by decide)).trans (by decide)
      have kTooMany : PySem.W.kitOne K (.ref (He.ga K "TwiceTold")) (.ref (He.ga K "TooMany")) = some false := (T.err.k _ hx "TooMany" (by decide)).trans (by decide)
      refine ⟨_, rfl, a, _, _, _, _, rfl, ha, hC, (fun _ z => z), kNoRing, _, rfl, iteF ?_⟩
      refine ⟨_, rfl, a, _, _, _, _, rfl, ha, hC, (fun _ z => z), kNoMany, _, rfl, iteF ?_⟩
      refine ⟨_, rfl, a, _, _, _, _, rfl, ha, hC, (fun _ z => z), kNoStep, _, rfl, iteF ?_⟩
      refine ⟨_, rfl, a, _, _, _, _, rfl, ha, hC, (fun _ z => z), kNoPlace, _, rfl, iteF ?_⟩
      refine ⟨_, rfl, a, _, _, _, _, rfl, ha, hC, (fun _ z => z), kNoCount, _, rfl, iteF ?_⟩
      refine ⟨_, rfl, a, _, _, _, _, rfl, ha, hC, (fun _ z => z), kNoHand, _, rfl, iteF ?_⟩
      refine ⟨_, rfl, a, _, _, _, _, rfl, ha, hC, (fun _ z => z), kTwiceTold, _, rfl, ?_⟩
      refine iteT ⟨_, rfl, .inl ⟨rfl, _, SqL.of h0⟩, l, _, _, rfl, rfl, h0, szl 0 (by decide), ?_⟩
      have ha1 : upd (upd H l (.lst [])) l (.lst ([] ++ [.str "twice"])) a = some (ExA (.ref (He.ga K "TwiceTold")) a) := by rw [upd_ne nal]; exact ha
      refine ⟨_, rfl, a, _, _, _, _, rfl, ha1, hC, (fun _ z => z), kTooMany, _, rfl, iteF ?_⟩
      refine ⟨_, rfl, l, [.str "twice"], rfl, .inl (SqL.of upd_same), ?_⟩
      refine c_ (ne_same (x := .int 1) rfl ?_)
      refine ⟨_, rfl, iteF ?_⟩
      refine ⟨_, rfl, a, _, _, _, _, rfl, ha1, hC, (fun _ z => z), T.err.v _ hx, _, rfl, iteF ?_⟩
      exact ⟨_, rfl, l, _, _, _, rfl, rfl, SqL.of upd_same, rfl, k _ ((Kp.new hl).late hl)⟩
    · have hx : ("TooMany" : Str) ∈ errNames.map (·.1) := by decide
      have hC := T.err.c _ hx
      have kNoRing : PySem.W.kitOne K (.ref (He.ga K "TooMany")) (.ref (He.ga K "NoRing")) = some false := (T.err.k _ hx "NoRing" (by decide)).trans (by decide)
      have kNoMany : PySem.W.kitOne K (.ref (He.ga K "TooMany")) (.ref (He.ga K "NoMany")) = some false := (T.err.k _ hx "NoMany" (by decide)).trans (by decide)
      have kNoStep : PySem.W.kitOne K (.ref (He.ga K "TooMany")) (.ref (He.ga K "NoStep")) = some false := (T.err.k _ hx "NoStep" (by decide)).trans (by decide)
      have kNoPlace : PySem.W.kitOne K (.ref (He.ga K "TooMany")) (.ref (He.ga K "NoPlace")) = some false := (T.err.k _ hx "NoPlace" (by decide)).trans (by decide)
      have kNoCount : PySem.W.kitOne K (.ref (He.ga K "TooMany")) (.ref (He.ga K "NoCount")) = some false := (T.err.k _ hx "NoCount" (by decide)).trans (by decide)
      have kNoHand : PySem.W.kitOne K (.ref (He.ga K "TooMany")) (.ref (He.ga K "NoHand")) = some false := (T.err.k _ hx "NoHand" (by decide)).trans (by decide)
      have kTwiceTold : PySem.W.kitOne K (.ref (He.ga K "TooMany")) (.ref (He.ga K "TwiceTold")) = some false := (T.err.k _ hx "TwiceTold" (by decide)).trans (by decide)
      have kTooMany : PySem.W.kitOne K (.ref (He.ga K "TooMany")) (.ref (He.ga K "TooMany")) = some true := (T.err.k _ hx "TooMany" (by decide)).trans (by decide)
      refine ⟨_, rfl, a, _, _, _, _, rfl, ha, hC, (fun _ z => z), kNoRing, _, rfl, iteF ?_⟩
      refine ⟨_, rfl, a, _, _, _, _, rfl, ha, hC, (fun _ z => z), kNoMany, _, rfl, iteF ?_⟩
      refine ⟨_, rfl, a, _, _, _, _, rfl, ha, hC, (fun _ z => z), kNoStep, _, rfl, iteF ?_⟩
      refine ⟨_, rfl, a, _, _, _, _, rfl, ha, hC, (fun _ z => z), kNoPlace, _, rfl, iteF ?_⟩
      refine ⟨_, rfl, a, _, _, _, _, rfl, ha, hC, (fun _ z => z), kNoCount, _, rfl, iteF ?_⟩
      refine ⟨_, rfl, a, _, _, _, _, rfl, ha, hC, (fun _ z => z), kNoHand, _, rfl, iteF ?_⟩
      refine ⟨_, rfl, a, _, _, _, _, rfl, ha, hC, (fun _ z => z), kTwiceTold, _, rfl, iteF ?_⟩
      refine ⟨_, rfl, a, _, _, _, _, rfl, ha, hC, (fun _ z => z), kTooMany, _, rfl, ?_⟩
      refine iteT ⟨_, rfl, .inl ⟨rfl, _, SqL.of h0⟩, l, _, _, rfl, rfl, h0, szl 0 (by decide), ?_⟩
      have ha1 : upd (upd H l (.lst [])) l (.lst ([] ++ [.str "much"])) a = some (ExA (.ref (He.ga K "TooMany")) a) := by rw [upd_ne nal]; exact ha
      refine ⟨_, rfl, l, [.str "much"], rfl, .inl (SqL.of upd_same), ?_⟩
      refine c_ (ne_same (x := .int 1) rfl ?_)
      refine ⟨_, rfl, iteF ?_⟩
      refine ⟨_, rfl, a, _, _, _, _, rfl, ha1, hC, (fun _ z => z), T.err.v _ hx, _, rfl, iteF ?_⟩
      exact ⟨_, rfl, l, _, _, _, rfl, rfl, SqL.of upd_same, rfl, k _ ((Kp.new hl).late hl)⟩
end
end Lz
namespace Lz
open PySem PySem.Spec PyProof.Rows L2
abbrev s__law_told : Stmt := top 34
/-- one of the four questions; a refusal is told by its word -/
def spTold4 (K : PySem.W.Frag) : Sp := fun vs H Q _ => ∃ (way : Int) (x y z u : V), vs = [.int way, x, y, z, u] ∧
  ((way = 0 ∧ spCountOf K [x, y, z, u] H Q (EE K Q)) ∨ (way = 1 ∧ spGoesAt K [x, y, z, u] H Q (EE K Q)) ∨ (way = 2 ∧ spLastOf K [x, y, z] H Q (EE K Q)) ∨ (way = 3 ∧ spBeginFor K [x, y, z] H Q (EE K Q)))
section
variable {P : Program} {w : World} {K : PySem.W.Frag} {mg : Str → Option Value} {base : Heap}
theorem sc__law_told : FnScope ["_law_way", "_law_many", "_law_step", "_law_begin", "_law_last", "_law_e", "_law_error_here"] ["_law_way", "_law_many", "_law_step", "_law_begin", "_law_last"] (defScope s__law_told) := ⟨rfl, rfl, rfl, by decide +kernel, rfl, by decide +kernel, by decide +kernel⟩
theorem ok__law_told {f : Addr} {fd : FuncData} (F : FnP K "_law_told" "_law_told" s__law_told [] f fd) (T : Txt K mg) (G_count_of : FnAt P w K mg base (CXr P w) 4 "count_of" ["many", "step", "begin", "place"] [] (spCountOf K)) (G_goes_at : FnAt P w K mg base (CXr P w) 4 "goes_at" ["many", "step", "begin", "count"] [] (spGoesAt K)) (G_last_of : FnAt P w K mg base (CXr P w) 4 "last_of" ["many", "step", "begin"] [] (spLastOf K)) (G_begin_for : FnAt P w K mg base (CXr P w) 5 "begin_for" ["many", "step", "place"] [] (spBeginFor K)) (G__law_error : FnAt P w K mg base CX0 1 "_law_error" ["_law_e"] [] (spErr K)) :
    FnOk P w K mg base CX0 6 f fd ["_law_way", "_law_many", "_law_step", "_law_begin", "_law_last"] (spTold4 K) := by
  have S := sc__law_told
  refine F.ok S (fun vs H Q E h => ?_) (fun cdv A outer s H vs Q E hr h => ?_)
  · obtain ⟨way, x, y, z, u, rfl, _⟩ := h
    rfl
  · obtain ⟨way, x, y, z, u, rfl, h⟩ := h
    refine ⟨_, PSs.nox (pss_cons (ps_try_keep (i := 5) rfl rfl rfl S.nd rfl rfl ⟨rfl, by decide, .inl T.g_CountError⟩ (fun W pn xe tk => (pss_cons (ps_if (pt_cmpR op_eq (pv 0) pe_int (nomark _)) (pss_one (ps_ret (pe_fn (weakF G_count_of) (hr.mono (by decide)) (passT (N := ["_law_way", "_law_many", "_law_step", "_law_begin", "_law_last", "_law_e", "_law_error_here"]) tk) (pa_cons (pv 1) (pa_cons (pv 2) (pa_cons (pv 3) (pa_cons (pv 4) pa_nil))))))) pss_nil) (pss_cons (ps_if (pt_cmpR op_eq (pv 0) pe_int (nomark _)) (pss_one (ps_ret (pe_fn (weakF G_goes_at) (hr.mono (by decide)) (passT (N := ["_law_way", "_law_many", "_law_step", "_law_begin", "_law_last", "_law_e", "_law_error_here"]) tk) (pa_cons (pv 1) (pa_cons (pv 2) (pa_cons (pv 3) (pa_cons (pv 4) pa_nil))))))) pss_nil) (pss_cons (ps_if (pt_cmpR op_eq (pv 0) pe_int (nomark _)) (pss_one (ps_ret (pe_fn (weakF G_last_of) (hr.mono (by decide)) (passT (N := ["_law_way", "_law_many", "_law_step", "_law_begin", "_law_last", "_law_e", "_law_error_here"]) tk) (pa_cons (pv 1) (pa_cons (pv 2) (pa_cons (pv 3) pa_nil)))))) pss_nil) (pss_one (ps_ret (pe_fn (weakF G_begin_for) (hr.mono (by decide)) (passT (N := ["_law_way", "_law_many", "_law_step", "_law_begin", "_law_last", "_law_e", "_law_error_here"]) tk) (pa_cons (pv 1) (pa_cons (pv 2) (pa_cons (pv 3) pa_nil)))))))))) (fun a oe cls d pn => (pss_one (ps_set (i := 6) S.nd rfl (Or.inl rfl) (pv 5))))) (pss_one (ps_ret (pe_fn G__law_error (hr.mono (by decide)) pass0 (pa_cons (pv 6) pa_nil))))), ?_⟩
    rcases h with ⟨rfl, h⟩ | ⟨rfl, h⟩ | ⟨rfl, h⟩ | ⟨rfl, h⟩
    · refine ⟨_, rfl, c_ (eq_same (x := .int 0) rfl ⟨_, rfl, iteT ?_⟩)⟩
      refine ⟨_, rfl, _, rfl, _, rfl, _, rfl, EE K Q, h, fun cls d G he σ hσ => ?_⟩
      obtain ⟨rfl, w1, wd, hm, rfl, kk⟩ := he
      refine ⟨T.err.m w1 (List.mem_map.mpr ⟨_, hm, rfl⟩), rfl, fun a ha => ?_⟩
      match σ, hσ with
      | [_, _, _, _, _, _, _], _ => exact ⟨_, rfl, fun ha' => ⟨_, rfl, a, w1, wd, rfl, hm, upd_same, fun H2 k2 => kk H2 ((Kp.new ha').trans k2)⟩⟩
    · refine ⟨_, rfl, c_ (eq_no (x := .int 1) (y := .int 0) (by decide) rfl ⟨_, rfl, iteF ?_⟩)⟩
      refine ⟨_, rfl, c_ (eq_same (x := .int 1) rfl ⟨_, rfl, iteT ?_⟩)⟩
      refine ⟨_, rfl, _, rfl, _, rfl, _, rfl, EE K Q, h, fun cls d G he σ hσ => ?_⟩
      obtain ⟨rfl, w1, wd, hm, rfl, kk⟩ := he
      refine ⟨T.err.m w1 (List.mem_map.mpr ⟨_, hm, rfl⟩), rfl, fun a ha => ?_⟩
      match σ, hσ with
      | [_, _, _, _, _, _, _], _ => exact ⟨_, rfl, fun ha' => ⟨_, rfl, a, w1, wd, rfl, hm, upd_same, fun H2 k2 => kk H2 ((Kp.new ha').trans k2)⟩⟩
    · refine ⟨_, rfl, c_ (eq_no (x := .int 2) (y := .int 0) (by decide) rfl ⟨_, rfl, iteF ?_⟩)⟩
      refine ⟨_, rfl, c_ (eq_no (x := .int 2) (y := .int 1) (by decide) rfl ⟨_, rfl, iteF ?_⟩)⟩
      refine ⟨_, rfl, c_ (eq_same (x := .int 2) rfl ⟨_, rfl, iteT ?_⟩)⟩
      refine ⟨_, rfl, _, rfl, _, rfl, EE K Q, h, fun cls d G he σ hσ => ?_⟩
      obtain ⟨rfl, w1, wd, hm, rfl, kk⟩ := he
      refine ⟨T.err.m w1 (List.mem_map.mpr ⟨_, hm, rfl⟩), rfl, fun a ha => ?_⟩
      match σ, hσ with
      | [_, _, _, _, _, _, _], _ => exact ⟨_, rfl, fun ha' => ⟨_, rfl, a, w1, wd, rfl, hm, upd_same, fun H2 k2 => kk H2 ((Kp.new ha').trans k2)⟩⟩
    · refine ⟨_, rfl, c_ (eq_no (x := .int 3) (y := .int 0) (by decide) rfl ⟨_, rfl, iteF ?_⟩)⟩
      refine ⟨_, rfl, c_ (eq_no (x := .int 3) (y := .int 1) (by decide) rfl ⟨_, rfl, iteF ?_⟩)⟩
      refine ⟨_, rfl, c_ (eq_no (x := .int 3) (y := .int 2) (by decide) rfl ⟨_, rfl, iteF ?_⟩)⟩
      refine ⟨_, rfl, _, rfl, _, rfl, EE K Q, h, fun cls d G he σ hσ => ?_⟩
      obtain ⟨rfl, w1, wd, hm, rfl, kk⟩ := he
      refine ⟨T.err.m w1 (List.mem_map.mpr ⟨_, hm, rfl⟩), rfl, fun a ha => ?_⟩
      match σ, hσ with
      | [_, _, _, _, _, _, _], _ => exact ⟨_, rfl, fun ha' => ⟨_, rfl, a, w1, wd, rfl, hm, upd_same, fun H2 k2 => kk H2 ((Kp.new ha').trans k2)⟩⟩
end
end Lz
namespace Lz
open PySem PySem.Spec PyProof.Rows L2
abbrev s_law : Stmt := top 35
def spLaw (K : PySem.W.Frag) : Sp := fun vs H Q _ => ∃ (a : Addr) (ns : List Int), vs = [.ref a] ∧ SqL K H a (ns.map V.int) ∧ ns.length ≤ 63 ∧ ∀ H', Q (.bl true) H'
section
variable {K : PySem.W.Frag} {way : Int} {x y z u : V} {n s b : Nat} {H : Hp} {Q : VK} {E : XK}
theorem told4_many (hw : way = 0 ∨ way = 1 ∨ way = 2 ∨ way = 3) (h : OutN K H 1 (10 ^ 60) x) (k : ∀ H', Kp [] H H' → Q (.str "many") H') : spTold4 K [.int way, x, y, z, u] H Q E := by
  have e : EE K Q (.ref (cNoMany K)) none H := ⟨rfl, "NoMany", "many", by simp [errNames], rfl, k⟩
  refine ⟨way, x, y, z, u, rfl, ?_⟩
  rcases hw with hw | hw | hw | hw
  · exact .inl ⟨hw, _, _, _, _, rfl, .inl ⟨h, e⟩⟩
  · exact .inr (.inl ⟨hw, _, _, _, _, rfl, .inl ⟨h, e⟩⟩)
  · exact .inr (.inr (.inl ⟨hw, _, _, _, rfl, .inl ⟨h, e⟩⟩))
  · exact .inr (.inr (.inr ⟨hw, _, _, _, rfl, .inl ⟨h, e⟩⟩))
theorem told4_step (hw : way = 0 ∨ way = 1 ∨ way = 2 ∨ way = 3) (n1 : 1 ≤ n) (n2 : n ≤ 10 ^ 60) (h : OutN K H 1 100 y) (k : ∀ H', Kp [] H H' → Q (.str "step") H') : spTold4 K [.int way, .int n, y, z, u] H Q E := by
  have e : EE K Q (.ref (cNoStep K)) none H := ⟨rfl, "NoStep", "step", by simp [errNames], rfl, k⟩
  refine ⟨way, _, y, z, u, rfl, ?_⟩
  rcases hw with hw | hw | hw | hw
  · exact .inl ⟨hw, _, _, _, _, rfl, .inr ⟨n, rfl, n1, n2, .inl ⟨h, e⟩⟩⟩
  · exact .inr (.inl ⟨hw, _, _, _, _, rfl, .inr ⟨n, rfl, n1, n2, .inl ⟨h, e⟩⟩⟩)
  · exact .inr (.inr (.inl ⟨hw, _, _, _, rfl, .inr ⟨n, rfl, n1, n2, .inl ⟨h, e⟩⟩⟩))
  · exact .inr (.inr (.inr ⟨hw, _, _, _, rfl, .inr ⟨n, rfl, n1, n2, .inl ⟨h, e⟩⟩⟩))
theorem told4_place (hw : way = 0 ∨ way = 1 ∨ way = 2 ∨ way = 3) (n1 : 1 ≤ n) (n2 : n ≤ 10 ^ 60) (s1 : 1 ≤ s) (s2 : s ≤ 100) (h : OutN K H 0 ((n : Int) - 1) z) (k : ∀ H', Kp [] H H' → Q (.str "place") H') :
    spTold4 K [.int way, .int n, .int s, z, u] H Q E := by
  have e : EE K Q (.ref (cNoPlace K)) none H := ⟨rfl, "NoPlace", "place", by simp [errNames], rfl, k⟩
  refine ⟨way, _, _, z, u, rfl, ?_⟩
  rcases hw with hw | hw | hw | hw
  · exact .inl ⟨hw, _, _, _, _, rfl, .inr ⟨n, rfl, n1, n2, .inr ⟨s, rfl, s1, s2, .inl ⟨h, e⟩⟩⟩⟩
  · exact .inr (.inl ⟨hw, _, _, _, _, rfl, .inr ⟨n, rfl, n1, n2, .inr ⟨s, rfl, s1, s2, .inl ⟨h, e⟩⟩⟩⟩)
  · exact .inr (.inr (.inl ⟨hw, _, _, _, rfl, .inr ⟨n, rfl, n1, n2, .inr ⟨s, rfl, s1, s2, .inl ⟨h, e⟩⟩⟩⟩))
  · exact .inr (.inr (.inr ⟨hw, _, _, _, rfl, .inr ⟨n, rfl, n1, n2, .inr ⟨s, rfl, s1, s2, .inr ⟨0, rfl, by omega, .inl ⟨h, e⟩⟩⟩⟩⟩))
theorem told4_last (n1 : 1 ≤ n) (n2 : n ≤ 10 ^ 60) (s1 : 1 ≤ s) (s2 : s ≤ 100) (hb : b < n) (h : (way = 0 ∧ OutN K H 0 ((n : Int) - 1) u ∧ ∀ H', Kp [] H H' → Q (.str "place") H') ∨ (way = 1 ∧ OutN K H 1 (n : Int) u ∧ ∀ H', Kp [] H H' → Q (.str "count") H')) :
    spTold4 K [.int way, .int n, .int s, .int b, u] H Q E := by
  refine ⟨way, _, _, _, u, rfl, ?_⟩
  rcases h with ⟨hw, h, k⟩ | ⟨hw, h, k⟩
  · exact .inl ⟨hw, _, _, _, _, rfl, .inr ⟨n, rfl, n1, n2, .inr ⟨s, rfl, s1, s2, .inr ⟨b, rfl, hb, .inl ⟨h, rfl, "NoPlace", "place", by simp [errNames], rfl, k⟩⟩⟩⟩⟩
  · exact .inr (.inl ⟨hw, _, _, _, _, rfl, .inr ⟨n, rfl, n1, n2, .inr ⟨s, rfl, s1, s2, .inr ⟨b, rfl, hb, .inl ⟨h, rfl, "NoCount", "count", by simp [errNames], rfl, k⟩⟩⟩⟩⟩)
end
/-- one more of the four answers -/
theorem kept_more {st D q : Addr} {H : Hp} {xs res : List V} {v : V} {i : Nat} (t : StAt H st) (hD : D ≠ st) (e : H D = some (.lst (res.take i))) (hq : H q = none) (hv : res[i]? = some v) (hi : res.length ≤ 1000) :
    ∃ acc, upd H q (.lst xs) D = some (.lst acc) ∧ acc.length < sizeLine ∧ StAt (upd (upd H q (.lst xs)) D (.lst (acc ++ [v]))) st ∧ upd (upd H q (.lst xs)) D (.lst (acc ++ [v])) D = some (.lst (res.take (i + 1))) := by
  refine ⟨res.take i, by rw [upd_ne (ne_of_none e hq)]; exact e, szl _ (by rw [List.length_take]; omega), (t.new hq).keep (Kp.put (ws := [D]) (List.mem_singleton.mpr rfl)) (fun m => hD (List.mem_singleton.mp m).symm), ?_⟩
  rw [upd_same, List.take_succ, hv]
  rfl
section
variable {P : Program} {w : World} {K : PySem.W.Frag} {mg : Str → Option Value} {base : Heap}
theorem sc_law : FnScope ["_law_script", "_law_state_here", "_law_many", "_law_step", "_law_begin", "_law_place", "_law_kept", "_law_way", "_law_turn", "_law_bad", "_law_odd", "_law_off", "_law_out", "_law_told_here", "_law_other"] ["_law_script"] (defScope s_law) := ⟨rfl, rfl, rfl, by decide +kernel, rfl, by decide +kernel, by decide +kernel⟩
theorem ok_law {f : Addr} {fd : FuncData} (F : FnP K "law" "law" s_law [] f fd) (T : Txt K mg) (G__law_state : FnAt P w K mg base CX0 2 "_law_state" ["_law_script", "_law_first"] [] (spState K)) (G__law_of : FnAt P w K mg base CX0 2 "_law_of" ["_law_state_here", "_law_some"] [] (spOf K)) (G__law_far : FnAt P w K mg base CX0 2 "_law_far" ["_law_state_here", "_law_many"] [] spFar) (G__law_next : FnAt P w K mg base CX0 1 "_law_next" ["_law_state_here"] [] spNext) (G__law_told : FnAt P w K mg base CX0 6 "_law_told" ["_law_way", "_law_many", "_law_step", "_law_begin", "_law_last"] [] (spTold4 K)) :
    FnOk P w K mg base CX0 7 f fd ["_law_script"] (spLaw K) := by
  have S := sc_law
  refine F.ok S (fun vs H Q E h => ?_) (fun cdv A outer s H vs Q E hr h => ?_)
  · obtain ⟨a, ns, rfl, _⟩ := h
    rfl
  · obtain ⟨a, ns, rfl, hS, hlen, hQ⟩ := h
    refine ⟨_, PSs.nox (pss_cons (ps_set (i := 1) S.nd rfl (Or.inl rfl) (pe_fn G__law_state (hr.mono (by decide)) pass0 (pa_cons (pv 0) (pa_cons pe_int pa_nil)))) (pss_cons (ps_set (i := 2) S.nd rfl (Or.inr rfl) (pe_fn G__law_of (hr.mono (by decide)) pass0 (pa_cons (pv 1) (pa_cons (pe_lst (pa_cons pe_int (pa_cons (pe_op op_pow pe_int pe_int) (pa_cons (pe_op op_add pe_int (pe_fn G__law_far (hr.mono (by decide)) pass0 (pa_cons (pv 1) (pa_cons (pe_op op_pow pe_int pe_int) pa_nil)))) (pa_cons (pe_op op_add pe_int (pe_op op_mod (pe_fn G__law_next (hr.mono (by decide)) pass0 (pa_cons (pv 1) pa_nil)) pe_int)) pa_nil))))) pa_nil)))) (pss_cons (ps_set (i := 3) S.nd rfl (Or.inr rfl) (pe_op op_add pe_int (pe_op op_mod (pe_fn G__law_next (hr.mono (by decide)) pass0 (pa_cons (pv 1) pa_nil)) pe_int))) (pss_cons (ps_set (i := 4) S.nd rfl (Or.inr rfl) (pe_fn G__law_far (hr.mono (by decide)) pass0 (pa_cons (pv 1) (pa_cons (pv 2) pa_nil)))) (pss_cons (ps_set (i := 5) S.nd rfl (Or.inr rfl) (pe_fn G__law_far (hr.mono (by decide)) pass0 (pa_cons (pv 1) (pa_cons (pv 2) pa_nil)))) (pss_cons (ps_setLc (i := 6) (own := [("_law_way", 7)]) (g := gName 7) (by rfl) S.nd rfl rfl (sw_true rfl rfl rfl (by decide +kernel)) (pi_range1 (by rfl) T.b_range (pa_cons pe_int pa_nil)) (blkOk_by (own := [("_law_way", 7)]) (N := ["_law_script", "_law_state_here", "_law_many", "_law_step", "_law_begin", "_law_place", "_law_kept", "_law_way", "_law_turn", "_law_bad", "_law_odd", "_law_off", "_law_out", "_law_told_here", "_law_other"]) (sc := defScope s_law) (by decide +kernel)) (fun _ _ _ _ _ => pg_name (i := 7) S.nd rfl (Or.inl rfl)) (fun _ _ _ _ _ => pts_nil) (fun _ _ _ _ _ => (pe_fn G__law_told (hr.mono (by decide)) pass0 (pa_cons (pv 7) (pa_cons (pv 2) (pa_cons (pv 3) (pa_cons (pv 4) (pa_cons (pe_ix (ix_lK (K := K)) (pe_lst (pa_cons (pv 5) (pa_cons (pe_op op_add (pv 5) pe_int) (pa_cons pe_int (pa_cons pe_int pa_nil))))) (pv 7) (fun _ _ => rfl)) pa_nil)))))))) (pss_cons (ps_for PassesOwn.never rfl (pi_range1 (by rfl) T.b_range (pa_cons pe_int pa_nil)) (pg_name (i := 8) S.nd rfl (Or.inl rfl)) (pss_cons (ps_set (i := 9) S.nd rfl (Or.inl rfl) (pe_fn G__law_of (hr.mono (by decide)) pass0 (pa_cons (pv 1) (pa_cons (pe_lst (pa_cons pe_int (pa_cons (pe_un un_neg pe_int) (pa_cons (pe_op op_add (pe_op op_pow pe_int pe_int) pe_int) (pa_cons pe_non (pa_cons pe_bl (pa_cons pe_str (pa_cons (pe_lst (pa_cons pe_int pa_nil)) pa_nil)))))))) pa_nil)))) (pss_cons (ps_set (i := 10) S.nd rfl (Or.inl rfl) (pe_fn G__law_of (hr.mono (by decide)) pass0 (pa_cons (pv 1) (pa_cons (pe_lst (pa_cons pe_int (pa_cons (pe_un un_neg pe_int) (pa_cons pe_int (pa_cons (pe_op op_pow pe_int pe_int) (pa_cons pe_non (pa_cons pe_bl (pa_cons pe_str (pa_cons (pe_tup (pa_cons pe_int pa_nil)) pa_nil))))))))) pa_nil)))) (pss_cons (ps_set (i := 11) S.nd rfl (Or.inl rfl) (pe_fn G__law_of (hr.mono (by decide)) pass0 (pa_cons (pv 1) (pa_cons (pe_lst (pa_cons (pv 2) (pa_cons (pe_un un_neg pe_int) (pa_cons (pe_op op_add (pv 2) (pe_fn G__law_far (hr.mono (by decide)) pass0 (pa_cons (pv 1) (pa_cons (pe_op op_pow pe_int pe_int) pa_nil)))) (pa_cons pe_non (pa_cons pe_bl (pa_cons pe_str pa_nil))))))) pa_nil)))) (C8.pss_cut (ps_set (i := 12) S.nd rfl (Or.inl rfl) (pe_fn G__law_of (hr.mono (by decide)) pass0 (pa_cons (pv 1) (pa_cons (pe_ix ix_list (pe_lst (pa_cons (pe_lst (pa_cons (pv 2) (pa_cons (pe_un un_neg pe_int) (pa_cons pe_non (pa_cons pe_bl (pa_cons pe_str pa_nil)))))) (pa_cons (pe_lst (pa_cons pe_int (pa_cons (pe_op op_add (pv 2) pe_int) (pa_cons (pe_un un_neg pe_int) (pa_cons pe_non (pa_cons pe_bl (pa_cons pe_str pa_nil))))))) pa_nil))) (pe_op op_mod (pv 8) pe_int) (fun _ _ => rfl)) pa_nil)))) (pss_cons (ps_set (i := 7) S.nd rfl (Or.inl rfl) (pe_op op_mod (pv 8) pe_int)) (pss_cons (ps_set (i := 13) S.nd rfl (Or.inl rfl) (pe_lst (pa_cons (pe_fn G__law_told (hr.mono (by decide)) pass0 (pa_cons (pv 7) (pa_cons (pv 9) (pa_cons (pv 10) (pa_cons (pv 11) (pa_cons (pv 12) pa_nil)))))) (pa_cons (pe_fn G__law_told (hr.mono (by decide)) pass0 (pa_cons (pv 7) (pa_cons (pv 2) (pa_cons (pv 10) (pa_cons (pv 11) (pa_cons (pv 12) pa_nil)))))) pa_nil)))) (pss_cons (ps_set (i := 13) S.nd rfl (Or.inl rfl) (pe_op op_cat (pv 13) (pe_lst (pa_cons (pe_fn G__law_told (hr.mono (by decide)) pass0 (pa_cons (pv 7) (pa_cons (pv 2) (pa_cons (pv 3) (pa_cons (pv 11) (pa_cons (pv 12) pa_nil)))))) (pa_cons (pe_fn G__law_told (hr.mono (by decide)) pass0 (pa_cons (pv 7) (pa_cons (pv 2) (pa_cons (pv 3) (pa_cons (pv 4) (pa_cons (pv 12) pa_nil)))))) pa_nil))))) (pss_cons (ps_if (pt_cmpR (op_neD hr.units) (pv 13) (pe_lst (pa_cons pe_str (pa_cons pe_str (pa_cons pe_str (pa_cons (pe_ix ix_list (pe_lst (pa_cons pe_str (pa_cons pe_str pa_nil))) (pv 7) (fun _ _ => rfl)) pa_nil))))) (nomark _)) (pss_one (ps_ret pe_bl)) pss_nil) (pss_one (ps_for PassesOwn.never rfl (pi_list (pe_lst (pa_cons pe_int (pa_cons pe_int pa_nil)))) (pg_name (i := 14) S.nd rfl (Or.inl rfl)) (pss_cons (ps_set (i := 13) S.nd rfl (Or.inl rfl) (pe_lst (pa_cons (pe_fn G__law_told (hr.mono (by decide)) pass0 (pa_cons (pv 14) (pa_cons (pv 9) (pa_cons (pv 10) (pa_cons (pv 11) (pa_cons pe_int pa_nil)))))) (pa_cons (pe_fn G__law_told (hr.mono (by decide)) pass0 (pa_cons (pv 14) (pa_cons (pv 2) (pa_cons (pv 10) (pa_cons (pv 11) (pa_cons pe_int pa_nil)))))) pa_nil)))) (pss_cons (ps_expr (pe_bm PySem.F.plainAttrs_list PySem.F.slot_list_append PySem.F.type_list_append mt_append (pv 13) (pa_cons (pe_fn G__law_told (hr.mono (by decide)) pass0 (pa_cons (pv 14) (pa_cons (pv 2) (pa_cons (pv 3) (pa_cons (pv 11) (pa_cons pe_int pa_nil)))))) pa_nil))) (pss_one (ps_if (pt_cmpR (op_neD hr.units) (pv 13) (pe_lst (pa_cons pe_str (pa_cons pe_str (pa_cons pe_str pa_nil)))) (nomark _)) (pss_one (ps_ret pe_bl)) pss_nil))))))))))))))) (pss_one (ps_ret (pe_cmpR (op_eqD hr.units) (pe_lc (own := [("_law_way", 7)]) (g := gName 7) (by rfl) S.nd (pi_range1 (by rfl) T.b_range (pa_cons pe_int pa_nil)) (blkOk_by (own := [("_law_way", 7)]) (N := ["_law_script", "_law_state_here", "_law_many", "_law_step", "_law_begin", "_law_place", "_law_kept", "_law_way", "_law_turn", "_law_bad", "_law_odd", "_law_off", "_law_out", "_law_told_here", "_law_other"]) (sc := defScope s_law) (by decide +kernel)) (fun _ _ _ _ _ => pg_name (i := 7) S.nd rfl (Or.inl rfl)) (fun _ _ _ _ _ => pts_nil) (fun _ _ _ _ _ => (pe_fn G__law_told (hr.mono (by decide)) pass0 (pa_cons (pv 7) (pa_cons (pv 2) (pa_cons (pv 3) (pa_cons (pv 4) (pa_cons (pe_ix (ix_lK (K := K)) (pe_lst (pa_cons (pv 5) (pa_cons (pe_op op_add (pv 5) pe_int) (pa_cons pe_int (pa_cons pe_int pa_nil))))) (pv 7) (fun _ _ => rfl)) pa_nil)))))))) (pv 6) (nomark _))))))))))), ?_⟩
    refine ⟨_, rfl, a, ns, 0, rfl, hS, by decide, fun st H1 hst k1 t1 => ?_⟩
    -- many
    refine ⟨_, rfl, _, _, rfl, rfl, ⟨by decide, by decide, by decide⟩, _, rfl, _, _, rfl, rfl, ⟨by decide, by decide, by decide⟩, st, _, rfl, t1, by show (0 : Int) < 10 ^ (60 : Int).toNat; decide, fun H2 r2 d2 r20 r21 => ?_⟩
    refine ⟨_, _, rfl, rfl, _, rfl, st, rfl, d2.2, fun H3 r3 d3 _ _ => ?_⟩
    refine ⟨_, _, rfl, rfl, by show (0 : Int) < _; decide, _, _, rfl, rfl, sz 4 (by decide), fun p hp => ?_⟩
    refine ⟨st, _, rfl, d3.2.new hp, .inl ⟨p, _, rfl, SqL.of upd_same, by simp, d3.2.fresh hp, fun H4 v hv d4 => ?_⟩⟩
    have r21 : r2 < 10 ^ 60 := r21
    obtain ⟨n, rfl, n1, n2⟩ : ∃ n : Nat, v = .int n ∧ 1 ≤ n ∧ n ≤ 10 ^ 60 := by
      simp only [List.mem_cons, List.not_mem_nil, or_false] at hv
      rcases hv with rfl | rfl | rfl | rfl
      · exact ⟨1, rfl, by decide, by decide⟩
      · exact ⟨10 ^ 60, rfl, by decide, by decide⟩
      · exact ⟨(1 + r2).toNat, congrArg V.int (by omega), by omega, by omega⟩
      · exact ⟨(1 + r3 % 9).toNat, congrArg V.int (by omega), by omega, by omega⟩
    -- step, begin, place
    refine ⟨_, rfl, st, rfl, d4.2, fun H5 r5 d5 _ _ => ?_⟩
    refine ⟨_, _, rfl, rfl, by show (0 : Int) < _; decide, _, _, rfl, rfl, ?_⟩
    obtain ⟨s, es⟩ := Int.eq_ofNat_of_zero_le (show 0 ≤ 1 + r5 % 9 by omega)
    have s1 : 1 ≤ s := by omega
    have s2 : s ≤ 100 := by omega
    refine set_eq (y := .int s) (congrArg V.int es) ?_
    refine ⟨_, rfl, _, rfl, st, _, rfl, d5.2, by omega, fun H6 r6 d6 r60 r61 => ?_⟩
    obtain ⟨b, rfl⟩ := Int.eq_ofNat_of_zero_le r60
    have b1 : b < n := by omega
    refine ⟨_, rfl, _, rfl, st, _, rfl, d6.2, by omega, fun H7 r7 d7 r70 r71 => ?_⟩
    obtain ⟨x, rfl⟩ := Int.eq_ofNat_of_zero_le r70
    have x1 : x < n := by omega
    have hxb := Nat.mod_lt (x + n - b) (show 0 < n by omega)
    obtain ⟨c0, c01, c02, c03⟩ := Jo.pos_surj s1 hxb
    have told : ∀ {H : Hp} {E : XK} {k : Nat → Nat → Nat → Prop}, k n s b → Told K H E (.int n) (.int s) (.int b) k := fun q => .inr ⟨n, rfl, n1, n2, .inr ⟨s, rfl, s1, s2, .inr ⟨b, rfl, b1, q⟩⟩⟩
    have told0 : ∀ {H : Hp} {E : XK} {k : Nat → Nat → Nat → Prop}, k n s 0 → Told K H E (.int n) (.int s) (.int 0) k := fun q => .inr ⟨n, rfl, n1, n2, .inr ⟨s, rfl, s1, s2, .inr ⟨0, rfl, by omega, q⟩⟩⟩
    obtain ⟨res, eres⟩ : ∃ res : List V, res = [.int c0, .int (((b + Jo.pos s n ((x + 1) * s)) % n : Nat) : Int), .int (((b + Jo.pos s n (n * s)) % n : Nat) : Int), .int (((b + n - Jo.pos s n (n * s)) % n : Nat) : Int)] := ⟨_, rfl⟩
    have lres : res.length = 4 := by rw [eres]; rfl
    -- one question of the four
    have ask : ∀ (i : Nat) (D : Addr) (H' : Hp) (v : V) (q : Addr) (Q : VK) (E : XK), i < 4 → [V.int x, V.int ((x : Int) + 1), V.int 0, V.int 0][i]? = some v →
        (∀ r, res[i]? = some r → Q r H') → spTold4 K [.int (0 + (i : Int)), .int n, .int s, .int b, v] H' Q E := by
      intro i D H' v q Q E hi hv hr
      have h4 : i = 0 ∨ i = 1 ∨ i = 2 ∨ i = 3 := by omega
      rcases h4 with rfl | rfl | rfl | rfl
      · obtain rfl := Option.some.inj hv
        refine ⟨_, _, _, _, _, rfl, .inl ⟨rfl, _, _, _, _, rfl, told (.inr ⟨x, rfl, x1, fun c c1 c2 hc => ?_⟩)⟩⟩
        have := Jo.pos_one s1 c1 c2 c01 c02 (hc.trans c03.symm)
        subst this
        exact hr _ (by rw [eres]; rfl)
      · obtain rfl := Option.some.inj hv
        exact ⟨_, _, _, _, _, rfl, .inr (.inl ⟨rfl, _, _, _, _, rfl, told (.inr ⟨x + 1, rfl, by omega, by omega, hr _ (by rw [eres]; rfl)⟩)⟩)⟩
      · obtain rfl := Option.some.inj hv
        exact ⟨_, _, _, _, _, rfl, .inr (.inr (.inl ⟨rfl, _, _, _, rfl, told (hr _ (by rw [eres]; rfl))⟩))⟩
      · obtain rfl := Option.some.inj hv
        exact ⟨_, _, _, _, _, rfl, .inr (.inr (.inr ⟨rfl, _, _, _, rfl, told0 (.inr ⟨b, rfl, b1, hr _ (by rw [eres]; rfl)⟩)⟩))⟩
    -- kept
    refine ⟨4, rfl, by decide, by decide, fun D hD => lc_range (lo := 0) (n := 4) (fun i H' => StAt H' st ∧ H' D = some (.lst (res.take i))) ⟨d7.2.new hD, upd_same⟩ ?_ ?_⟩
    · rintro i H8 hi ⟨t8, e8⟩
      refine ⟨rfl, tyes (iteT ?_)⟩
      obtain ⟨v, hv⟩ : ∃ v, [V.int x, V.int ((x : Int) + 1), V.int 0, V.int 0][i]? = some v := ⟨_, List.getElem?_eq_getElem (by exact hi)⟩
      refine ⟨_, rfl, _, rfl, _, rfl, _, rfl, _, rfl, _, rfl, _, _, rfl, rfl, sz 4 (by decide), fun q hq => ?_⟩
      refine ⟨_, rfl, q, _, _, v, rfl, rfl, SqL.of upd_same, at_of (j := i) (by omega) hv, ?_⟩
      refine ask i D _ v q _ E0 hi hv fun r hr => ?_
      exact kept_more t8 (d7.2.fresh hD) e8 hq hr (by omega)
    rintro H8 ⟨t8, e8⟩
    rw [List.take_of_length_le (by omega)] at e8
    have nDst := d7.2.fresh hD
    -- the turns
    refine ⟨4, rfl, by decide, by decide, for_range (lo := 0) (n := 4) (fun i σ H' => ∃ v7 v8 v9 v10 v11 v12 v13 v14, σ = [some (.ref a), some (.ref st), some (.int n), some (.int s), some (.int b), some (.int x), some (.ref D), v7, v8, v9, v10, v11, v12, v13, v14] ∧ StAt H' st ∧ H' D = some (.lst res))
      ⟨_, _, _, _, _, _, _, _, rfl, t8, e8⟩ ?_ ?_⟩
    · rintro i σ G0 hi ⟨v7, v8, v9, v10, v11, v12, v13, v14, rfl, g0, f0⟩
      obtain ⟨w, ew⟩ : ∃ w : Int, w = (0 + (i : Int)) % 2 := ⟨_, rfl⟩
      have w01 : w = 0 ∨ w = 1 := by omega
      have w4 : w = 0 ∨ w = 1 ∨ w = 2 ∨ w = 3 := by omega
      -- bad
      refine ⟨_, rfl, _, rfl, _, _, rfl, rfl, ⟨by decide, by decide, by decide⟩, _, _, rfl, rfl, sz 1 (by decide), fun l1 hl1 => ?_⟩
      refine ⟨sz 7 (by decide), fun p1 hp1 => ?_⟩
      have g1 := g0.new (o := .lst [.int 1]) hl1
      refine ⟨st, _, rfl, g1.new hp1, .inl ⟨p1, _, rfl, SqL.of upd_same, by simp, g1.fresh hp1, fun G1 bad hv1 dd1 => ?_⟩⟩
      have B1 : BadV st G1 1 (10 ^ 60) bad := by
        simp only [List.mem_cons, List.not_mem_nil, or_false] at hv1
        rcases hv1 with rfl | rfl | rfl | rfl | rfl | rfl | rfl
        · exact badI (by decide)
        · exact badI (by decide)
        · exact badI (by decide)
        · exact badN
        · exact badB
        · exact badS
        · refine badL (xs := [.int 1]) (g0.fresh hl1) (dd1.at ?_ (g0.fresh hl1))
          rw [upd_ne (ne_of_none upd_same hp1)]
          exact upd_same
      have D1 : Drew st G0 G1 := (((Drew.refl g0).new hl1).new hp1).trans dd1
      -- odd
      refine ⟨_, rfl, _, rfl, _, _, rfl, rfl, ⟨by decide, by decide, by decide⟩, sz 1 (by decide), fun l2 hl2 => ?_⟩
      refine ⟨sz 8 (by decide), fun p2 hp2 => ?_⟩
      have g2 := D1.2.new (o := .tup [.int 1]) hl2
      refine ⟨st, _, rfl, g2.new hp2, .inl ⟨p2, _, rfl, SqL.of upd_same, by simp, g2.fresh hp2, fun G2 odd hv2 dd2 => ?_⟩⟩
      have B2 : BadV st G2 1 100 odd := by
        simp only [List.mem_cons, List.not_mem_nil, or_false] at hv2
        rcases hv2 with rfl | rfl | rfl | rfl | rfl | rfl | rfl | rfl
        · exact badI (by decide)
        · exact badI (by decide)
        · exact badI (by decide)
        · exact badI (by decide)
        · exact badN
        · exact badB
        · exact badS
        · refine badT (xs := [.int 1]) (D1.2.fresh hl2) (dd2.at ?_ (D1.2.fresh hl2))
          rw [upd_ne (ne_of_none upd_same hp2)]
          exact upd_same
      have D2 : Drew st G1 G2 := (((Drew.refl D1.2).new hl2).new hp2).trans dd2
      -- off
      refine ⟨_, rfl, _, rfl, _, rfl, _, rfl, _, rfl, _, _, rfl, rfl, ⟨by decide, by decide, by decide⟩, st, _, rfl, D2.2, by show (0 : Int) < 10 ^ (62 : Int).toNat; decide, fun G3 r3 dd3 r30 r31 => ?_⟩
      refine ⟨_, _, rfl, rfl, sz 6 (by decide), fun p3 hp3 => ?_⟩
      refine ⟨st, _, rfl, dd3.2.new hp3, .inl ⟨p3, _, rfl, SqL.of upd_same, by simp, dd3.2.fresh hp3, fun G4 off hv3 dd4 => ?_⟩⟩
      have B3 : BadV st G4 0 ((n : Int) - 1) off := by
        simp only [List.mem_cons, List.not_mem_nil, or_false] at hv3
        rcases hv3 with rfl | rfl | rfl | rfl | rfl | rfl
        · exact badI (by omega)
        · exact badI (by omega)
        · exact badI (by omega)
        · exact badN
        · exact badB
        · exact badS
      have D3 : Drew st G2 G4 := (dd3.new hp3).trans dd4
      -- out
      refine ⟨fun σ' G' => ∃ out, σ' = [some (.ref a), some (.ref st), some (.int n), some (.int s), some (.int b), some (.int x), some (.ref D), v7, some (.int (0 + (i : Int))), some bad, some odd, some off, some out, v13, v14] ∧ Drew st G4 G' ∧
        ((w = 0 ∧ BadV st G' 0 ((n : Int) - 1) out) ∨ (w = 1 ∧ BadV st G' 1 (n : Int) out)), ?_, ?_⟩
      · refine ⟨_, rfl, _, rfl, _, rfl, sz 5 (by decide), fun l4 hl4 => ?_⟩
        refine ⟨_, rfl, _, _, rfl, rfl, _, rfl, sz 6 (by decide), fun l5 hl5 => ?_⟩
        refine ⟨sz 2 (by decide), fun l6 hl6 => ?_⟩
        have g4 := (D3.2.new (o := .lst [.int n, .int (-1), .non, .bl true, .str "0"]) hl4)
        have g5 := g4.new (o := .lst [.int 0, .int ((n : Int) + 1), .int (-1), .non, .bl true, .str "1"]) hl5
        have g6 := g5.new (o := .lst [.ref l4, .ref l5]) hl6
        have DD : Drew st G4 (upd (upd (upd G4 l4 (.lst [.int n, .int (-1), .non, .bl true, .str "0"])) l5 (.lst [.int 0, .int ((n : Int) + 1), .int (-1), .non, .bl true, .str "1"])) l6 (.lst [.ref l4, .ref l5])) := (((Drew.refl D3.2).new hl4).new hl5).new hl6
        have n45 : l4 ≠ l5 := ne_of_none upd_same hl5
        have a5 : upd (upd G4 l4 (.lst [.int n, .int (-1), .non, .bl true, .str "0"])) l5 (.lst [.int 0, .int ((n : Int) + 1), .int (-1), .non, .bl true, .str "1"]) l4 = some (.lst [.int n, .int (-1), .non, .bl true, .str "0"]) := by
          rw [upd_ne n45]
          exact upd_same
        refine ⟨_, rfl, _, _, rfl, rfl, by show (0 : Int) < _; decide, ?_⟩
        rcases w01 with w0 | w0
        · refine ⟨l6, _, _, .ref l4, rfl, rfl, SqL.of upd_same, at_of (j := 0) (ew.symm.trans w0) rfl, ?_⟩
          refine ⟨st, _, rfl, g6, .inl ⟨l4, _, rfl, SqL.of (by rw [upd_ne (ne_of_none a5 hl6)]; exact a5), by simp, D3.2.fresh hl4, fun G5 out hv dd => ?_⟩⟩
          refine ⟨out, rfl, DD.trans dd, .inl ⟨w0, ?_⟩⟩
          simp only [List.mem_cons, List.not_mem_nil, or_false] at hv
          rcases hv with rfl | rfl | rfl | rfl | rfl
          · exact badI (by omega)
          · exact badI (by omega)
          · exact badN
          · exact badB
          · exact badS
        · refine ⟨l6, _, _, .ref l5, rfl, rfl, SqL.of upd_same, at_of (j := 1) (ew.symm.trans w0) rfl, ?_⟩
          refine ⟨st, _, rfl, g6, .inl ⟨l5, _, rfl, SqL.of (by rw [upd_ne (ne_of_none upd_same hl6)]; exact upd_same), by simp, g4.fresh hl5, fun G5 out hv dd => ?_⟩⟩
          refine ⟨out, rfl, DD.trans dd, .inr ⟨w0, ?_⟩⟩
          simp only [List.mem_cons, List.not_mem_nil, or_false] at hv
          rcases hv with rfl | rfl | rfl | rfl | rfl | rfl
          · exact badI (by omega)
          · exact badI (by omega)
          · exact badI (by omega)
          · exact badN
          · exact badB
          · exact badS
      rintro σ' G5 ⟨out, rfl, D4, B4⟩
      have D14 := (D2.trans D3).trans D4
      have f5 : G5 D = some (.lst res) := (D1.trans D14).at f0 nDst
      have B1 := B1.keep D14.1
      have B2 := B2.keep (D3.trans D4).1
      have B3 := B3.keep D4.1
      have g5 := D4.2
      -- way
      refine ⟨_, rfl, _, _, rfl, rfl, by show (0 : Int) < _; decide, ?_⟩
      refine set_eq (y := .int w) (congrArg V.int ew.symm) ?_
      -- told
      refine ⟨_, rfl, _, rfl, _, rfl, _, rfl, _, rfl, told4_many (E := E0) w4 B1.out fun G6 q6 => ?_⟩
      refine ⟨_, rfl, _, rfl, _, rfl, _, rfl, _, rfl, told4_step (E := E0) w4 n1 n2 (B2.keep (q6.mono (by simp))).out fun G7 q7 => ?_⟩
      refine ⟨sz 2 (by decide), fun l7 hl7 => ?_⟩
      have q57 := q6.trans q7
      have q58 := q57.trans (Kp.new (o := .lst [.str "many", .str "step"]) hl7)
      refine ⟨_, rfl, _, rfl, _, rfl, _, rfl, _, rfl, _, rfl, told4_place (E := E0) w4 n1 n2 s1 s2 (B3.keep (q58.mono (by simp))).out fun G9 q9 => ?_⟩
      have q59 := q58.trans q9
      obtain ⟨wl, ewl⟩ : ∃ wl : Str, (w = 0 ∧ wl = "place") ∨ (w = 1 ∧ wl = "count") := by
        rcases w01 with h | h
        · exact ⟨_, .inl ⟨h, rfl⟩⟩
        · exact ⟨_, .inr ⟨h, rfl⟩⟩
      have lastw : ∀ (R : VK) (E : XK), (∀ G', Kp [] G9 G' → R (.str wl) G') → spTold4 K [.int w, .int n, .int s, .int b, out] G9 R E := fun R E hR => by
        refine told4_last (E := E) n1 n2 s1 s2 b1 ?_
        rcases ewl with ⟨h, rfl⟩ | ⟨h, rfl⟩
        · rcases B4 with ⟨h2, B⟩ | ⟨h2, B⟩
          · exact .inl ⟨h, (B.keep (q59.mono (by simp))).out, hR⟩
          · omega
        · rcases B4 with ⟨h2, B⟩ | ⟨h2, B⟩
          · omega
          · exact .inr ⟨h, (B.keep (q59.mono (by simp))).out, hR⟩
      refine ⟨_, rfl, _, rfl, _, rfl, _, rfl, _, rfl, lastw _ E0 fun G10 q10 => ?_⟩
      have q510 := q59.trans q10
      refine ⟨sz 2 (by decide), fun l10 hl10 => ?_⟩
      have e7 : G10 l7 = some (.lst [.str "many", .str "step"]) := (q9.trans q10) _ _ upd_same List.not_mem_nil
      have n710 : l7 ≠ l10 := ne_of_none e7 hl10
      refine ⟨l7, l10, [.str "many", .str "step"], [.str "place", .str wl], rfl, rfl, by rw [upd_ne n710]; exact e7, upd_same, sz 4 (by decide), fun l11 hl11 => ?_⟩
      have q512 := (q510.trans (Kp.new (o := .lst [.str "place", .str wl]) hl10)).trans (Kp.new (o := .lst ([.str "many", .str "step"] ++ [.str "place", .str wl])) hl11)
      have e11 : upd (upd G10 l10 (.lst [.str "place", .str wl])) l11 (.lst ([.str "many", .str "step"] ++ [.str "place", .str wl])) l11 = some (.lst [.str "many", .str "step", .str "place", .str wl]) := upd_same
      generalize upd (upd G10 l10 (.lst [.str "place", .str wl])) l11 (.lst ([.str "many", .str "step"] ++ [.str "place", .str wl])) = G12 at q512 e11 ⊢
      refine ⟨_, rfl, sz 2 (by decide), fun l12 hl12 => ?_⟩
      refine ⟨_, rfl, l12, _, _, .str wl, rfl, rfl, SqL.of upd_same, ?_, sz 4 (by decide), fun l13 hl13 => ?_⟩
      · rcases ewl with ⟨h, rfl⟩ | ⟨h, rfl⟩
        · exact at_of (j := 0) h rfl
        · exact at_of (j := 1) h rfl
      have q514 := (q512.trans (Kp.new (o := .lst [.str "place", .str "count"]) hl12)).trans (Kp.new (o := .lst [.str "many", .str "step", .str "place", .str wl]) hl13)
      have e14 : upd (upd G12 l12 (.lst [.str "place", .str "count"])) l13 (.lst [.str "many", .str "step", .str "place", .str wl]) l11 = some (.lst [.str "many", .str "step", .str "place", .str wl]) :=
        ((Kp.new (ws := []) hl12).trans (Kp.new hl13)) _ _ e11 List.not_mem_nil
      have okw : ([V.str "many", .str "step", .str "place", .str wl] : List V).all isS = true := by
        rcases ewl with ⟨h, rfl⟩ | ⟨h, rfl⟩ <;> decide +kernel
      refine neD_same (SqL.of e14) (SqL.of upd_same) okw ⟨_, rfl, iteF ?_⟩
      have B1 := B1.keep (q514.mono (by simp))
      have B2 := B2.keep (q514.mono (by simp))
      have B3 := B3.keep (q514.mono (by simp))
      have g14 := g5.same q514
      have f14 := q514 _ _ f5 List.not_mem_nil
      generalize upd (upd G12 l12 (.lst [.str "place", .str "count"])) l13 (.lst [.str "many", .str "step", .str "place", .str wl]) = G14 at B1 B2 B3 g14 f14 ⊢
      -- the other two
      refine ⟨sz 2 (by decide), fun l15 hl15 => ⟨l15, rfl, ⟨_, SqL.of upd_same⟩, for_list (K := K) (a := l15) (xs := [.int 2, .int 3])
        (fun j σ' G' => ∃ v7 v13 v14, σ' = [some (.ref a), some (.ref st), some (.int n), some (.int s), some (.int b), some (.int x), some (.ref D), v7, some (.int (0 + (i : Int))), some bad, some odd, some off, some out, v13, v14] ∧
          Kp [] (upd G14 l15 (.lst [.int 2, .int 3])) G') ⟨_, _, _, rfl, Kp.refl _⟩ (fun _ _ G' _ ⟨_, _, _, _, kk⟩ => SqL.of (kk _ _ upd_same List.not_mem_nil)) ?_ ?_⟩⟩
      · rintro j y σ' G15 hj ⟨u7, u13, u14, rfl, k15⟩
        have k15' := (Kp.new (ws := []) hl15).trans k15
        have hy : ∃ y' : Int, y = .int y' ∧ (y' = 0 ∨ y' = 1 ∨ y' = 2 ∨ y' = 3) := by
          have hm := List.mem_of_getElem? hj
          simp only [List.mem_cons, List.not_mem_nil, or_false] at hm
          rcases hm with rfl | rfl
          · exact ⟨2, rfl, by omega⟩
          · exact ⟨3, rfl, by omega⟩
        obtain ⟨y', rfl, hy⟩ := hy
        refine ⟨_, rfl, _, rfl, _, rfl, _, rfl, told4_many (E := E0) hy (B1.keep (k15'.mono (by simp))).out fun G16 q16 => ?_⟩
        refine ⟨_, rfl, _, rfl, _, rfl, _, rfl, told4_step (E := E0) hy n1 n2 (B2.keep ((k15'.trans q16).mono (by simp))).out fun G17 q17 => ?_⟩
        refine ⟨sz 2 (by decide), fun l17 hl17 => ?_⟩
        have k17 := (k15'.trans q16).trans q17
        have k17' := (k15.trans q16).trans q17
        refine ⟨_, rfl, .inl ⟨rfl, _, SqL.of upd_same⟩, _, rfl, _, rfl, _, rfl, _, rfl, told4_place (E := E0) hy n1 n2 s1 s2 (B3.keep ((k17.trans (Kp.new hl17)).mono (by simp))).out fun G18 q18 => ?_⟩
        have e18 : G18 l17 = some (.lst [.str "many", .str "step"]) := q18 _ _ upd_same List.not_mem_nil
        refine ⟨l17, _, _, rfl, rfl, e18, szl 2 (by decide), ?_⟩
        refine ⟨_, rfl, sz 3 (by decide), fun l19 hl19 => ?_⟩
        have e19 : upd (upd G18 l17 (.lst ([.str "many", .str "step"] ++ [.str "place"]))) l19 (.lst [.str "many", .str "step", .str "place"]) l17 = some (.lst [.str "many", .str "step", .str "place"]) := by
          rw [upd_ne (ne_of_none upd_same hl19)]
          exact upd_same
        refine neD_same (SqL.of e19) (SqL.of upd_same) (by decide +kernel) ⟨_, rfl, iteF ?_⟩
        have h17 : upd G14 l15 (.lst [.int 2, .int 3]) l17 = none := k17'.free hl17 List.not_mem_nil
        exact ⟨_, _, _, rfl, (((k17'.trans (Kp.new hl17)).trans q18).late h17).trans (Kp.new hl19)⟩
      · rintro σ' G16 ⟨u7, u13, u14, rfl, k16⟩
        have k16' := (Kp.new (ws := []) hl15).trans k16
        exact ⟨_, _, _, _, _, _, _, _, rfl, g14.same k16', k16' _ _ f14 List.not_mem_nil⟩
    rintro σ G1 ⟨v7, v8, v9, v10, v11, v12, v13, v14, rfl, g1, f1⟩
    refine ⟨4, rfl, by decide, by decide, fun F hF => lc_range (lo := 0) (n := 4) (fun i H' => StAt H' st ∧ H' F = some (.lst (res.take i)) ∧ H' D = some (.lst res)) ⟨g1.new hF, upd_same, by rw [upd_ne (ne_of_none f1 hF)]; exact f1⟩ ?_ ?_⟩
    · rintro i H8 hi ⟨t8, e8, f8⟩
      refine ⟨rfl, tyes (iteT ?_)⟩
      obtain ⟨v, hv⟩ : ∃ v, [V.int x, V.int ((x : Int) + 1), V.int 0, V.int 0][i]? = some v := ⟨_, List.getElem?_eq_getElem (by exact hi)⟩
      refine ⟨_, rfl, _, rfl, _, rfl, _, rfl, _, rfl, _, rfl, _, _, rfl, rfl, sz 4 (by decide), fun q hq => ?_⟩
      refine ⟨_, rfl, q, _, _, v, rfl, rfl, SqL.of upd_same, at_of (j := i) (by omega) hv, ?_⟩
      refine ask i F _ v q _ E0 hi hv fun r hr => ?_
      obtain ⟨acc, h1, h2, h3, h4⟩ := kept_more (xs := [V.int x, V.int ((x : Int) + 1), V.int 0, V.int 0]) t8 (g1.fresh hF) e8 hq hr (by omega)
      refine ⟨acc, h1, h2, h3, h4, ?_⟩
      rw [upd_ne (ne_of_none f1 hF), upd_ne (ne_of_none f8 hq)]
      exact f8
    rintro H9 ⟨t9, e9, f9⟩
    rw [List.take_of_length_le (by omega)] at e9
    have okr : res.all isS = true := by rw [eres]; rfl
    exact ⟨_, rfl, eqD_same (SqL.of e9) (SqL.of f9) okr (hQ _)⟩
end
end Lz
namespace Lz
open PySem PySem.Spec PyProof.Rows L2

def d__law_cell_at : He.DefD := ⟨("_law_cell_at", none), "_law_cell_at", "_law_cell_at", defArgs s__law_cell_at, defBody s__law_cell_at, defScope s__law_cell_at, [], []⟩
def d__law_state : He.DefD := ⟨("_law_state", none), "_law_state", "_law_state", defArgs s__law_state, defBody s__law_state, defScope s__law_state, [], []⟩
def d__law_next : He.DefD := ⟨("_law_next", none), "_law_next", "_law_next", defArgs s__law_next, defBody s__law_next, defScope s__law_next, [], []⟩
def d__law_of : He.DefD := ⟨("_law_of", none), "_law_of", "_law_of", defArgs s__law_of, defBody s__law_of, defScope s__law_of, [], []⟩
def d__law_far : He.DefD := ⟨("_law_far", none), "_law_far", "_law_far", defArgs s__law_far, defBody s__law_far, defScope s__law_far, [], []⟩
def d_is_number : He.DefD := ⟨("is_number", none), "is_number", "is_number", defArgs s_is_number, defBody s_is_number, defScope s_is_number, [], []⟩
def d_need_many : He.DefD := ⟨("need_many", none), "need_many", "need_many", defArgs s_need_many, defBody s_need_many, defScope s_need_many, [], []⟩
def d_need_step : He.DefD := ⟨("need_step", none), "need_step", "need_step", defArgs s_need_step, defBody s_need_step, defScope s_need_step, [], []⟩
def d_need_place : He.DefD := ⟨("need_place", none), "need_place", "need_place", defArgs s_need_place, defBody s_need_place, defScope s_need_place, [], []⟩
def d_need_told : He.DefD := ⟨("need_told", none), "need_told", "need_told", defArgs s_need_told, defBody s_need_told, defScope s_need_told, [], []⟩
def d_count_by : He.DefD := ⟨("count_by", none), "count_by", "count_by", defArgs s_count_by, defBody s_count_by, defScope s_count_by, [], []⟩
def d_count_of : He.DefD := ⟨("count_of", none), "count_of", "count_of", defArgs s_count_of, defBody s_count_of, defScope s_count_of, [], []⟩
def d_need_count : He.DefD := ⟨("need_count", none), "need_count", "need_count", defArgs s_need_count, defBody s_need_count, defScope s_need_count, [], []⟩
def d_first_number : He.DefD := ⟨("first_number", none), "first_number", "first_number", defArgs s_first_number, defBody s_first_number, defScope s_first_number, [], []⟩
def d_goes_at : He.DefD := ⟨("goes_at", none), "goes_at", "goes_at", defArgs s_goes_at, defBody s_goes_at, defScope s_goes_at, [], []⟩
def d_last_of : He.DefD := ⟨("last_of", none), "last_of", "last_of", defArgs s_last_of, defBody s_last_of, defScope s_last_of, [.int (0)], []⟩
def d_begin_for : He.DefD := ⟨("begin_for", none), "begin_for", "begin_for", defArgs s_begin_for, defBody s_begin_for, defScope s_begin_for, [], []⟩
def d__law_error : He.DefD := ⟨("_law_error", none), "_law_error", "_law_error", defArgs s__law_error, defBody s__law_error, defScope s__law_error, [], []⟩
def d__law_told : He.DefD := ⟨("_law_told", none), "_law_told", "_law_told", defArgs s__law_told, defBody s__law_told, defScope s__law_told, [], []⟩
def d_law : He.DefD := ⟨("law", none), "law", "law", defArgs s_law, defBody s_law, defScope s_law, [], []⟩
def fn : List He.DefD := [d__law_cell_at, d__law_state, d__law_next, d__law_of, d__law_far, d_is_number, d_need_many, d_need_step, d_need_place, d_need_told, d_count_by, d_count_of, d_need_count, d_first_number, d_goes_at, d_last_of, d_begin_for, d__law_error, d__law_told, d_law]
def fa : List He.Fa := [.glo "_law_cell_at", .glo "_law_state", .glo "_law_next", .glo "_law_of", .glo "_law_far", .glo "is_number", .glo "need_many", .glo "need_step", .glo "need_place", .glo "need_told", .glo "count_by", .glo "count_of", .glo "need_count", .glo "first_number", .glo "goes_at", .glo "last_of", .glo "begin_for", .glo "_law_error", .glo "_law_told", .glo "law", .free "len", .free "range", .free "list", .free "min", .free "max", .free "isinstance", .free "int", .free "bool", .free "str", .free "enumerate", .free "all", .free "set", .free "ValueError", .int "GREATEST" (1000000000000000000000000000000000000000000000000000000000000), .int "MOST_STEP" (100), .glo "CountError", .glo "NoRing", .glo "NoMany", .glo "NoStep", .glo "NoPlace", .glo "NoCount", .glo "NoHand", .glo "TwiceTold", .glo "TooMany", .keep "CountError", .exc "NoRing", .exm "NoRing" "CountError" true, .exc "NoMany", .exm "NoMany" "CountError" true, .exc "NoStep", .exm "NoStep" "CountError" true, .exc "NoPlace", .exm "NoPlace" "CountError" true, .exc "NoCount", .exm "NoCount" "CountError" true, .exc "NoHand", .exm "NoHand" "CountError" true, .exc "TwiceTold", .exm "TwiceTold" "CountError" true, .exc "TooMany", .exm "TooMany" "CountError" true]
def nm0 : List PySem.Str := ["CountError", "NoRing", "NoMany", "NoStep", "NoPlace", "NoCount", "NoHand", "TwiceTold", "TooMany", "is_number", "need_many", "need_step", "need_place", "need_count", "count_by", "first_number", "need_told", "count_of", "goes_at", "last_of", "begin_for", "_law_cell_at", "_law_next", "_law_state", "_law_of", "_law_far", "_law_error", "_law_told", "GREATEST", "MOST_STEP"]
def nms : List PySem.Str := nm0
abbrev R : PySem.W.OpenRow := PySem.W.OpenLaw.row PySem.Challenge.rw_countout_k04_numbers_refused
def exB (K : PySem.W.Frag) : Bool := errB K (errNames.map (·.1))
abbrev hk : PySem.W.Hook := He.hookX 5 fa fn [] [] exB
def ob (s : PySem.W.SharedT) : He.AlX := He.obsX 5 fa fn [] [] exB (HandSHeadRun.getT s)
theorem ob_eq (s : PySem.W.SharedT) : ob s = hk.obs s.abs := He.obsX_eq (HandSHeadRun.getT_eq s)
theorem run_top (w : World) : HandSHeadRun.RunEq R (PySem.W.view R.prog [35]) hk ob 6000 nms w := by
  intro os
  kernel_rfl
theorem txt_of {K : PySem.W.Frag} {h : Heap} {mg : Str → Option Value} (X : K.In h) (G : h.Ns mainGlobals mg) (c : He.SaysD fa fn K) (ce : exB K = true) : Txt K mg where
  b_len := He.free_ok X G (c.fact 20 (f := .free "len") rfl)
  b_range := He.free_ok X G (c.fact 21 (f := .free "range") rfl)
  b_list := He.free_ok X G (c.fact 22 (f := .free "list") rfl)
  b_min := He.free_ok X G (c.fact 23 (f := .free "min") rfl)
  b_max := He.free_ok X G (c.fact 24 (f := .free "max") rfl)
  b_isinstance := He.free_ok X G (c.fact 25 (f := .free "isinstance") rfl)
  b_int := He.free_ok X G (c.fact 26 (f := .free "int") rfl)
  b_bool := He.free_ok X G (c.fact 27 (f := .free "bool") rfl)
  b_str := He.free_ok X G (c.fact 28 (f := .free "str") rfl)
  b_enumerate := He.free_ok X G (c.fact 29 (f := .free "enumerate") rfl)
  b_all := He.free_ok X G (c.fact 30 (f := .free "all") rfl)
  b_set := He.free_ok X G (c.fact 31 (f := .free "set") rfl)
  b_ValueError := He.free_ok X G (c.fact 32 (f := .free "ValueError") rfl)
  c_GREATEST := He.int_ok X G (c.fact 33 (f := .int "GREATEST" (1000000000000000000000000000000000000000000000000000000000000)) rfl)
  c_MOST_STEP := He.int_ok X G (c.fact 34 (f := .int "MOST_STEP" (100)) rfl)
  g_CountError := He.glo_ok X G (c.fact 35 (f := .glo "CountError") rfl)
  g_NoRing := He.glo_ok X G (c.fact 36 (f := .glo "NoRing") rfl)
  g_NoMany := He.glo_ok X G (c.fact 37 (f := .glo "NoMany") rfl)
  g_NoStep := He.glo_ok X G (c.fact 38 (f := .glo "NoStep") rfl)
  g_NoPlace := He.glo_ok X G (c.fact 39 (f := .glo "NoPlace") rfl)
  g_NoCount := He.glo_ok X G (c.fact 40 (f := .glo "NoCount") rfl)
  g_NoHand := He.glo_ok X G (c.fact 41 (f := .glo "NoHand") rfl)
  g_TwiceTold := He.glo_ok X G (c.fact 42 (f := .glo "TwiceTold") rfl)
  g_TooMany := He.glo_ok X G (c.fact 43 (f := .glo "TooMany") rfl)
  x_CountError := He.keep_ok (c.fact 44 (f := .keep "CountError") rfl)
  x_NoRing := exct (c.fact 45 (f := .exc "NoRing") rfl)
  x_NoMany := exct (c.fact 47 (f := .exc "NoMany") rfl)
  x_NoStep := exct (c.fact 49 (f := .exc "NoStep") rfl)
  x_NoPlace := exct (c.fact 51 (f := .exc "NoPlace") rfl)
  x_NoCount := exct (c.fact 53 (f := .exc "NoCount") rfl)
  x_NoHand := exct (c.fact 55 (f := .exc "NoHand") rfl)
  x_TwiceTold := exct (c.fact 57 (f := .exc "TwiceTold") rfl)
  x_TooMany := exct (c.fact 59 (f := .exc "TooMany") rfl)
  err := errB_ok ce
theorem facts {P : Program} {w : World} {K : PySem.W.Frag} {h : Heap} {mg : Str → Option Value} {f : Addr} (X : K.In h) (G : h.Ns mainGlobals mg) (hfa : mg ("law" : Str) = some (.ref f)) (c : He.SaysD fa fn K) (ce : exB K = true) :
    ∃ fd : FuncData, (∀ (s : Shared) (v : Value), BindsTo s fd ⟨[v], []⟩ [("_law_script", v)]) ∧ ∀ base : Heap, K.In base → base.Ns mainGlobals mg → FnOk P w K mg base CX0 7 f fd ["_law_script"] (spLaw K) := by
  have T := txt_of X G c ce
  obtain ⟨fd__law_cell_at, F__law_cell_at⟩ := c.def_ 0 (d := d__law_cell_at) rfl
  obtain ⟨fd__law_state, F__law_state⟩ := c.def_ 1 (d := d__law_state) rfl
  obtain ⟨fd__law_next, F__law_next⟩ := c.def_ 2 (d := d__law_next) rfl
  obtain ⟨fd__law_of, F__law_of⟩ := c.def_ 3 (d := d__law_of) rfl
  obtain ⟨fd__law_far, F__law_far⟩ := c.def_ 4 (d := d__law_far) rfl
  obtain ⟨fd_is_number, F_is_number⟩ := c.def_ 5 (d := d_is_number) rfl
  obtain ⟨fd_need_many, F_need_many⟩ := c.def_ 6 (d := d_need_many) rfl
  obtain ⟨fd_need_step, F_need_step⟩ := c.def_ 7 (d := d_need_step) rfl
  obtain ⟨fd_need_place, F_need_place⟩ := c.def_ 8 (d := d_need_place) rfl
  obtain ⟨fd_need_told, F_need_told⟩ := c.def_ 9 (d := d_need_told) rfl
  obtain ⟨fd_count_by, F_count_by⟩ := c.def_ 10 (d := d_count_by) rfl
  obtain ⟨fd_count_of, F_count_of⟩ := c.def_ 11 (d := d_count_of) rfl
  obtain ⟨fd_need_count, F_need_count⟩ := c.def_ 12 (d := d_need_count) rfl
  obtain ⟨fd_first_number, F_first_number⟩ := c.def_ 13 (d := d_first_number) rfl
  obtain ⟨fd_goes_at, F_goes_at⟩ := c.def_ 14 (d := d_goes_at) rfl
  obtain ⟨fd_last_of, F_last_of⟩ := c.def_ 15 (d := d_last_of) rfl
  obtain ⟨fd_begin_for, F_begin_for⟩ := c.def_ 16 (d := d_begin_for) rfl
  obtain ⟨fd__law_error, F__law_error⟩ := c.def_ 17 (d := d__law_error) rfl
  obtain ⟨fd__law_told, F__law_told⟩ := c.def_ 18 (d := d__law_told) rfl
  obtain ⟨fd_law, F_law⟩ := c.def_ 19 (d := d_law) rfl
  have e := hfa.symm.trans (He.glo_ok X G (c.fact 19 (f := .glo "law") rfl))
  cases e
  refine ⟨fd_law, fun s v => FunD.bindsA (ps := ["_law_script"]) F_law (fun _ _ _ _ _ _ us hl => match us, hl with | [_], _ => rfl) s [v] rfl, fun base _ _ => ?_⟩
  have O__law_cell_at := ok__law_cell_at (P := P) (w := w) (base := base) F__law_cell_at T 
  have G__law_cell_at : FnAt P w K mg base CX0 1 "_law_cell_at" ["_law_script", "_law_k"] [] (spCell K) := by
    exact ⟨_, _, [], He.glo_ok X G (c.fact 0 (f := .glo "_law_cell_at") rfl), F__law_cell_at.kp, FunD.bindsN (ps := ["_law_script", "_law_k"]) F__law_cell_at (fun _ _ _ _ _ _ us hl => match us, hl with | [_, _], _ => rfl), .nil, O__law_cell_at⟩
  have O__law_state := ok__law_state (P := P) (w := w) (base := base) F__law_state T G__law_cell_at
  have G__law_state : FnAt P w K mg base CX0 2 "_law_state" ["_law_script", "_law_first"] [] (spState K) := by
    exact ⟨_, _, [], He.glo_ok X G (c.fact 1 (f := .glo "_law_state") rfl), F__law_state.kp, FunD.bindsN (ps := ["_law_script", "_law_first"]) F__law_state (fun _ _ _ _ _ _ us hl => match us, hl with | [_, _], _ => rfl), .nil, O__law_state⟩
  have O__law_next := ok__law_next (P := P) (w := w) (base := base) F__law_next T 
  have G__law_next : FnAt P w K mg base CX0 1 "_law_next" ["_law_state_here"] [] spNext := by
    exact ⟨_, _, [], He.glo_ok X G (c.fact 2 (f := .glo "_law_next") rfl), F__law_next.kp, FunD.bindsN (ps := ["_law_state_here"]) F__law_next (fun _ _ _ _ _ _ us hl => match us, hl with | [_], _ => rfl), .nil, O__law_next⟩
  have O__law_of := ok__law_of (P := P) (w := w) (base := base) F__law_of T G__law_next
  have G__law_of : FnAt P w K mg base CX0 2 "_law_of" ["_law_state_here", "_law_some"] [] (spOf K) := by
    exact ⟨_, _, [], He.glo_ok X G (c.fact 3 (f := .glo "_law_of") rfl), F__law_of.kp, FunD.bindsN (ps := ["_law_state_here", "_law_some"]) F__law_of (fun _ _ _ _ _ _ us hl => match us, hl with | [_, _], _ => rfl), .nil, O__law_of⟩
  have O__law_far := ok__law_far (P := P) (w := w) (base := base) F__law_far T G__law_next
  have G__law_far : FnAt P w K mg base CX0 2 "_law_far" ["_law_state_here", "_law_many"] [] spFar := by
    exact ⟨_, _, [], He.glo_ok X G (c.fact 4 (f := .glo "_law_far") rfl), F__law_far.kp, FunD.bindsN (ps := ["_law_state_here", "_law_many"]) F__law_far (fun _ _ _ _ _ _ us hl => match us, hl with | [_, _], _ => rfl), .nil, O__law_far⟩
  have O_is_number := ok_is_number (P := P) (w := w) (base := base) F_is_number T 
  have G_is_number : FnAt P w K mg base CX0 1 "is_number" ["thing"] [] (spIsNum K) := by
    exact ⟨_, _, [], He.glo_ok X G (c.fact 5 (f := .glo "is_number") rfl), F_is_number.kp, FunD.bindsN (ps := ["thing"]) F_is_number (fun _ _ _ _ _ _ us hl => match us, hl with | [_], _ => rfl), .nil, O_is_number⟩
  have O_need_many := ok_need_many (P := P) (w := w) (base := base) F_need_many T G_is_number
  have G_need_many : FnAt P w K mg base (CXr P w) 2 "need_many" ["many", "most"] [] (spNeed K (cNoMany K) 1) := by
    exact ⟨_, _, [], He.glo_ok X G (c.fact 6 (f := .glo "need_many") rfl), F_need_many.kp, FunD.bindsN (ps := ["many", "most"]) F_need_many (fun _ _ _ _ _ _ us hl => match us, hl with | [_, _], _ => rfl), .nil, O_need_many⟩
  have O_need_step := ok_need_step (P := P) (w := w) (base := base) F_need_step T G_is_number
  have G_need_step : FnAt P w K mg base (CXr P w) 2 "need_step" ["step", "most"] [] (spNeed K (cNoStep K) 1) := by
    exact ⟨_, _, [], He.glo_ok X G (c.fact 7 (f := .glo "need_step") rfl), F_need_step.kp, FunD.bindsN (ps := ["step", "most"]) F_need_step (fun _ _ _ _ _ _ us hl => match us, hl with | [_, _], _ => rfl), .nil, O_need_step⟩
  have O_need_place := ok_need_place (P := P) (w := w) (base := base) F_need_place T G_is_number
  have G_need_place : FnAt P w K mg base (CXr P w) 2 "need_place" ["many", "place"] [] (spPlace K) := by
    exact ⟨_, _, [], He.glo_ok X G (c.fact 8 (f := .glo "need_place") rfl), F_need_place.kp, FunD.bindsN (ps := ["many", "place"]) F_need_place (fun _ _ _ _ _ _ us hl => match us, hl with | [_, _], _ => rfl), .nil, O_need_place⟩
  have O_need_told := ok_need_told (P := P) (w := w) (base := base) F_need_told T G_need_many G_need_step G_need_place
  have G_need_told : FnAt P w K mg base (CXr P w) 3 "need_told" ["many", "step", "begin"] [] (spTold K) := by
    exact ⟨_, _, [], He.glo_ok X G (c.fact 9 (f := .glo "need_told") rfl), F_need_told.kp, FunD.bindsN (ps := ["many", "step", "begin"]) F_need_told (fun _ _ _ _ _ _ us hl => match us, hl with | [_, _, _], _ => rfl), .nil, O_need_told⟩
  have O_count_by := ok_count_by (P := P) (w := w) (base := base) F_count_by T 
  have G_count_by : FnAt P w K mg base CX0 1 "count_by" ["many", "step", "number"] [] spCountBy := by
    exact ⟨_, _, [], He.glo_ok X G (c.fact 10 (f := .glo "count_by") rfl), F_count_by.kp, FunD.bindsN (ps := ["many", "step", "number"]) F_count_by (fun _ _ _ _ _ _ us hl => match us, hl with | [_, _, _], _ => rfl), .nil, O_count_by⟩
  have O_count_of := ok_count_of (P := P) (w := w) (base := base) F_count_of T G_need_told G_need_place G_count_by
  have G_count_of : FnAt P w K mg base (CXr P w) 4 "count_of" ["many", "step", "begin", "place"] [] (spCountOf K) := by
    exact ⟨_, _, [], He.glo_ok X G (c.fact 11 (f := .glo "count_of") rfl), F_count_of.kp, FunD.bindsN (ps := ["many", "step", "begin", "place"]) F_count_of (fun _ _ _ _ _ _ us hl => match us, hl with | [_, _, _, _], _ => rfl), .nil, O_count_of⟩
  have O_need_count := ok_need_count (P := P) (w := w) (base := base) F_need_count T G_is_number
  have G_need_count : FnAt P w K mg base (CXr P w) 2 "need_count" ["least", "count", "most"] [] (spCount K) := by
    exact ⟨_, _, [], He.glo_ok X G (c.fact 12 (f := .glo "need_count") rfl), F_need_count.kp, FunD.bindsN (ps := ["least", "count", "most"]) F_need_count (fun _ _ _ _ _ _ us hl => match us, hl with | [_, _, _], _ => rfl), .nil, O_need_count⟩
  have O_first_number := ok_first_number (P := P) (w := w) (base := base) F_first_number T 
  have G_first_number : FnAt P w K mg base CX0 1 "first_number" ["many", "step", "count"] [] spFirst := by
    exact ⟨_, _, [], He.glo_ok X G (c.fact 13 (f := .glo "first_number") rfl), F_first_number.kp, FunD.bindsN (ps := ["many", "step", "count"]) F_first_number (fun _ _ _ _ _ _ us hl => match us, hl with | [_, _, _], _ => rfl), .nil, O_first_number⟩
  have O_goes_at := ok_goes_at (P := P) (w := w) (base := base) F_goes_at T G_need_told G_need_count G_first_number
  have G_goes_at : FnAt P w K mg base (CXr P w) 4 "goes_at" ["many", "step", "begin", "count"] [] (spGoesAt K) := by
    exact ⟨_, _, [], He.glo_ok X G (c.fact 14 (f := .glo "goes_at") rfl), F_goes_at.kp, FunD.bindsN (ps := ["many", "step", "begin", "count"]) F_goes_at (fun _ _ _ _ _ _ us hl => match us, hl with | [_, _, _, _], _ => rfl), .nil, O_goes_at⟩
  have O_last_of := ok_last_of (P := P) (w := w) (base := base) F_last_of T G_need_told G_first_number
  have G_last_of : FnAt P w K mg base (CXr P w) 4 "last_of" ["many", "step", "begin"] [] (spLastOf K) := by
    obtain ⟨ds_last_of, v_last_of, b_last_of⟩ := FunD.binds1 (ps := ["many", "step", "begin"]) F_last_of 3 1 (by simp [d_last_of, He.DefD.dvs]) rfl (fun _ _ _ _ _ _ _ us its hl hi => match us, hl, its, hi with | [_, _, _], _, [_], _ => ⟨_, rfl, rfl⟩)
    exact ⟨_, _, ds_last_of, He.glo_ok X G (c.fact 15 (f := .glo "last_of") rfl), F_last_of.kp, b_last_of, v_last_of, O_last_of⟩
  have G_last_of_d : FnAt P w K mg base (CXr P w) 4 "last_of" ["many", "step", "begin"] [V.int (0)] (spLastOf K) := by
    obtain ⟨ds_last_of, v_last_of, b_last_of⟩ := FunD.binds1 (ps := ["many", "step", "begin"]) F_last_of 2 0 (by simp [d_last_of, He.DefD.dvs]) rfl (fun _ _ _ _ _ _ _ us its hl hi => match us, hl, its, hi with | [_, _], _, [_], _ => ⟨_, rfl, rfl⟩)
    exact ⟨_, _, ds_last_of, He.glo_ok X G (c.fact 15 (f := .glo "last_of") rfl), F_last_of.kp, b_last_of, v_last_of, O_last_of⟩
  have O_begin_for := ok_begin_for (P := P) (w := w) (base := base) F_begin_for T G_last_of_d G_need_place
  have G_begin_for : FnAt P w K mg base (CXr P w) 5 "begin_for" ["many", "step", "place"] [] (spBeginFor K) := by
    exact ⟨_, _, [], He.glo_ok X G (c.fact 16 (f := .glo "begin_for") rfl), F_begin_for.kp, FunD.bindsN (ps := ["many", "step", "place"]) F_begin_for (fun _ _ _ _ _ _ us hl => match us, hl with | [_, _, _], _ => rfl), .nil, O_begin_for⟩
  have O__law_error := ok__law_error (P := P) (w := w) (base := base) F__law_error T 
  have G__law_error : FnAt P w K mg base CX0 1 "_law_error" ["_law_e"] [] (spErr K) := by
    exact ⟨_, _, [], He.glo_ok X G (c.fact 17 (f := .glo "_law_error") rfl), F__law_error.kp, FunD.bindsN (ps := ["_law_e"]) F__law_error (fun _ _ _ _ _ _ us hl => match us, hl with | [_], _ => rfl), .nil, O__law_error⟩
  have O__law_told := ok__law_told (P := P) (w := w) (base := base) F__law_told T G_count_of G_goes_at G_last_of G_begin_for G__law_error
  have G__law_told : FnAt P w K mg base CX0 6 "_law_told" ["_law_way", "_law_many", "_law_step", "_law_begin", "_law_last"] [] (spTold4 K) := by
    exact ⟨_, _, [], He.glo_ok X G (c.fact 18 (f := .glo "_law_told") rfl), F__law_told.kp, FunD.bindsN (ps := ["_law_way", "_law_many", "_law_step", "_law_begin", "_law_last"]) F__law_told (fun _ _ _ _ _ _ us hl => match us, hl with | [_, _, _, _, _], _ => rfl), .nil, O__law_told⟩
  exact ok_law F_law T G__law_state G__law_of G__law_far G__law_next G__law_told
end Lz
open PySem PySem.W PySem.Calls PyProof.Rows
set_option maxHeartbeats 0 in
theorem PySem.Challenge.cw_countout_k04_numbers_refused_holds : PySem.Challenge.rw_countout_k04_numbers_refused.Holds := by
  w_on; o_law
  refine HandSHeadRun.head_any (r := Lz.R) (q := view Lz.R.prog [35]) (H := Lz.hk) (ob := Lz.ob) (M := 6000) (loose := Lz.nms) (d := HandSHeadRun.topDef Lz.R.prog 35) (kwd := []) Lz.ob_eq
    (by kernel_rfl) (fun s => by kernel_rfl) Lz.run_top (by kernel_rfl) (by kernel_rfl) (by kernel_rfl) (by rfl) (by first | assumption | decide +kernel) (by decide +kernel) ⟨rfl, rfl, rfl, rfl, rfl, by decide +kernel⟩ ?hw ?hc
  case hw => w_witness2
  case hc =>
    refine L2.walk_ofE (l := PySem.Challenge.rw_countout_k04_numbers_refused) (n := 63) (k := 7) (x := "_law_script") (CX := L2.CX0) rfl (by decide) (by kernel_rfl) ⟨rfl, by decide, by decide⟩ ?F (fun _ _ _ _ z => z)
    intro w mg fa h Y G hmg0
    obtain ⟨K, KX, c⟩ := Y
    have hmg : mg ("law" : PySem.Str) = some (.ref fa) := by
      have e : (HandSHeadRun.topDef Lz.R.prog 35).name = ("law" : PySem.Str) := by kernel_rfl
      rw [← e]
      exact hmg0
    obtain ⟨fd, hb, hF⟩ := Lz.facts (P := (PySem.Challenge.rw_countout_k04_numbers_refused).prog) (w := w) KX G hmg c.t.d c.more
    exact ⟨K, fd, Lz.spLaw K, KX, hb, fun H a ns hl _ hS => ⟨a, ns, rfl, hS, hl, fun _ => rfl⟩, hF⟩
#print axioms PySem.Challenge.cw_countout_k04_numbers_refused_holds
