import PyProof.Rows.All
import Wide.All
import OpenK.AllK
import Wide.FinOn
import KE.KStateDown
import HandS.ForMost
import HandS.ForExc
import HandS.Defaults
import HandS.Wide
import HandS.IsInst
import HandS.Style
import HandS.More
import HandS.Deep
import HandS.Codes
import HandS.Conv
import HandS.ExcIs
import HandS.Head0
import HandS.Head1
import HandS.Head2
import HandS.HeadEnd
import HandS.HeadHook1
import HandS.HeadHook2
import HandS.HeadHook3
import HandS.HeadHook4
import PySem.Challenge.RW_countout_k07_steps_wished
set_option Elab.async false
set_option linter.all false
set_option maxRecDepth 100000
set_option maxHeartbeats 4000000
namespace Jo
/-! ### rings as lists -/
def rotL {α : Type} (xs : List α) (k : Nat) : List α := xs.drop k ++ xs.take k
theorem rotL_length {α : Type} (xs : List α) (k : Nat) : (rotL xs k).length = xs.length := by
  unfold rotL
  rw [List.length_append, List.length_drop, List.length_take]
  omega
theorem rotL_map {α β : Type} (f : α → β) (xs : List α) (k : Nat) : rotL (xs.map f) k = (rotL xs k).map f := by
  unfold rotL
  rw [List.map_append, List.map_drop, List.map_take]
theorem rotL_perm {α : Type} (xs : List α) (k : Nat) : (rotL xs k).Perm xs := by
  unfold rotL
  have h : (xs.drop k ++ xs.take k).Perm (xs.take k ++ xs.drop k) := List.perm_append_comm
  rw [List.take_append_drop] at h
  exact h
theorem rotL_get {α : Type} (xs : List α) (k i : Nat) (hk : k ≤ xs.length) (hi : i < xs.length) : (rotL xs k)[i]? = xs[(i + k) % xs.length]? := by
  unfold rotL
  by_cases h : i < xs.length - k
  · rw [List.getElem?_append_left (by rw [List.length_drop]; exact h), List.getElem?_drop, Nat.mod_eq_of_lt (by omega)]
    congr 1
    omega
  · rw [List.getElem?_append_right (by rw [List.length_drop]; omega), List.length_drop, List.getElem?_take]
    have e : (i + k) % xs.length = i - (xs.length - k) := by
      rw [Nat.mod_eq_sub_mod (by omega), Nat.mod_eq_of_lt (by omega)]
      omega
    rw [e, if_pos (by omega)]
/-- counted out by the step t + 1: n turns -/
def outN {α : Type} (t : Nat) : Nat → List α → List α
  | 0, _ => []
  | n + 1, xs => match rotL xs (t % xs.length) with
    | [] => []
    | h :: r => h :: outN t n r
def out {α : Type} (t : Nat) (xs : List α) : List α := outN t xs.length xs
theorem out_nil {α : Type} (t : Nat) : out t ([] : List α) = [] := rfl
theorem out_step {α : Type} {t : Nat} {xs : List α} {h : α} {r : List α} (e : rotL xs (t % xs.length) = h :: r) : out t xs = h :: out t r := by
  have l : r.length + 1 = xs.length := by
    rw [← rotL_length xs (t % xs.length), e]
    rfl
  unfold out
  rw [← l]
  rw [outN, e]
theorem rot_cons {α : Type} (t : Nat) {xs : List α} (h : xs ≠ []) : ∃ x r, rotL xs (t % xs.length) = x :: r ∧ r.length + 1 = xs.length := by
  cases e : rotL xs (t % xs.length) with
  | nil =>
    have l := rotL_length xs (t % xs.length)
    rw [e] at l
    exact absurd (List.eq_nil_of_length_eq_zero l.symm) h
  | cons x r =>
    have l := rotL_length xs (t % xs.length)
    rw [e] at l
    exact ⟨x, r, rfl, l⟩
/-- induction along the counting out -/
theorem out_ind {α : Type} (t : Nat) {M : List α → Prop} (h0 : M []) (h1 : ∀ xs x r, xs ≠ [] → rotL xs (t % xs.length) = x :: r → r.length + 1 = xs.length → M r → M xs) (xs : List α) : M xs := by
  generalize hn : xs.length = n
  induction n generalizing xs with
  | zero => rw [List.eq_nil_of_length_eq_zero hn]; exact h0
  | succ n ih =>
    have hne : xs ≠ [] := fun q => by rw [q] at hn; cases hn
    obtain ⟨x, r, e, l⟩ := rot_cons t hne
    exact h1 xs x r hne e l (ih r (by omega))
theorem out_map {α β : Type} (t : Nat) (f : α → β) (xs : List α) : out t (xs.map f) = (out t xs).map f := by
  induction xs using out_ind t with
  | h0 => rfl
  | h1 xs x r hne e l ih =>
    rw [out_step e]
    have e2 : rotL (xs.map f) (t % (xs.map f).length) = f x :: r.map f := by
      rw [List.length_map, rotL_map, e, List.map_cons]
    rw [out_step e2, ih, List.map_cons]
theorem out_perm {α : Type} (t : Nat) (xs : List α) : (out t xs).Perm xs := by
  induction xs using out_ind t with
  | h0 => exact List.Perm.refl _
  | h1 xs x r hne e l ih =>
    rw [out_step e]
    have h : (x :: r).Perm xs := by
      rw [← e]
      exact rotL_perm xs _
    exact (List.Perm.cons x ih).trans h
theorem out_length {α : Type} (t : Nat) (xs : List α) : (out t xs).length = xs.length := (out_perm t xs).length_eq
theorem out_mod {α : Type} {t u : Nat} {n : Nat} {xs : List α} (hn : xs.length = n) (h : ∀ m, 0 < m → m ≤ n → t % m = u % m) : out t xs = out u xs := by
  induction xs using out_ind t generalizing n with
  | h0 => rfl
  | h1 xs x r hne e l ih =>
    rw [out_step e]
    have e2 : rotL xs (u % xs.length) = x :: r := by
      rw [← h xs.length (by omega) (by omega)]
      exact e
    rw [out_step e2, ih (n := r.length) rfl fun m h1 h2 => h m h1 (by omega)]
/-! ### places by numbers -/
/-- the place, begun at 0 in a ring of n, of the one who is told the number N, counted on and on (s the step) -/
def pos (s : Nat) : Nat → Nat → Nat
  | 0, _ => 0
  | n + 1, N => if N ≤ s then (N - 1) % (n + 1) else (pos s n (N - s) + s) % (n + 1)
theorem pos_lt (s n N : Nat) (h : 0 < n) : pos s n N < n := by
  cases n with
  | zero => cases h
  | succ n =>
    unfold pos
    split
    · exact Nat.mod_lt _ (Nat.succ_pos n)
    · exact Nat.mod_lt _ (Nat.succ_pos n)
theorem pos_low {s n N : Nat} (h : N ≤ s) : pos s (n + 1) N = (N - 1) % (n + 1) := if_pos h
theorem pos_high {s n N : Nat} (h : s < N) : pos s (n + 1) N = (pos s n (N - s) + s) % (n + 1) := if_neg (by omega)
/-- told at the first round -/
theorem pos_first {s : Nat} (hs : 1 ≤ s) : ∀ {n N : Nat}, 1 ≤ N → N ≤ n → pos s n N = N - 1
  | 0, N, h1, h2 => by omega
  | n + 1, N, h1, h2 => by
    by_cases h : N ≤ s
    · rw [pos_low h, Nat.mod_eq_of_lt (by omega)]
    · rw [pos_high (by omega), pos_first hs (n := n) (N := N - s) (by omega) (by omega), Nat.mod_eq_of_lt (by omega)]
      omega
theorem div_zero {a b : Nat} (h : a < b) : a / b = 0 := Nat.div_eq_of_lt h
/-- the number that one was told ahead of N -/
def prev (s n N : Nat) : Nat := N - n + (N - n - 1) / (s - 1)
theorem pos_prev {s : Nat} (hs : 2 ≤ s) : ∀ {n N : Nat}, n < N → N ≤ n * s → pos s n (prev s n N) = pos s n N
  | 0, N, h1, h2 => by
    rw [Nat.zero_mul] at h2
    omega
  | n + 1, N, h1, h2 => by
    by_cases h : N ≤ s
    · have z : (N - (n + 1) - 1) / (s - 1) = 0 := div_zero (by omega)
      have e : prev s (n + 1) N = N - (n + 1) := by
        unfold prev
        rw [z]
        omega
      rw [e, pos_low (by omega), pos_low h]
      have e2 : N - 1 = N - (n + 1) - 1 + (n + 1) := by omega
      rw [e2, Nat.add_mod_right]
    · have hN : N - s ≤ n * s := by
        rw [Nat.succ_mul] at h2
        omega
      rw [pos_high (show s < N by omega)]
      by_cases h3 : N - s ≤ n
      · rw [pos_first (by omega) (by omega) h3]
        have z : (N - (n + 1) - 1) / (s - 1) = 0 := div_zero (by omega)
        have e : prev s (n + 1) N = N - (n + 1) := by
          unfold prev
          rw [z]
          omega
        rw [e, pos_low (by omega)]
        have e2 : N - s - 1 + s = N - (n + 1) - 1 + (n + 1) := by omega
        rw [e2, Nat.add_mod_right]
      · have ih := pos_prev hs (n := n) (N := N - s) (by omega) hN
        have e : prev s (n + 1) N = prev s n (N - s) + s := by
          unfold prev
          have d : N - (n + 1) - 1 = N - s - n - 1 + (s - 1) := by omega
          rw [d, Nat.add_div_right _ (show 0 < s - 1 by omega)]
          omega
        have p : 1 ≤ prev s n (N - s) := by
          unfold prev
          generalize (N - s - n - 1) / (s - 1) = k
          omega
        rw [e, pos_high (by omega), Nat.add_sub_cancel, ih]
theorem prev_lt {s n N : Nat} (hs : 2 ≤ s) (h1 : n < N) (h2 : N ≤ n * s) : prev s n N < N := by
  unfold prev
  have h3 : (N - n - 1) / (s - 1) < n := by
    rw [Nat.div_lt_iff_lt_mul (by omega)]
    have e : n * s = n * (s - 1) + n := by
      have e2 : s = s - 1 + 1 := by omega
      rw [e2, Nat.mul_succ, Nat.add_sub_cancel]
    omega
  omega
theorem prev_pos {s n N : Nat} (h1 : n < N) : 1 ≤ prev s n N := by
  unfold prev
  generalize (N - n - 1) / (s - 1) = k
  omega
/-- the number that one is told next -/
theorem next_prev {s n N : Nat} (hs : 2 ≤ s) (h0 : 0 < N % s) (h2 : N ≤ n * s) : n < n + N - N / s ∧ n + N - N / s ≤ n * s ∧ N < n + N - N / s ∧ prev s n (n + N - N / s) = N := by
  have d := Nat.div_add_mod N s
  have m := Nat.mod_lt N (show 0 < s by omega)
  have q : N / s < n := by
    rw [Nat.div_lt_iff_lt_mul (by omega)]
    by_cases e : N = n * s
    · rw [e, Nat.mul_mod_left] at h0
      omega
    · omega
  have e1 : s * (N / s) = (s - 1) * (N / s) + N / s := by
    have e2 : s = s - 1 + 1 := by omega
    generalize N / s = k
    rw [e2, Nat.succ_mul, Nat.add_sub_cancel]
  have e3 : (s - 1) * (N / s + 1) ≤ (s - 1) * n := Nat.mul_le_mul_left _ q
  have e4 : n * s = (s - 1) * n + n := by
    have e2 : s = s - 1 + 1 := by omega
    generalize s - 1 = k at e2
    rw [e2, Nat.mul_succ, Nat.mul_comm]
  rw [Nat.mul_succ] at e3
  refine ⟨by omega, by omega, by omega, ?_⟩
  unfold prev
  have e5 : (n + N - N / s - n - 1) / (s - 1) = N / s := by
    have e6 : n + N - N / s - n - 1 = (N % s - 1) + (s - 1) * (N / s) := by omega
    rw [e6, Nat.add_mul_div_left _ _ (by omega), div_zero (by omega), Nat.zero_add]
  rw [e5]
  omega
/-! ### the ring of the places -/
theorem rot_range {n k : Nat} (hk : k < n + 1) : rotL (List.range (n + 1)) k = k :: (List.range n).map fun p => (p + 1 + k) % (n + 1) := by
  apply List.ext_getElem?
  intro i
  by_cases hi : i < n + 1
  · rw [rotL_get _ _ _ (by rw [List.length_range]; omega) (by rw [List.length_range]; exact hi), List.length_range, List.getElem?_range (Nat.mod_lt _ (Nat.succ_pos n))]
    cases i with
    | zero =>
      rw [Nat.zero_add, Nat.mod_eq_of_lt hk]
      rfl
    | succ i =>
      rw [List.getElem?_cons_succ, List.getElem?_map, List.getElem?_range (by omega)]
      rfl
  · rw [List.getElem?_eq_none (by rw [rotL_length, List.length_range]; omega), List.getElem?_eq_none (by rw [List.length_cons, List.length_map, List.length_range]; omega)]
theorem mod_add_mod2 (a b n : Nat) : (a + b % n) % n = (a + b) % n := Nat.add_mod_mod a b n
theorem out_range {s : Nat} (hs : 1 ≤ s) : ∀ {n c : Nat}, c < n → (out (s - 1) (List.range n))[c]? = some (pos s n ((c + 1) * s))
  | 0, c, h => by omega
  | n + 1, c, h => by
    have e := rot_range (n := n) (k := (s - 1) % (n + 1)) (Nat.mod_lt _ (Nat.succ_pos n))
    have e2 : rotL (List.range (n + 1)) ((s - 1) % (List.range (n + 1)).length) = (s - 1) % (n + 1) :: (List.range n).map fun p => (p + 1 + (s - 1) % (n + 1)) % (n + 1) := by
      rw [List.length_range]
      exact e
    rw [out_step e2, out_map]
    cases c with
    | zero =>
      rw [Nat.zero_add, Nat.one_mul, pos_low (Nat.le_refl s)]
      rfl
    | succ c =>
      rw [List.getElem?_cons_succ, List.getElem?_map, out_range hs (n := n) (c := c) (by omega)]
      have e3 : (c + 1 + 1) * s = (c + 1) * s + s := Nat.succ_mul _ _
      have e4 : 0 < (c + 1) * s := Nat.mul_pos (by omega) (by omega)
      rw [e3, pos_high (by omega), Nat.add_sub_cancel]
      show some ((pos s n ((c + 1) * s) + 1 + (s - 1) % (n + 1)) % (n + 1)) = _
      rw [mod_add_mod2]
      congr 2
      omega
theorem out_range_nodup (t n : Nat) : (out t (List.range n)).Nodup := (out_perm t (List.range n)).nodup_iff.mpr List.nodup_range
/-- different counts, different places -/
theorem pos_inj {s n c d : Nat} (hs : 1 ≤ s) (hc : c < n) (hd : d < n) (h : pos s n ((c + 1) * s) = pos s n ((d + 1) * s)) : c = d := by
  have e1 := out_range hs hc
  have e2 := out_range hs hd
  rw [h] at e1
  have hN := out_range_nodup (s - 1) n
  obtain ⟨l1, g1⟩ := List.getElem?_eq_some_iff.mp e1
  obtain ⟨l2, g2⟩ := List.getElem?_eq_some_iff.mp e2
  exact (List.getElem_inj hN).mp (g1.trans g2.symm)
end Jo
namespace Jo
/-! ### hand by hand -/
theorem rotL_zero {α : Type} (xs : List α) : rotL xs 0 = xs := by
  unfold rotL
  rw [List.drop_zero, List.take_zero, List.append_nil]
theorem rotL_ext {α : Type} {xs : List α} {k j : Nat} (hk : k ≤ xs.length) (ys : List α) (hl : ys.length = xs.length) (h : ∀ i, i < xs.length → ys[i]? = xs[(i + k) % xs.length]?) : ys = rotL xs k := by
  apply List.ext_getElem?
  intro i
  by_cases hi : i < xs.length
  · rw [rotL_get xs k i hk hi, h i hi]
  · rw [List.getElem?_eq_none (by omega), List.getElem?_eq_none (by rw [rotL_length]; omega)]
/-- one hand more -/
theorem rotL_more {α : Type} (x : α) (r : List α) (k : Nat) : rotL (r ++ [x]) (k % (x :: r).length) = rotL (x :: r) ((k + 1) % (x :: r).length) := by
  have hn : 0 < (x :: r).length := Nat.succ_pos _
  have l : (r ++ [x]).length = (x :: r).length := by rw [List.length_append]; rfl
  have m1 := Nat.mod_lt k hn
  have m2 := Nat.mod_lt (k + 1) hn
  refine rotL_ext (j := 0) (Nat.le_of_lt m2) _ (by rw [rotL_length, l]) fun i hi => ?_
  rw [rotL_get _ _ _ (by rw [l]; omega) (by rw [l]; exact hi), l]
  have e : ∀ j, j < (x :: r).length → (r ++ [x])[j]? = (x :: r)[(j + 1) % (x :: r).length]? := fun j hj => by
    have hj' : j < r.length + 1 := hj
    by_cases h : j < r.length
    · rw [List.getElem?_append_left h, Nat.mod_eq_of_lt (by show j + 1 < r.length + 1; omega), List.getElem?_cons_succ]
    · have ej : j = r.length := by omega
      subst ej
      rw [List.getElem?_append_right (Nat.le_refl _), Nat.sub_self]
      have z : (r.length + 1) % (x :: r).length = 0 := Nat.mod_self _
      rw [z]
      rfl
  rw [e _ (Nat.mod_lt _ hn)]
  congr 1
  rw [Nat.mod_add_mod, Nat.add_mod_mod]
  have a1 : i + k % (x :: r).length + 1 = (i + 1) + k % (x :: r).length := by omega
  rw [a1, Nat.add_mod_mod]
  congr 1
  omega
theorem told_mod {s n : Nat} (hs : 1 ≤ s) (hn : 0 < n) : (s % n + 2 * n - 1) % n = (s - 1) % n := by
  have h := Nat.div_add_mod s n
  by_cases e : s % n = 0
  · have e1 : s % n + 2 * n - 1 = n - 1 + n := by omega
    have hq : 0 < s / n := by
      rcases Nat.eq_zero_or_pos (s / n) with z | z
      · rw [z, Nat.mul_zero] at h
        omega
      · exact z
    have e2 : s - 1 = n - 1 + n * (s / n - 1) := by
      have e3 : n * (s / n) = n * (s / n - 1) + n := by
        have e4 : s / n = s / n - 1 + 1 := by omega
        generalize s / n - 1 = k at e4
        rw [e4, Nat.mul_succ]
      omega
    rw [e1, Nat.add_mod_right, e2, Nat.add_mul_mod_self_left]
  · have e1 : s % n + 2 * n - 1 = (s % n - 1) + n * 2 := by omega
    have e2 : s - 1 = (s % n - 1) + n * (s / n) := by omega
    rw [e1, Nat.add_mul_mod_self_left, e2, Nat.add_mul_mod_self_left]
end Jo
namespace Jo
theorem rot_range_map {n b : Nat} (hb : b < n) : rotL (List.range n) b = (List.range n).map fun p => (p + b) % n := by
  apply List.ext_getElem?
  intro i
  by_cases hi : i < n
  · rw [rotL_get _ _ _ (by rw [List.length_range]; omega) (by rw [List.length_range]; exact hi), List.length_range,
      List.getElem?_range (Nat.mod_lt _ (by omega)), List.getElem?_map, List.getElem?_range hi]
    rfl
  · rw [List.getElem?_eq_none (by rw [rotL_length, List.length_range]; omega), List.getElem?_eq_none (by rw [List.length_map, List.length_range]; omega)]
/-- a place told from the beginning b, and back -/
theorem turn_back {n b x : Nat} (hb : b < n) (hx : x < n) : ((b + x) % n + n - b) % n = x := by
  by_cases h : b + x < n
  · rw [Nat.mod_eq_of_lt h]
    have e : b + x + n - b = x + n := by omega
    rw [e, Nat.add_mod_right, Nat.mod_eq_of_lt hx]
  · have e : (b + x) % n = b + x - n := by rw [Nat.mod_eq_sub_mod (by omega), Nat.mod_eq_of_lt (by omega)]
    rw [e]
    have e2 : b + x - n + n - b = x := by omega
    rw [e2, Nat.mod_eq_of_lt hx]
theorem cnt_unique {n s b i c : Nat} (hs : 1 ≤ s) (hb : b < n) (hi : i < n) (c1 : 1 ≤ c) (c2 : c ≤ n)
    (h : pos s n (c * s) = ((b + pos s n ((i + 1) * s)) % n + n - b) % n) : c = i + 1 := by
  rw [turn_back hb (pos_lt _ _ _ (by omega))] at h
  have e : c = c - 1 + 1 := by omega
  rw [e] at h
  have := pos_inj hs (by omega) hi h
  omega
end Jo
namespace Jo
/-- many hands more at once, where no round ends -/
theorem pos_leap {s m N : Nat} (hs : 1 ≤ s) (hN : 1 ≤ N) : ∀ L : Nat, pos s m N + (s - 1) * L < m → pos s (m + L) (N + L * s) = pos s m N + s * L
  | 0, _ => by rw [Nat.zero_mul, Nat.mul_zero, Nat.add_zero, Nat.add_zero, Nat.add_zero]
  | L + 1, h => by
    have h1 : (s - 1) * (L + 1) = (s - 1) * L + (s - 1) := Nat.mul_succ _ _
    have h2 : s * (L + 1) = (s - 1) * (L + 1) + (L + 1) := by
      have e : s = s - 1 + 1 := by omega
      generalize s - 1 = k at e
      rw [e, Nat.succ_mul]
    have h3 : s * (L + 1) = s * L + s := Nat.mul_succ _ _
    have ih := pos_leap hs hN (m := m) L (by omega)
    have e1 : N + (L + 1) * s = N + L * s + s := by
      rw [Nat.succ_mul, Nat.add_assoc]
    have e2 : m + (L + 1) = m + L + 1 := rfl
    rw [e1, e2, pos_high (by omega), Nat.add_sub_cancel, ih, Nat.mod_eq_of_lt (by omega)]
    omega
/-- one hand more, or many where no round ends -/
theorem pos_leap1 {s m N L : Nat} (hs : 1 ≤ s) (hN : 1 ≤ N) (h : L = 1 ∨ pos s m N + (s - 1) * L < m) : pos s (m + L) (N + L * s) = (pos s m N + s * L) % (m + L) := by
  rcases h with rfl | h
  · rw [Nat.one_mul, Nat.mul_one, pos_high (by omega), Nat.add_sub_cancel]
  · rw [pos_leap hs hN L h, Nat.mod_eq_of_lt]
    have h2 : s * L = (s - 1) * L + L := by
      have e : s = s - 1 + 1 := by omega
      generalize s - 1 = k at e
      rw [e, Nat.succ_mul]
    omega
/-- a place turned by the beginning -/
theorem turn_fwd {n b p : Nat} (hb : b < n) (hp : p < n) : (b + (p + n - b) % n) % n = p := by
  rw [Nat.add_mod_mod]
  have e : b + (p + n - b) = p + n := by omega
  rw [e, Nat.add_mod_right, Nat.mod_eq_of_lt hp]
end Jo
namespace Jo
theorem turn_inv {n L b p : Nat} (hL : L < n) (hb : b < n) (hp : p < n) : (b + L) % n = p ↔ b = (p + n - L) % n := by
  constructor
  · intro h
    have e := turn_back hL hb
    rw [Nat.add_comm L b, h] at e
    exact e.symm
  · intro h
    have e := turn_fwd hL hp
    rw [← h, Nat.add_comm] at e
    exact e
end Jo
namespace Jo
/-- each place goes at some count -/
theorem pos_surj {s n x : Nat} (hs : 1 ≤ s) (hx : x < n) : ∃ c, 1 ≤ c ∧ c ≤ n ∧ pos s n (c * s) = x := by
  have hm : x ∈ out (s - 1) (List.range n) := (out_perm _ _).mem_iff.mpr (List.mem_range.mpr hx)
  obtain ⟨i, hi, e⟩ := List.mem_iff_getElem.mp hm
  have hl : i < n := by
    rw [out_length, List.length_range] at hi
    exact hi
  have e2 := out_range hs hl
  rw [List.getElem?_eq_getElem hi, e] at e2
  exact ⟨i + 1, by omega, by omega, (Option.some.inj e2).symm⟩
theorem pos_one {s n c d : Nat} (hs : 1 ≤ s) (c1 : 1 ≤ c) (c2 : c ≤ n) (d1 : 1 ≤ d) (d2 : d ≤ n) (h : pos s n (c * s) = pos s n (d * s)) : c = d := by
  have e1 : c = c - 1 + 1 := by omega
  have e2 : d = d - 1 + 1 := by omega
  rw [e1, e2] at h
  have := pos_inj hs (by omega) (by omega) h
  omega
end Jo
namespace Lz
open PySem PySem.Spec PyProof.Rows L2
/-! ### a def by its name: where it stands, how it binds, its promise -/
abbrev FnP (K : PySem.W.Frag) (x qual : Str) (st : Stmt) (dvs : List V) (f : Addr) (fd : FuncData) : Prop :=
  FunD K x qual (defArgs st) (defBody st) (defScope st) dvs [] f fd
abbrev CXr (P : Program) (w : World) : CXT := L2.CX P w
def FnAt (P : Program) (w : World) (K : PySem.W.Frag) (mg : Str → Option Value) (base : Heap) (C : CXT) (k : Nat)
    (x : Str) (ps : List Str) (dvs : List V) (sp : Sp) : Prop :=
  ∃ (f : Addr) (fd : FuncData) (ds : List Value), mg x = some (.ref f) ∧ PySem.W.keepIn K (.ref f) = true ∧
    Binds K fd ps ds ∧ Vals dvs ds ∧ FnOk P w K mg base C k f fd ps sp
/-- a method of the class at D -/
def FnMt (P : Program) (w : World) (K : PySem.W.Frag) (mg : Str → Option Value) (base : Heap) (C : CXT) (k : Nat)
    (D : Addr) (m : Str) (ps : List Str) (dvs : List V) (sp : Sp) : Prop :=
  ∃ (f : Addr) (fd : FuncData) (ds : List Value), Meth K D m f ∧ Binds K fd ps ds ∧ Vals dvs ds ∧
    FnOk P w K mg base C k f fd ps sp
/-- the maker of the class at D, by the module's name x -/
def FnMk (P : Program) (w : World) (K : PySem.W.Frag) (mg : Str → Option Value) (base : Heap) (C : CXT) (k : Nat)
    (x : Str) (D : Addr) (ps : List Str) (dvs : List V) (sp : Sp) : Prop :=
  ∃ (f : Addr) (fd : FuncData) (ds : List Value), Mk K D f ∧ mg x = some (.ref D) ∧ Binds K fd ps ds ∧ Vals dvs ds ∧
    FnOk P w K mg base C k f fd ps sp
section
variable {X : Cx} {C : CXT} {k : Nat} {x : Str} {ps : List Str} {dvs : List V} {sp : Sp} {E : XK} {p pos : Pos} {e o : Expr} {es : List Expr} {t : TA}
theorem pe_fn (G : FnAt X.prog X.w X.K X.mg X.base C k x ps dvs sp) (hr : Room k X.A) (hx : Passes C X E) (ha : PA X (e :: es) t)
    (hg : Gl X x := by rfl) (hdb : (x == ("__debug__" : Str)) = false := by decide)
    (he : starEach (e :: es) X.env = (false, eval e X.env) :: starEach es X.env := by rfl)
    (hpl : (backTo pos (starEach es X.env)).any (·.1) = false := by rfl) :
    PE X (.Call (.Name x p) (e :: es) [] pos) (tCall sp dvs E t) := by
  obtain ⟨f, fd, ds, h1, h2, h3, h4, h5⟩ := G
  exact pe_call h5 hr hg h1 h2 h3 h4 hx ha hdb he hpl
/-- a whole number of the module -/
theorem pe_gint {i : Int} (h : ∃ t, X.mg x = some (.int i t)) (hg : Gl X x := by rfl) (hdb : (x == ("__debug__" : Str)) = false := by decide) :
    PE X (.Name x pos) (tC (.int i)) := by
  obtain ⟨t, h⟩ := h
  exact pe_glob hg h ⟨t, rfl⟩ hdb
end
/-! ### heaps: all but some places is kept -/
def Kp (ws : List Addr) (H H' : Hp) : Prop := ∀ a o, H a = some o → a ∉ ws → H' a = some o
section
variable {ws vs : List Addr} {H H1 H2 : Hp} {a p : Addr} {o u : HO}
theorem Kp.refl (H : Hp) : Kp ws H H := fun _ _ h _ => h
theorem Kp.trans (x : Kp ws H H1) (y : Kp ws H1 H2) : Kp ws H H2 := fun a o h n => y a o (x a o h n) n
theorem Kp.mono (x : Kp ws H H1) (h : ∀ a, a ∈ ws → a ∈ vs) : Kp vs H H1 := fun a o e n => x a o e fun q => n (h a q)
theorem Kp.new (h : H p = none) : Kp ws H (upd H p o) := fun a u e _ => by
  rw [upd_ne (ne_of_none e h)]
  exact e
theorem Kp.put (h : p ∈ ws) : Kp ws H (upd H p o) := fun a u e n => by
  have q : a ≠ p := fun q => n (by rw [q]; exact h)
  rw [upd_ne q]
  exact e
/-- new since H -/
theorem Kp.late (x : Kp ws H H1) (h : H p = none) : Kp ws H (upd H1 p o) := fun a u e n => by
  rw [upd_ne (ne_of_none e h)]
  exact x a u e n
theorem Kp.same (x : Kp [] H H1) : Same H H1 := fun a o h => x a o h (List.not_mem_nil)
theorem Kp.of (x : Same H H1) : Kp ws H H1 := fun a o h _ => x a o h
theorem Kp.one (x : Kp [p] H H1) (h : H a = some o) (n : a ≠ p) : H1 a = some o := x a o h fun q => n (List.mem_singleton.mp q)
theorem Kp.lst {K : PySem.W.Frag} {xs : List V} (x : Kp ws H H1) (h : SqL K H a xs) (n : a ∉ ws) : SqL K H1 a xs := by
  rcases h with (h | ⟨o, h⟩) | h
  · exact .inl (.inl (x _ _ h n))
  · exact .inl (.inr ⟨o, x _ _ h n⟩)
  · exact .inr h
/-- where H knows and nothing was written, what is free behind was free before -/
theorem Kp.free (x : Kp ws H H1) (h : H1 p = none) (n : p ∉ ws) : H p = none := by
  cases q : H p with
  | none => rfl
  | some o =>
    have e := x p o q n
    rw [h] at e
    cases e
end
theorem sz (n : Nat) (h : n ≤ 1000000) : n ≤ sizeLine := Nat.le_trans h (by decide)
theorem szl (n : Nat) (h : n ≤ 1000000) : n < sizeLine := Nat.lt_of_le_of_lt h (by decide)
/-! ### exceptions of the program -/
structure ExcT (K : PySem.W.Frag) (C : Addr) : Prop where
  q : PySem.W.excIn K C He.veBase "ValueError.__new__" = true
  k : PySem.W.keepIn K (.ref C) = true
  s : PySem.W.subIn K (.ref C) (.type "BaseException") = some true
  t : PySem.W.typeIn K (.ref C) = some (.type "type")
theorem pmk_t {X : Cx} {C : Addr} {x m : Str} {j : Nat} {p p2 pos : Pos} (T : ExcT X.K C) (g : X.mg x = some (.ref C)) (hg : Gl X x := by rfl)
    (hdb : (x == ("__debug__" : Str)) = false := by decide) :
    PMk X (.Call (.Name x p) [.Constant (.str m) j p2] [] pos) (fun _ H Q => Q (.ref C) none H) :=
  pmk_own PySem.F.excBase_ValueError T.q g T.k (raises_own T.s T.t) hg hdb
/-! ### kinds of values -/
/-- not a whole number (True and False are none) -/
def NotNum (K : PySem.W.Frag) (H : Hp) (x : V) : Prop :=
  ∃ t : String, TyX K H x (.type t) ∧ t ∈ ["NoneType", "bool", "str", "list", "tuple", "dict"]
theorem NotNum.non {K : PySem.W.Frag} {H : Hp} : NotNum K H .non := ⟨_, .base .non, by simp⟩
theorem NotNum.bl {K : PySem.W.Frag} {H : Hp} {b : Bool} : NotNum K H (.bl b) := ⟨_, .base (.bl b), by simp⟩
theorem NotNum.str {K : PySem.W.Frag} {H : Hp} {z : Str} : NotNum K H (.str z) := ⟨_, .base (.str z), by simp⟩
theorem NotNum.lst {K : PySem.W.Frag} {H : Hp} {a : Addr} {xs : List V} (h : H a = some (.lst xs)) : NotNum K H (.ref a) := ⟨_, .base (.lst h), by simp⟩
theorem NotNum.tup {K : PySem.W.Frag} {H : Hp} {a : Addr} {xs : List V} (h : H a = some (.tup xs)) : NotNum K H (.ref a) := ⟨_, .base (.tup h), by simp⟩
/-- no whole number from lo to hi -/
def OutN (K : PySem.W.Frag) (H : Hp) (lo hi : Int) (x : V) : Prop := NotNum K H x ∨ ∃ i : Int, x = .int i ∧ ¬ (lo ≤ i ∧ i ≤ hi)
/-! ### lists of whole numbers and texts, compared -/
def PD : V → PyData
  | .int i => .int i
  | .str z => .str z
  | .bl b => .bool b
  | _ => .none
def isS : V → Bool
  | .int _ => true
  | .str z => PyData.strOk z
  | _ => false
theorem PD_dp {K : PySem.W.Frag} {H : Hp} {v : V} (h : isS v = true) : Dp K H v (PD v) := by
  cases v with
  | int i => exact .int i
  | str z => exact .str z
  | _ => cases h
theorem PD_all {K : PySem.W.Frag} {H : Hp} : ∀ {xs : List V}, xs.all isS = true → DpAll K H xs (xs.map PD)
  | [], _ => .nil
  | x :: xs, h => by
    rw [List.all_cons, Bool.and_eq_true] at h
    exact .cons (PD_dp h.1) (PD_all h.2)
theorem PD_lay : ∀ {xs : List V}, xs.all isS = true → PyData.canLayAll0 (xs.map PD) = true ∧ PyData.depthAll (xs.map PD) = 0
  | [], _ => ⟨by simp [PyData.canLayAll0], by simp [PyData.depthAll]⟩
  | x :: xs, h => by
    rw [List.all_cons, Bool.and_eq_true] at h
    obtain ⟨h1, h2⟩ := PD_lay h.2
    have h3 : PyData.canLay0 (PD x) = true ∧ PyData.depth (PD x) = 0 := by
      cases x with
      | int i => simp [PD, PyData.canLay0, PyData.depth]
      | str z =>
        have hz : PyData.strOk z = true := h.1
        simp [PD, PyData.canLay0, PyData.depth, hz]
      | _ => cases h.1
    exact ⟨by rw [List.map_cons, PyData.canLayAll0, h3.1, h1]; rfl, by rw [List.map_cons, PyData.depthAll, h3.2, h2]; rfl⟩
theorem PD_shaped {xs : List V} (h : xs.all isS = true) : SeqAt.shaped (.list (xs.map PD)) = true := by
  obtain ⟨h1, h2⟩ := PD_lay h
  unfold SeqAt.shaped
  rw [Bool.and_eq_true]
  exact ⟨by rw [PyData.canLay0]; exact h1, by rw [PyData.depth, h2]; rfl⟩
theorem PD_eqv1 {x y : V} (hx : isS x = true) (hy : isS y = true) : PyData.eqv (PD x) (PD y) = decide (x = y) := by
  cases x with
  | int i =>
    cases y with
    | int j =>
      show PyData.eqv (.int i) (.int j) = _
      rw [PyData.eqv]
      by_cases e : i = j
      · subst e
        simp
      · have e2 : ¬ (V.int i = V.int j) := fun q => e (V.int.inj q)
        rw [decide_eq_false e2]
        exact beq_eq_false_iff_ne.mpr e
    | str z =>
      show PyData.eqv (.int i) (.str z) = _
      rw [PyData.eqv]
      exact (decide_eq_false (fun q => nomatch q)).symm
    | _ => cases hy
  | str z =>
    cases y with
    | int j =>
      show PyData.eqv (.str z) (.int j) = _
      rw [PyData.eqv]
      exact (decide_eq_false (fun q => nomatch q)).symm
    | str u =>
      show PyData.eqv (.str z) (.str u) = _
      rw [PyData.eqv]
      by_cases e : z = u
      · subst e
        simp
      · have e2 : ¬ (V.str z = V.str u) := fun q => e (V.str.inj q)
        rw [decide_eq_false e2]
        exact beq_eq_false_iff_ne.mpr e
    | _ => cases hy
  | _ => cases hx
theorem PD_eqv : ∀ {xs ys : List V}, xs.all isS = true → ys.all isS = true → PyData.eqvAll (xs.map PD) (ys.map PD) = decide (xs = ys)
  | [], [], _, _ => by simp [PyData.eqvAll]
  | [], y :: ys, _, _ => by simp [PyData.eqvAll]
  | x :: xs, [], _, _ => by simp [PyData.eqvAll]
  | x :: xs, y :: ys, hx, hy => by
    rw [List.all_cons, Bool.and_eq_true] at hx hy
    rw [List.map_cons, List.map_cons, PyData.eqvAll, PD_eqv1 hx.1 hy.1, PD_eqv hx.2 hy.2, ← Bool.decide_and]
    exact decide_eq_decide.mpr (by rw [List.cons.injEq])
section
variable {K : PySem.W.Frag} {H : Hp} {p q : Addr} {xs ys : List V} {Q : VK}
theorem eqD_l (hp : SqL K H p xs) (hq : SqL K H q ys) (fx : xs.all isS = true) (fy : ys.all isS = true) (k : Q (.bl (decide (xs = ys))) H) : rEqD K (.ref p) (.ref q) H Q :=
  ⟨_, _, .lst hp (PD_all fx), .lst hq (PD_all fy), PD_shaped fx, PD_shaped fy, by
    have e : PyData.eqv (.list (xs.map PD)) (.list (ys.map PD)) = decide (xs = ys) := by rw [PyData.eqv, PD_eqv fx fy]
    rw [e]
    exact k⟩
theorem neD_l (hp : SqL K H p xs) (hq : SqL K H q ys) (fx : xs.all isS = true) (fy : ys.all isS = true) (k : Q (.bl (!decide (xs = ys))) H) : rNeD K (.ref p) (.ref q) H Q :=
  ⟨_, _, .lst hp (PD_all fx), .lst hq (PD_all fy), PD_shaped fx, PD_shaped fy, by
    have e : PyData.eqv (.list (xs.map PD)) (.list (ys.map PD)) = decide (xs = ys) := by rw [PyData.eqv, PD_eqv fx fy]
    rw [e]
    exact k⟩
end
theorem isS_ints {α : Type} (f : α → Int) (xs : List α) : (xs.map fun x => V.int (f x)).all isS = true := by
  rw [List.all_map, List.all_eq_true]
  intro x _
  rfl
/-! ### slices from and to a place -/
theorem cut_from (xs : List V) (k : Nat) : cutV xs (some (k : Int)) none = xs.drop k := by
  unfold cutV
  rw [HT.sIx_nat, HT.sIx_none]
  by_cases h : k ≤ xs.length
  · rw [Nat.min_eq_left h, List.take_of_length_le (by rw [List.length_drop]; exact Nat.le_refl _)]
  · rw [Nat.min_eq_right (by omega), List.drop_of_length_le (Nat.le_refl _), List.drop_of_length_le (by omega), List.take_nil]
theorem cut_to (xs : List V) (k : Nat) : cutV xs none (some (k : Int)) = xs.take k := by
  unfold cutV
  rw [HT.sIx_nat, HT.sIx_none, List.drop_zero, Nat.sub_zero]
  by_cases h : k ≤ xs.length
  · rw [Nat.min_eq_left h]
  · rw [Nat.min_eq_right (by omega), List.take_of_length_le (Nat.le_refl _), List.take_of_length_le (by omega)]
/-! ### for i, x in enumerate(xs) -/
theorem for_enum {K : PySem.W.Frag} {a : Addr} {xs : List V} {g : TG} {tb : TS} {D : Ends} {σ : L2.St} {H : Hp} (M : Nat → L2.St → Hp → Prop) (h0 : M 0 σ H)
    (hl : ∀ i σ H, i ≤ xs.length → M i σ H → SqL K H a xs)
    (hs : ∀ i x σ H T, xs[i]? = some x → M i σ H → H T = none → g (.ref T) σ (upd H T (.tup [.int (i : Nat), x])) fun σ2 H2 => tb { D with nx := M (i + 1), ct := M (i + 1), bk := D.nx } σ2 H2)
    (hd : ∀ σ H, M xs.length σ H → D.nx σ H) :
    ∃ W : Nat → Nat → L2.St → Hp → Prop, (∃ m, W 0 m σ H) ∧ ∀ i m σ H, W i m σ H →
      ((Ite K a).stop i H ∧ D.nx σ H) ∨ ((Ite K a).go i H ∧ ∃ N : L2.St → Hp → Prop, (∀ σ' H', N σ' H' → ∃ m', m' < m ∧ W (i + 1) m' σ' H') ∧
        ∀ x H', (Ite K a).yld i H x H' → g x σ H' fun σ2 H2 => tb { D with nx := N, ct := N, bk := D.nx } σ2 H2) := by
  refine ⟨fun i m σ H => m = xs.length - i ∧ i ≤ xs.length ∧ M i σ H, ⟨xs.length, by simp, Nat.zero_le _, h0⟩, ?_⟩
  rintro i m σ H ⟨rfl, hi, p⟩
  have q := hl i σ H hi p
  by_cases hlt : i < xs.length
  · refine .inr ⟨⟨xs, xs[i], q, by simp [hlt]⟩, M (i + 1), fun σ' H' p' => ⟨xs.length - (i + 1), by omega, rfl, hlt, p'⟩, fun v H' y => ?_⟩
    obtain ⟨T, x, rfl, hT, rfl, e⟩ := y
    exact hs i x σ H T (e xs q) p hT
  · have e : i = xs.length := by omega
    subst e
    exact .inl ⟨⟨xs, q, Nat.le_refl _⟩, hd σ H p⟩
/-! ### the law's draws: a list of one number -/
def StOk (s : Int) : Prop := 0 ≤ s ∧ s < 4294967296
def StAt (H : Hp) (st : Addr) : Prop := ∃ s, StOk s ∧ H st = some (.lst [.int s])
/-- some draws were made: the state's number changed, what is new may stand beside -/
def Drew (st : Addr) (H H' : Hp) : Prop := Kp [st] H H' ∧ StAt H' st
section
variable {st a p : Addr} {H H1 H2 : Hp} {o : HO}
theorem Drew.trans (x : Drew st H H1) (y : Drew st H1 H2) : Drew st H H2 := ⟨x.1.trans y.1, y.2⟩
theorem Drew.at (x : Drew st H H1) (h : H a = some o) (n : a ≠ st) : H1 a = some o := x.1.one h n
theorem Drew.lst {K : PySem.W.Frag} {xs : List V} (x : Drew st H H1) (h : SqL K H a xs) (n : a ≠ st) : SqL K H1 a xs := x.1.lst h fun q => n (List.mem_singleton.mp q)
theorem Drew.free (x : Drew st H H1) (h : H1 p = none) : H p = none := x.1.free h fun q => by
  obtain ⟨s, _, e⟩ := x.2
  rw [List.mem_singleton.mp q, e] at h
  cases h
theorem Drew.new (x : Drew st H H1) (h : H1 p = none) : Drew st H (upd H1 p o) := by
  obtain ⟨s, h1, e⟩ := id x.2
  exact ⟨x.1.trans (Kp.new h), s, h1, by rw [upd_ne (ne_of_none e h)]; exact e⟩
theorem StAt.new (x : StAt H st) (h : H p = none) : StAt (upd H p o) st := by
  obtain ⟨s, h1, e⟩ := x
  exact ⟨s, h1, by rw [upd_ne (ne_of_none e h)]; exact e⟩
theorem Drew.refl (x : StAt H st) : Drew st H H := ⟨Kp.refl H, x⟩
theorem StAt.ne {xs : List V} (x : StAt H st) (h : H a = some (.lst xs)) (n : 2 ≤ xs.length) : a ≠ st := fun q => by
  obtain ⟨s, _, e⟩ := x
  rw [q, e] at h
  injection h with h
  injection h with h
  rw [← h] at n
  exact absurd n (by simp)
end
/-! ### small facts -/
theorem emod_nat {s : Int} (n : Nat) (h : 0 ≤ s) : s % (n : Int) = ((s.toNat % n : Nat) : Int) := by
  obtain ⟨k, rfl⟩ := Int.eq_ofNat_of_zero_le h
  rfl
theorem seq0 {α : Type} (x : α) (c : List α) : seqIndex? 0 (x :: c).length = some 0 := by
  have h : (0 : Int) < ((c.length + 1 : Nat) : Int) := by omega
  simp [seqIndex?, h]
theorem StAt.fresh {H : Hp} {st p : Addr} (x : StAt H st) (h : H p = none) : p ≠ st := fun q => by
  obtain ⟨s, _, e⟩ := x
  rw [q, e] at h
  cases h
theorem StAt.keep {H H1 : Hp} {st : Addr} {ws : List Addr} (k : Kp ws H H1) (x : StAt H st) (n : st ∉ ws) : StAt H1 st := by
  obtain ⟨s, h1, e⟩ := x
  exact ⟨s, h1, k _ _ e n⟩
theorem StAt.same {H H1 : Hp} {st : Addr} (x : StAt H st) (k : Kp [] H H1) : StAt H1 st := x.keep k List.not_mem_nil
theorem Drew.kp {H H1 : Hp} {st : Addr} (k : Kp [] H H1) (x : StAt H st) : Drew st H H1 := ⟨k.mono fun _ h => absurd h List.not_mem_nil, x.same k⟩
theorem rotL_all {α : Type} {f : α → Bool} {xs : List α} (k : Nat) (h : xs.all f = true) : (Jo.rotL xs k).all f = true := by
  rw [List.all_eq_true] at h ⊢
  intro x hx
  exact h x ((Jo.rotL_perm xs k).mem_iff.mp hx)
theorem out_all {α : Type} {f : α → Bool} {xs : List α} (t : Nat) (h : xs.all f = true) : (Jo.out t xs).all f = true := by
  rw [List.all_eq_true] at h ⊢
  intro x hx
  exact h x ((Jo.out_perm t xs).mem_iff.mp hx)
theorem rgV_all (n : Nat) : (rgV 0 n).all isS = true := by
  unfold rgV
  rw [List.all_map, List.all_eq_true]
  intro x _
  rfl
theorem rgV_len (n : Nat) : (rgV 0 n).length = n := by
  rw [rgV_length]
  omega
/-- the places in the order in which they go -/
abbrev ordV (s n b : Nat) : List V := Jo.out (s - 1) (Jo.rotL (rgV 0 n) b)
theorem ordV_len (s n b : Nat) : (ordV s n b).length = n := by rw [Jo.out_length, Jo.rotL_length, rgV_len]
theorem ordV_all (s n b : Nat) : (ordV s n b).all isS = true := out_all _ (rotL_all _ (rgV_all n))
theorem ordV_get {s n b i : Nat} (hs : 1 ≤ s) (hb : b < n) (hi : i < n) : (ordV s n b)[i]? = some (.int (((b + Jo.pos s n ((i + 1) * s)) % n : Nat) : Int)) := by
  have e : rgV 0 n = (List.range n).map fun i => V.int ((i : Nat) : Int) := by
    unfold rgV
    have e1 : ((n : Int) - 0).toNat = n := by omega
    rw [e1]
    refine List.map_congr_left fun x _ => ?_
    rw [Int.zero_add]
  unfold ordV
  rw [e, Jo.rotL_map, Jo.rot_range_map hb, List.map_map, Jo.out_map, List.getElem?_map, Jo.out_range hs hi]
  show some (V.int (((Jo.pos s n ((i + 1) * s) + b) % n : Nat) : Int)) = _
  rw [Nat.add_comm]
theorem rotL_id {α : Type} (xs : List α) : Jo.rotL xs 0 = xs := Jo.rotL_zero xs
theorem at_last {α : Type} {xs : List α} {n : Nat} {v : α} (hl : xs.length = n) (hn : 0 < n) (h : xs[n - 1]? = some v) : atI xs (-1) = some v := by
  have e : ixN xs.length (-1) = some (n - 1) := by
    unfold ixN
    rw [hl, if_neg (by decide), if_pos (by omega)]
    congr 1
    omega
  unfold atI
  rw [e]
  exact h
section
variable {K : PySem.W.Frag} {H : Hp} {p q : Addr} {xs : List V} {x : V} {Q : VK}
theorem ne_same (h : scal x x = true) (k : Q (.bl false) H) : rNe x x H Q := ⟨h, by rw [decide_eq_true rfl]; exact k⟩
theorem eq_same (h : scal x x = true) (k : Q (.bl true) H) : rEq x x H Q := ⟨h, by rw [decide_eq_true rfl]; exact k⟩
theorem neD_same (hp : SqL K H p xs) (hq : SqL K H q xs) (fx : xs.all isS = true) (k : Q (.bl false) H) : rNeD K (.ref p) (.ref q) H Q :=
  neD_l hp hq fx fx (by rw [decide_eq_true rfl]; exact k)
theorem eqD_same (hp : SqL K H p xs) (hq : SqL K H q xs) (fx : xs.all isS = true) (k : Q (.bl true) H) : rEqD K (.ref p) (.ref q) H Q :=
  eqD_l hp hq fx fx (by rw [decide_eq_true rfl]; exact k)
end
theorem exct {K : PySem.W.Frag} {x : Str} (h : (He.Fa.exc x).ok K = true) : ExcT K (He.ga K x) := by
  obtain ⟨h1, h2, h3, h4⟩ := He.exc_ok h
  exact ⟨h1, h2, h3, h4⟩
/-- a def with defaults, called with all its arguments -/
theorem bindsFull {K : PySem.W.Frag} {x qual : Str} {params : Arguments} {body : List Stmt} {scope : Scope} {dvs : List V} {f : Addr} {fd : FuncData} {ps : List Str}
    (F : FunD K x qual params body scope dvs [] f fd) (hd : dvs ≠ [])
    (h : ∀ (T : Addr) (kV doc pm : Value) (an : Option Addr) (cdv ct : Value) (us : List Value), us.length = ps.length →
      bindArgs (PySem.W.fnOf x qual params body scope (.ref T) kV doc pm an cdv ct) ⟨us, []⟩ = pure (ps.zip us)) : Binds K fd ps [] := by
  obtain ⟨oc, od, dV, kV, doc, pm, an, cdv, ct, osl, rfl, lk, hcd, hD, hK⟩ := F.ex
  rcases hD with ⟨e, _⟩ | ⟨_, T, o, its, m, rfl, lT, oT, rT⟩
  · exact absurd e hd
  · exact .all (h T kV doc pm an cdv ct)
/-- what is written was not known at the start -/
theorem Kp.lst0 {K : PySem.W.Frag} {ws : List Addr} {H H1 : Hp} {a : Addr} {xs : List V} (x : Kp ws H H1) (h : SqL K H a xs) (n : ∀ w ∈ ws, H w = none) : SqL K H1 a xs := by
  rcases h with (h | ⟨o, h⟩) | h
  · exact .inl (.inl (x _ _ h fun q => by rw [n _ q] at h; cases h))
  · exact .inl (.inr ⟨o, x _ _ h fun q => by rw [n _ q] at h; cases h⟩)
  · exact .inr h
theorem Drew.lst0 {K : PySem.W.Frag} {H H1 : Hp} {a st : Addr} {xs : List V} (d : Drew st H H1) (h : SqL K H a xs) (n : H st = none) : SqL K H1 a xs :=
  d.1.lst0 h fun w q => by rw [List.mem_singleton.mp q]; exact n
theorem pow60 : (10 : Int) ^ (60 : Int).toNat = 10 ^ 60 := rfl
theorem sub_mod {n p L : Nat} (hL : L < n) (hp : p < n) : ((p : Int) - (L : Int)) % (n : Int) = (((p + n - L) % n : Nat) : Int) := by
  have e1 : ((p : Int) - (L : Int)) % (n : Int) = ((p : Int) - (L : Int) + (n : Int)) % (n : Int) := by rw [Int.add_emod_right]
  have e2 : (p : Int) - (L : Int) + (n : Int) = ((p + n - L : Nat) : Int) := by omega
  rw [e1, e2]
  rfl
/-! ### rules that name the written part K (within a comprehension's block) -/
section
variable {X : Cx} {K : PySem.W.Frag}
theorem ix_lK (e : X.K = K := by rfl) : IxR X (rIxL K) := by
  subst e
  exact ix_list
theorem lenK (e : X.K = K := by rfl) : CallR X (.builtin "len") (fun xs H Q => ∃ p ys, xs = [.ref p] ∧ (SqL K H p ys ∨ SqT K H p ys) ∧ Q (.int ys.length) H) := by
  subst e
  exact call_len_seq
theorem isiK (e : X.K = K := by rfl) : CallR X (.builtin "isinstance") (rIsi K) := by
  subst e
  exact call_isi
end
/-- the value that is stored, in another form -/
theorem set_eq {i : Nat} {x y : V} {σ : L2.St} {H : Hp} {Q : L2.St → Hp → Prop} (e : x = y) (h : gName i y σ H Q) : gName i x σ H Q := by
  rw [e]
  exact h
theorem tyes {σ : L2.St} {H : Hp} {Q : Bool → Hp → Prop} (h : Q true H) : tYes σ H Q := h
section
variable {H : Hp} {x y : V} {Q : VK}
theorem ne_no (e : x = y) (h : scal x x = true) (k : Q (.bl false) H) : rNe x y H Q := by
  subst e
  exact ne_same h k
theorem ne_yes (e : ¬ x = y) (h : scal x y = true) (k : Q (.bl true) H) : rNe x y H Q := ⟨h, by rw [decide_eq_false e]; exact k⟩
theorem eq_yes (e : x = y) (h : scal x x = true) (k : Q (.bl true) H) : rEq x y H Q := by
  subst e
  exact eq_same h k
theorem eq_no (e : ¬ x = y) (h : scal x y = true) (k : Q (.bl false) H) : rEq x y H Q := ⟨h, by rw [decide_eq_false e]; exact k⟩
end
theorem vint {a b : Int} (e : a = b) : V.int a = V.int b := congrArg V.int e
theorem vint_ne {a b : Int} (e : ¬ a = b) : ¬ V.int a = V.int b := fun q => e (V.int.inj q)
theorem vnat {a b : Nat} (e : a = b) : V.int (a : Int) = V.int (b : Int) := congrArg (fun q : Nat => V.int (q : Int)) e
theorem vnat_ne {a b : Nat} (e : ¬ a = b) : ¬ V.int (a : Int) = V.int (b : Int) := fun q => e (by have := V.int.inj q; omega)
end Lz
namespace Lz
open PySem PySem.Spec PyProof.Rows L2
/-! ### an exception that is kept behind its clause -/
/-- at a: an exception of the class cls, without a dict of its own -/
def ExA (cls : Value) (a : Addr) : HO := .ext fun h => ∃ (o : Obj) (vs : Array Value), h.get? a = some o ∧ Zc cls none o ∧ o.data = .fields vs
theorem exA_ok {P : Program} {w : World} {H : Hp} {h : Heap} {a : Addr} {cls : Value} {o : Obj} {vs : Array Value} (e : h.get? a = some o) (z : Zc cls none o) (d : o.data = .fields vs) :
    ObjOk P w H h a (ExA cls a) := ⟨⟨o, vs, e, z, d⟩, ⟨o, e⟩, fun _ _ ⟨u, v, q, r⟩ k => ⟨u, v, k u q, r⟩⟩
/-- an object that stands, made since the entry and not tracked, is tracked from now on -/
theorem track {X : Cx} {pins : List (Addr × Obj)} {σ : L2.St} {H : Hp} {s : Shared} {a : Addr} {o : Obj} {vs : Array Value} {u : HO} (I : Inv X pins σ H s) (ha : s.heap.get? a = some o) (hd : o.data = .fields vs)
    (na : H a = none) (n0 : X.s_0.heap.get? a = none) (nL : a ≠ X.env.locals) (np : ∀ p ∈ X.pn ++ pins, p.1 ≠ a) (new : ObjOk X.prog X.w (upd H a u) s.heap a u) : Inv X pins σ (upd H a u) s := by
  have ne0 : ∀ b q, X.s_0.heap.get? b = some q → b ≠ a := fun b q e z => by
    rw [z, n0] at e
    cases e
  have neH : ∀ b q, H b = some q → b ≠ a := fun b q e z => by
    rw [z, na] at e
    cases e
  have B := I.base
  refine ⟨I.ok, I.os, I.bare, ⟨B.keep, B.slot, fun b q e n x => ?_, B.there, fun b xs e => ?_, fun b q v e => ?_, fun b ps e => ?_⟩, I.loc, I.cell, ?_, fun x c e => ?_, fun p hp => ?_, fun b q e => ?_, I.len⟩
  · rw [upd_ne (ne0 b q e)]
    exact B.free b q e n x
  · have z := B.tups b xs e
    rw [upd_ne (neH _ _ z)]
    exact z
  · have z := B.frzs b q v e
    rw [upd_ne (neH _ _ z)]
    exact z
  · obtain ⟨m, z⟩ := B.tbls b ps e
    exact ⟨m, by rw [upd_ne (neH _ _ z)]; exact z⟩
  · rw [upd_ne fun z => nL z.symm]
    exact I.free
  · have z : c ≠ a := fun z => by
      obtain ⟨v, oc, hc, hv⟩ := I.cell x c e
      rw [z, ha] at hc
      cases hc
      rw [hd] at hv
      cases hv
    rw [upd_ne z]
    exact I.freeC x c e
  · obtain ⟨q1, q2, q3⟩ := I.pin p hp
    exact ⟨q1, by rw [upd_ne (np p hp)]; exact q2, q3⟩
  · by_cases hb : b = a
    · rw [hb, upd_same] at e
      cases e
      rw [hb]
      exact new
    · rw [upd_ne hb] at e
      refine (I.hok b q e).stay (fun _ _ _ r => r) (fun c r => ?_) fun c xs r => ?_
      · rw [upd_ne (neH _ _ r)]
        exact r
      · rw [upd_ne (neH _ _ r)]
        exact r
/-- what a clause 'except x as n: .. n kept by another name ..' wishes of an exception of the body: all of them are x's; slot i is n's -/
def wKeep (K : PySem.W.Frag) (c : Value) (i : Nat) (ts : Addr → Value → TS) (D : Ends) : WX := fun cls d σ H =>
  PySem.W.exmOne K cls c = some true ∧ d = none ∧ ∀ a, H a = none →
    ts a cls { nx := fun σ' H' => H' a = none → D.nx (σ'.set i none) (upd H' a (ExA cls a)), rt := fun _ _ => False, bk := fun _ _ => False, ct := fun _ _ => False } (σ.set i (some (.ref a))) H
section
variable {X : Cx} {x n : Str} {c : Value} {i : Nat} {body suite : List Stmt} {b0 : Stmt} {np pos pos' : Pos} {tb : WX → TS} {ts : Addr → Value → TS}
theorem ps_try_keep (hs : X.stack = X.env :: X.outer) (hf : X.env.frame = some X.env.locals) (hex : X.ex = []) (hN : X.N.Nodup) (hi : X.N[i]? = some n) (hln : X.env.kindOf n = some .local) (hc : Names X x c)
    (hb : ∀ (W : WX) (pn : List (Addr × Obj)) (xe : Value → Shared → Prop), Takes (X.tr pn xe) W → PSs (X.tr pn xe) body (tb W))
    (hsu : ∀ (a : Addr) (oe : Obj) (cls : Value) (d : Option Addr) (pn : List (Addr × Obj)), PSs (X.suite a ((a, oe) :: pn)) (b0 :: suite) (ts a cls)) :
    PS X (.Try body [.ExceptHandler (some (.Name x np)) (some n) (b0 :: suite) pos'] [] [] pos) (fun D σ H => tb (wKeep X.K c i ts D) D σ H) := by
  refine ⟨fun pins s σ H D I0 h => ?_⟩
  have OK := I0.ok
  have frames : X.A.frames = some (X.env :: X.outer) := OK.frames.trans (congrArg some hs)
  refine wpAny_Try_except (wpAny_mono ((hb (wKeep X.K c i ts D) (X.pn ++ pins) (fun e z1 => wpAny (model X.prog X.w) X.A (noteFrame e X.env) (fun _ z2 => wpAny (model X.prog X.w) X.A (setFlight e none)
    (fun _ z3 => wpAny (model X.prog X.w) X.A (handleBy e X.env [.ExceptHandler (some (.Name x np)) (some n) (b0 :: suite) pos']) (SP X pins D) X.xe z3) X.xe z2) X.xe z1) (fun u s' air => ?_)).run [] s σ H D (I0.toTry _) h)
    (fun fl s1 done => ?_) (fun e s1 he => he))
  · obtain ⟨a, B, sI, _, τ, G, cls, d, rfl, J0, ground, ups, sky0, na, eos, gens, hm, rfl, keep⟩ := air
    have J : Inv X pins τ G sI := J0.ofTry OK
    rw [show (X.tr (X.pn ++ pins) _).stack = X.env :: X.outer from hs] at sky0
    show wpAny (model X.prog X.w) X.A (noteFrame (.ref a) X.env) _ _ _
    refine Sky.land Zc.steady frames hf sky0 fun h3 F3 U3 => ?_
    have J3 := J.landed (s' := { s' with heap := h3 }) ground F3.1 (ups.trans U3) eos gens
    obtain ⟨o3, v3, g3, z3, d3⟩ := F3.there
    have noFrame : a ∉ frs (X.env :: X.outer) := fun q => by
      obtain ⟨_, oq, eq, hq⟩ := F3.2.2.1.mem q
      rw [g3] at eq
      cases eq
      exact hq _ d3
    have aL : a ≠ X.env.locals := fun z => noFrame (List.mem_filterMap.mpr ⟨X.env, List.mem_cons_self, hf.trans (congrArg some z.symm)⟩)
    have aF : a ∉ X.fs := fun q => by
      obtain ⟨en, hen, qen⟩ := List.mem_filterMap.mp q
      exact noFrame (List.mem_filterMap.mpr ⟨en, List.mem_cons_of_mem _ hen, qen⟩)
    have notIn : ∀ b q, sI.heap.get? b = some q → b ∉ frs X.stack → b ≠ a := fun b q e1 e2 e3 => by
      have e4 := ground b q e1 e2
      rw [e3, F3.2.1] at e4
      cases e4
    have a0 : X.s_0.heap.get? a = none := by
      cases q : X.s_0.heap.get? a with
      | none => rfl
      | some oq =>
        obtain ⟨o', e'⟩ := J.base.there a oq q (by rw [hex]; exact List.not_mem_nil)
        exact absurd rfl (notIn a o' e' (by rw [hs]; exact noFrame))
    have aP : ∀ p ∈ X.pn ++ pins, p.1 ≠ a := fun p hp => by
      obtain ⟨q1, q2, q3, q4, _⟩ := J.pin p hp
      refine notIn p.1 p.2 q1 fun q => ?_
      rcases List.mem_cons.mp (J.stkSub p.1 q) with z | z
      · exact q3 z
      · exact q4 z
    have SU := J3.suite g3 d3 na aL aF
    refine wpAny_handleBy_cons (codeAny_handlers_test ?_) (by intro q; cases q)
    have LT : PySem.W.Looks (model X.prog X.w) h3 (typeOf (.ref a)) cls := fun A Q E z k q => wpAny_typeOf_ref (k _ _ g3) (by rw [z3.1]; exact q)
    have LM := PySem.W.exm_one (M := model X.prog X.w) J3.kIn LT hm
    have asks : ∀ {Q : Value → Shared → Prop} {E : Value → Shared → Prop}, Q c { s' with heap := h3 } → wpAny (model X.prog X.w) (X.A.mark (some (.ref a))) (eval (.Name x np) X.env) Q E { s' with heap := h3 } := fun {Q E} q => by
      obtain ⟨w1, w2, w3 | ⟨w3, w4, w5⟩⟩ := hc
      · exact ld_glob (X := X.suite a ((a, o3) :: (X.pn ++ pins))) SU w1 w3 q w2
      · exact ld_blt (X := X.suite a ((a, o3) :: (X.pn ++ pins))) SU w1 w3 w4 q w5 w2
    refine asks (LM.here (codeAny_handlers_suite_as (HandSPX.lands_againZ F3 fun h4 F4 U4 => ?_)))
    have J4 := J.landed (s' := { s' with heap := h4 }) ground F4.1 ((ups.trans U3).trans U4) eos gens
    obtain ⟨o4, v4, g4, z4, d4⟩ := F4.there
    have SV := J4.suite g4 d4 na aL aF
    refine store_ok (X := X.suite a ((a, o4) :: (X.pn ++ pins))) (v := .ref a) SV hN hi (.inl hln) rfl (fun s5 S5 => ?_) (.inr hln)
    refine wpAny_mono ((hsu a o4 cls none (X.pn ++ pins)).run [] s5 _ G _ S5 (keep a na)) (fun fl s6 done => ?_) (fun _ _ z => False.elim z)
    cases fl with
    | next =>
      obtain ⟨τ6, G6, S6, q6⟩ := done
      obtain ⟨p1, p2, _⟩ := S6.pin (a, o4) (List.mem_append_left _ List.mem_cons_self)
      exact gone_ok (track (S6.unsuite OK) p1 d4 p2 a0 aL aP (exA_ok p1 z4 d4)) hN hi hln fun s7 J7 => ⟨_, _, J7, q6 p2⟩
    | brk =>
      obtain ⟨_, _, _, q6⟩ := done
      exact q6.elim
    | cont =>
      obtain ⟨_, _, _, q6⟩ := done
      exact q6.elim
    | ret u =>
      obtain ⟨_, _, _, _, _, q6⟩ := done
      exact q6.elim
  · cases fl with
    | next =>
      obtain ⟨τ, G, J, q⟩ := done
      exact wpAny_execs_nil ⟨τ, G, J.ofTry OK, q⟩
    | brk =>
      obtain ⟨τ, G, J, q⟩ := done
      exact ⟨τ, G, J.ofTry OK, q⟩
    | cont =>
      obtain ⟨τ, G, J, q⟩ := done
      exact ⟨τ, G, J.ofTry OK, q⟩
    | ret u =>
      obtain ⟨v, τ, G, J, r, q⟩ := done
      exact ⟨v, τ, G, J.ofTry OK, r, q⟩
end
/-- in such a body: what a callee lets out, whatever stands in the slots -/
abbrev EL (N : List Str) (W : WX) : XK := fun cls d H => ∀ σ : L2.St, σ.length = N.length → W cls d σ H
theorem passT {X : Cx} {W : WX} {N : List Str} (tk : Takes X W) (hN : X.N = N := by rfl) : Passes (L2.CX X.prog X.w) X (EL N W) := fun _ σ _ _ e s' I t => by
  subst hN
  exact tk e s' (XE.of_call I (fun _ _ _ h => h σ I.len) t)
/-- isinstance of an exception that was kept -/
def rIsX (K : PySem.W.Frag) : List V → Hp → VK → Prop := fun xs H Q => ∃ (a D : Addr) (v : V) (u : Value) (b : Bool), xs = [.ref a, v] ∧ H a = some (ExA (.ref D) a) ∧ ExcC K D ∧ (∀ t, RelV v t → t = u) ∧ PySem.W.kitOne K (.ref D) u = some b ∧ Q (.bl b) H
theorem call_isX {X : Cx} : CallR X (.builtin "isinstance") (rIsX X.K) := by
  intro pins s σ H xs us Q I r h
  obtain ⟨a, D, v, u, b, rfl, ha, C, hv, hk, q⟩ := h
  obtain ⟨u1, u2, rfl, r1, r2⟩ : ∃ u1 u2, us = [u1, u2] ∧ RelV (.ref a) u1 ∧ RelV v u2 := by
    cases r with
    | cons p1 t =>
      cases t with
      | cons p2 t2 =>
        cases t2
        exact ⟨_, _, rfl, p1, p2⟩
  cases (show u1 = Value.ref a from r1)
  have e2 := hv _ r2
  subst e2
  obtain ⟨⟨o, vs, g, z, d⟩, _⟩ := (show ObjOk X.prog X.w H s.heap a (ExA (.ref D) a) from I.hok a _ ha)
  have J : PySem.W.InstAt s.heap a o D none := by
    obtain ⟨o1, o2, o3, o4⟩ := o
    obtain ⟨z1, z2⟩ := z
    dsimp only at z1 z2 d
    subst z1 z2 d
    exact ⟨g, rfl, rfl, trivial⟩
  exact PySem.W.kia_one (PySem.W.handS_kitx_exc C.hg C.hk C.hs C.hd C.ha C.hn C.ht C.hm) I.kIn J hk (fun z => nomatch z) fun tk => ⟨.bl b, H, I.kept (t' := tk) fun _ _ z => z, rfl, q⟩
/-! ### the words of the refusals -/
structure ErrT (K : PySem.W.Frag) (xs : List Str) : Prop where
  c : ∀ x ∈ xs, ExcC K (He.ga K x)
  v : ∀ x ∈ xs, PySem.W.kitOne K (.ref (He.ga K x)) (.type "ValueError") = some true
  m : ∀ x ∈ xs, PySem.W.exmOne K (.ref (He.ga K x)) (.ref (He.ga K "CountError")) = some true
  k : ∀ x ∈ xs, ∀ y ∈ xs, PySem.W.kitOne K (.ref (He.ga K x)) (.ref (He.ga K y)) = some (decide (x = y))
def excB (K : PySem.W.Frag) (D : Addr) : Bool :=
  decide (PySem.W.findIn K (.ref D) "__getattribute__" = some (some (.builtin "BaseException.__getattribute__"))) &&
  (decide (PySem.W.findIn K (.ref D) "__getattr__" = some none) && (decide (PySem.W.subIn K (.ref D) (.type "BaseException") = some true) &&
  (PySem.W.hasDictIn K D && (decide (PySem.W.findIn K (.ref D) "__class__" = some (some (.builtin "object.__class__"))) &&
  (decide (PySem.W.specialIn K (.builtin "object.__class__") "__get__" = some (some (.builtin "getset_descriptor.__get__"))) &&
  (decide (PySem.W.takesIn K (.builtin "object.__class__") = some true) && decide (PySem.W.mroIn K D (.type "object") = some true)))))))
theorem excB_ok {K : PySem.W.Frag} {D : Addr} (h : excB K D = true) : ExcC K D := by
  obtain ⟨h1, h⟩ := He.ba h
  obtain ⟨h2, h⟩ := He.ba h
  obtain ⟨h3, h⟩ := He.ba h
  obtain ⟨h4, h⟩ := He.ba h
  obtain ⟨h5, h⟩ := He.ba h
  obtain ⟨h6, h⟩ := He.ba h
  obtain ⟨h7, h8⟩ := He.ba h
  exact ⟨of_decide_eq_true h1, of_decide_eq_true h2, of_decide_eq_true h3, h4, of_decide_eq_true h5, of_decide_eq_true h6, of_decide_eq_true h7, of_decide_eq_true h8⟩
def errB (K : PySem.W.Frag) (xs : List Str) : Bool := xs.all fun x => excB K (He.ga K x) && (decide (PySem.W.kitOne K (.ref (He.ga K x)) (.type "ValueError") = some true) &&
  (decide (PySem.W.exmOne K (.ref (He.ga K x)) (.ref (He.ga K "CountError")) = some true) && xs.all fun y => decide (PySem.W.kitOne K (.ref (He.ga K x)) (.ref (He.ga K y)) = some (decide (x = y)))))
theorem errB_ok {K : PySem.W.Frag} {xs : List Str} (h : errB K xs = true) : ErrT K xs := by
  have g := fun x hx => He.ba (List.all_eq_true.mp h x hx)
  refine ⟨fun x hx => excB_ok (g x hx).1, fun x hx => ?_, fun x hx => ?_, fun x hx y hy => ?_⟩
  · exact of_decide_eq_true (He.ba (g x hx).2).1
  · exact of_decide_eq_true (He.ba (He.ba (g x hx).2).2).1
  · exact of_decide_eq_true (List.all_eq_true.mp (He.ba (He.ba (g x hx).2).2).2 y hy)
/-- a class (a def) of the module as a value -/
theorem pe_gref {X : Cx} {x : Str} {a : Addr} {pos : Pos} (h : X.mg x = some (.ref a)) (hg : Gl X x := by rfl) (hdb : (x == ("__debug__" : Str)) = false := by decide) :
    PE X (.Name x pos) (tC (.ref a)) := pe_glob hg h rfl hdb
/-- a constant has been read -/
theorem c_ {v : V} {σ : L2.St} {H : Hp} {Q : VK} (h : Q v H) : tC v σ H Q := h
/-! ### a weaker wish of what is raised -/
def spW (sp : Sp) : Sp := fun vs H Q E' => ∃ E : XK, sp vs H Q E ∧ ∀ cls d G, E cls d G → E' cls d G
section
variable {P : Program} {w : World} {K : PySem.W.Frag} {mg : Str → Option Value} {base : Heap} {k : Nat} {f : Addr} {fd : FuncData} {x : Str} {ps : List Str} {dvs : List V} {sp : Sp} {D : Addr}
theorem weak (F : FnOk P w K mg base (CXr P w) k f fd ps sp) : FnOk P w K mg base (CXr P w) k f fd ps (spW sp) := by
  refine ⟨fun vs H Q E ⟨E0, h, _⟩ => F.len vs H Q E0 h, fun A outer s H args us vs Q E hr e0 hb hv ⟨E0, h, hE⟩ => ?_⟩
  refine codeAny_mono (F.run A outer s H args us vs Q E0 hr e0 hb hv h) fun r s' hq => ?_
  cases r with
  | error e =>
    obtain ⟨a, B, G, cls, d, q1, q2, q3, q4, q5, q6, q7, q8⟩ := hq
    exact ⟨a, B, G, cls, d, q1, q2, q3, q4, q5, q6, q7, hE _ _ _ q8⟩
  | ok fl =>
    cases fl with
    | ret u => exact hq
    | next => exact hq
    | brk => exact hq
    | cont => exact hq
theorem weakF (G : FnAt P w K mg base (CXr P w) k x ps dvs sp) : FnAt P w K mg base (CXr P w) k x ps dvs (spW sp) := by
  obtain ⟨f, fd, ds, h1, h2, h3, h4, h5⟩ := G
  exact ⟨f, fd, ds, h1, h2, h3, h4, weak h5⟩
theorem weakM (G : FnMt P w K mg base (CXr P w) k D x ps dvs sp) : FnMt P w K mg base (CXr P w) k D x ps dvs (spW sp) := by
  obtain ⟨f, fd, ds, h1, h3, h4, h5⟩ := G
  exact ⟨f, fd, ds, h1, h3, h4, weak h5⟩
theorem weakK (G : FnMk P w K mg base (CXr P w) k x D ps dvs sp) : FnMk P w K mg base (CXr P w) k x D ps dvs (spW sp) := by
  obtain ⟨f, fd, ds, h1, h2, h3, h4, h5⟩ := G
  exact ⟨f, fd, ds, h1, h2, h3, h4, weak h5⟩
end
/-! ### values that are no number of a range -/
def BadV (st : Addr) (H : Hp) (lo hi : Int) (x : V) : Prop :=
  x = .non ∨ (∃ b, x = .bl b) ∨ (∃ z, x = .str z) ∨ (∃ a xs, x = .ref a ∧ a ≠ st ∧ (H a = some (.lst xs) ∨ H a = some (.tup xs))) ∨ ∃ i, x = .int i ∧ ¬ (lo ≤ i ∧ i ≤ hi)
theorem BadV.keep {st : Addr} {H H1 : Hp} {lo hi : Int} {x : V} (h : BadV st H lo hi x) (d : Kp [st] H H1) : BadV st H1 lo hi x := by
  rcases h with h | h | h | ⟨a, xs, rfl, n, h⟩ | h
  · exact .inl h
  · exact .inr (.inl h)
  · exact .inr (.inr (.inl h))
  · refine .inr (.inr (.inr (.inl ⟨a, xs, rfl, n, ?_⟩)))
    rcases h with h | h
    · exact .inl (d.one h n)
    · exact .inr (d.one h n)
  · exact .inr (.inr (.inr (.inr h)))
theorem BadV.out {K : PySem.W.Frag} {st : Addr} {H : Hp} {lo hi : Int} {x : V} (h : BadV st H lo hi x) : OutN K H lo hi x := by
  rcases h with rfl | ⟨b, rfl⟩ | ⟨z, rfl⟩ | ⟨a, xs, rfl, n, h⟩ | ⟨i, rfl, h⟩
  · exact .inl .non
  · exact .inl .bl
  · exact .inl .str
  · rcases h with h | h
    · exact .inl (.lst h)
    · exact .inl (.tup h)
  · exact .inr ⟨i, rfl, h⟩
theorem badN {st : Addr} {H : Hp} {lo hi : Int} : BadV st H lo hi .non := .inl rfl
theorem badB {st : Addr} {H : Hp} {lo hi : Int} {b : Bool} : BadV st H lo hi (.bl b) := .inr (.inl ⟨b, rfl⟩)
theorem badS {st : Addr} {H : Hp} {lo hi : Int} {z : Str} : BadV st H lo hi (.str z) := .inr (.inr (.inl ⟨z, rfl⟩))
theorem badI {st : Addr} {H : Hp} {lo hi i : Int} (h : ¬ (lo ≤ i ∧ i ≤ hi)) : BadV st H lo hi (.int i) := .inr (.inr (.inr (.inr ⟨i, rfl, h⟩)))
theorem badL {st a : Addr} {H : Hp} {lo hi : Int} {xs : List V} (n : a ≠ st) (h : H a = some (.lst xs)) : BadV st H lo hi (.ref a) := .inr (.inr (.inr (.inl ⟨a, xs, rfl, n, .inl h⟩)))
theorem badT {st a : Addr} {H : Hp} {lo hi : Int} {xs : List V} (n : a ≠ st) (h : H a = some (.tup xs)) : BadV st H lo hi (.ref a) := .inr (.inr (.inr (.inl ⟨a, xs, rfl, n, .inr h⟩)))
end Lz
namespace Lz
open PySem PySem.Spec PyProof.Rows L2
/-! ### a call of what an expression gives -/
/-- the function that the module's name x holds -/
def tGlo (mg : Str → Option Value) (x : Str) : TE := fun _ H Q => ∀ f : Addr, mg x = some (.ref f) → Q (.ref f) H
def tCallF (tf : TE) (A : Addr → Sp → Prop) (E : XK) (t : TA) : TE := fun σ H Q => tf σ H fun v H1 => ∃ (f : Addr) (sp : Sp), v = .ref f ∧ A f sp ∧ t σ H1 fun vs H2 => sp vs H2 Q E
section
variable {X : Cx} {C : CXT} {k : Nat} {x : Str} {ps : List Str} {dvs : List V} {sp : Sp} {E : XK} {pos : Pos} {e func : Expr} {es : List Expr} {t : TA} {tf : TE} {A : Addr → Sp → Prop}
theorem pe_fnv {mg : Str → Option Value} (G : FnAt X.prog X.w X.K X.mg X.base C k x ps dvs sp) (hm : X.mg = mg := by rfl) (hg : Gl X x := by rfl) (hdb : (x == ("__debug__" : Str)) = false := by decide) :
    PE X (.Name x pos) (tGlo mg x) := by
  subst hm
  obtain ⟨f, _, _, h1, _⟩ := G
  exact ⟨fun pins s σ H Q I h => (pe_gref h1 hg hdb).run pins s σ H Q I (h f h1)⟩
theorem pe_callF (hA : ∀ f sp, A f sp → ∃ fd ps, FnOk X.prog X.w X.K X.mg X.base C k f fd ps sp ∧ PySem.W.keepIn X.K (.ref f) = true ∧ Binds X.K fd ps []) (hr : Room k X.A) (hx : Passes C X E)
    (hf : PE X func tf) (ha : PA X (e :: es) t)
    (hc : eval (.Call func (e :: es) [] pos) X.env = (do callWith pos (← eval func X.env) [] (backTo pos (starEach (e :: es) X.env)) (backToKw pos (keywordEach [] X.env))) := by rfl)
    (he : starEach (e :: es) X.env = (false, eval e X.env) :: starEach es X.env := by rfl) (hpl : (backTo pos (starEach es X.env)).any (·.1) = false := by rfl) :
    PE X (.Call func (e :: es) [] pos) (tCallF tf A E t) := by
  refine ⟨fun pins s σ H Q I h => ?_⟩
  refine Call_ (thn (hf.run pins s σ H _ I h) fun u s1 ⟨v, H1, I1, r1, f, sp, ev, hs, q1⟩ => ?_) hc
  subst ev
  cases r1
  obtain ⟨fd, ps, F, hk, hb⟩ := hA f sp hs
  refine PySem.W.callWith_K (h₀ := X.base) I.ok.mod.kin hk (thn (ha.run pos pins s1 σ H1 _ I1 q1) fun us s2 ⟨vs, H2, I2, r2, q2⟩ => ⟨I2.kIn, ?_⟩) he hpl
  exact run_fn F hr hb .nil hx I2 r2 (by rw [List.append_nil]; exact q2)
end
theorem FnAt.by {P : Program} {w : World} {K : PySem.W.Frag} {mg : Str → Option Value} {base : Heap} {C : CXT} {j k : Nat} {x : Str} {ps : List Str} {sp : Sp} {f : Addr} (G : FnAt P w K mg base C j x ps [] sp) (h : mg x = some (.ref f)) (hj : j ≤ k) :
    ∃ fd ps, FnOk P w K mg base C k f fd ps sp ∧ PySem.W.keepIn K (.ref f) = true ∧ Binds K fd ps [] := by
  obtain ⟨g, fd, ds, h1, h2, h3, h4, h5⟩ := G
  rw [h1] at h
  cases h
  cases h4
  exact ⟨fd, ps, h5.mono hj, h2, h3⟩
theorem indexK {X : Cx} {K : PySem.W.Frag} (e : X.K = K := by rfl) : MtR X "list.index" (rIndex K) := by
  subst e
  exact mt_index
theorem pe_bmK {X : Cx} {K : PySem.W.Frag} {ex : Expr} {T : String} {r : V → List V → Hp → VK → Prop} {u : TE} {t : TA} (e : X.K = K) (h : PE X ex (tBM X.K T r u t)) : PE X ex (tBM K T r u t) := by
  subst e
  exact h
/-! ### two lists of lists, alike -/
theorem neD_two {K : PySem.W.Frag} {H : Hp} {p q a b c d : Addr} {xs ys : List V} {Q : VK} (hp : SqL K H p [.ref a, .ref b]) (hq : SqL K H q [.ref c, .ref d]) (ha : SqL K H a xs) (hb : SqL K H b ys) (hc : SqL K H c xs) (hd : SqL K H d ys)
    (fx : xs.all isS = true) (fy : ys.all isS = true) (k : Q (.bl false) H) : rNeD K (.ref p) (.ref q) H Q := by
  have lay : PyData.canLay0 (.list [.list (xs.map PD), .list (ys.map PD)]) = true := by
    simp [PyData.canLay0, PyData.canLayAll0, (PD_lay fx).1, (PD_lay fy).1]
  have sh : SeqAt.shaped (.list [.list (xs.map PD), .list (ys.map PD)]) = true := by
    unfold SeqAt.shaped
    rw [Bool.and_eq_true]
    refine ⟨lay, ?_⟩
    simp [PyData.depth, PyData.depthAll, (PD_lay fx).2, (PD_lay fy).2]
  have e : PyData.eqv (.list [.list (xs.map PD), .list (ys.map PD)]) (.list [.list (xs.map PD), .list (ys.map PD)]) = true := SeqAt.eqv_refl _ lay
  refine ⟨_, _, .lst hp (.cons (.lst ha (PD_all fx)) (.cons (.lst hb (PD_all fy)) .nil)), .lst hq (.cons (.lst hc (PD_all fx)) (.cons (.lst hd (PD_all fy)) .nil)), sh, sh, ?_⟩
  rw [e]
  exact k
end Lz
namespace Lz
open PySem PySem.Spec PyProof.Rows L2
theorem ixN_nat {n p : Nat} (h : p < n) : ixN n (p : Int) = some p := by
  unfold ixN
  rw [if_pos (by omega), if_pos (by omega)]
  rfl
theorem isS_int {xs : List V} (h : ∀ v ∈ xs, ∃ i : Int, v = .int i) : xs.all isS = true := by
  rw [List.all_eq_true]
  intro v hv
  obtain ⟨i, rfl⟩ := h v hv
  rfl
theorem ordV_int {s n b : Nat} : ∀ v ∈ ordV s n b, ∃ i : Int, v = .int i := by
  intro v hv
  have h1 := (Jo.out_perm (s - 1) (Jo.rotL (rgV 0 n) b)).mem_iff.mp hv
  have h2 := (Jo.rotL_perm (rgV 0 n) b).mem_iff.mp h1
  unfold rgV at h2
  obtain ⟨i, _, e⟩ := List.mem_map.mp h2
  exact ⟨_, e.symm⟩
theorem rg_turn {n b : Nat} (hb : b < n) : ((b : Int) % ((rgV 0 n).length : Int)).toNat = b := by
  rw [rgV_len, emod_nat n (by omega), Nat.mod_eq_of_lt (show (b : Int).toNat < n by omega)]
  omega
theorem rg_ne {n : Nat} (h : 1 ≤ n) : rgV 0 n ≠ [] := by
  intro e
  have := rgV_len n
  rw [e] at this
  simp at this
  omega
theorem ordV_zero (s n : Nat) : Jo.out (s - 1) (rgV 0 n) = ordV s n 0 := by
  show _ = Jo.out (s - 1) (Jo.rotL (rgV 0 n) 0)
  rw [Jo.rotL_zero]
end Lz
namespace Lz
open PySem PySem.Spec PyProof.Rows L2

def top (i : Nat) : Stmt := PySem.Challenge.pw_countout_k07_steps_wished.main.body.getD i (.Pass ⟨0, 0, 0, 0⟩)
abbrev cCountError (K : PySem.W.Frag) : Addr := He.ga K "CountError"
abbrev cNoRing (K : PySem.W.Frag) : Addr := He.ga K "NoRing"
abbrev cNoMany (K : PySem.W.Frag) : Addr := He.ga K "NoMany"
abbrev cNoStep (K : PySem.W.Frag) : Addr := He.ga K "NoStep"
abbrev cNoPlace (K : PySem.W.Frag) : Addr := He.ga K "NoPlace"
abbrev cNoCount (K : PySem.W.Frag) : Addr := He.ga K "NoCount"
abbrev cNoHand (K : PySem.W.Frag) : Addr := He.ga K "NoHand"
abbrev cTwiceTold (K : PySem.W.Frag) : Addr := He.ga K "TwiceTold"
abbrev cTooMany (K : PySem.W.Frag) : Addr := He.ga K "TooMany"
def errNames : List (Str × Str) := [("NoRing", "ring"), ("NoMany", "many"), ("NoStep", "step"), ("NoPlace", "place"), ("NoCount", "count"), ("NoHand", "hand"), ("TwiceTold", "twice"), ("TooMany", "much")]
/-- an own refusal, told by its word -/
def EE (K : PySem.W.Frag) (Q : VK) : XK := fun cls d H => d = none ∧ ∃ x wd : Str, (x, wd) ∈ errNames ∧ cls = .ref (He.ga K x) ∧ ∀ H', Kp [] H H' → Q (.str wd) H'
structure Txt (K : PySem.W.Frag) (mg : Str → Option Value) : Prop where
  b_len : mg "len" = none
  b_range : mg "range" = none
  b_list : mg "list" = none
  b_min : mg "min" = none
  b_max : mg "max" = none
  b_isinstance : mg "isinstance" = none
  b_int : mg "int" = none
  b_bool : mg "bool" = none
  b_str : mg "str" = none
  b_enumerate : mg "enumerate" = none
  b_all : mg "all" = none
  b_set : mg "set" = none
  b_ValueError : mg "ValueError" = none
  c_MOST_HANDS : ∃ t, mg "MOST_HANDS" = some (.int (60) t)
  c_MOST_TRIED : ∃ t, mg "MOST_TRIED" = some (.int (500) t)
  g_CountError : mg "CountError" = some (.ref (cCountError K))
  g_NoRing : mg "NoRing" = some (.ref (cNoRing K))
  g_NoMany : mg "NoMany" = some (.ref (cNoMany K))
  g_NoStep : mg "NoStep" = some (.ref (cNoStep K))
  g_NoPlace : mg "NoPlace" = some (.ref (cNoPlace K))
  g_NoCount : mg "NoCount" = some (.ref (cNoCount K))
  g_NoHand : mg "NoHand" = some (.ref (cNoHand K))
  g_TwiceTold : mg "TwiceTold" = some (.ref (cTwiceTold K))
  g_TooMany : mg "TooMany" = some (.ref (cTooMany K))
  x_CountError : PySem.W.keepIn K (.ref (cCountError K)) = true
  x_NoRing : ExcT K (cNoRing K)
  x_NoMany : ExcT K (cNoMany K)
  x_NoStep : ExcT K (cNoStep K)
  x_NoPlace : ExcT K (cNoPlace K)
  x_NoCount : ExcT K (cNoCount K)
  x_NoHand : ExcT K (cNoHand K)
  x_TwiceTold : ExcT K (cTwiceTold K)
  x_TooMany : ExcT K (cTooMany K)
  err : ErrT K (errNames.map (·.1))
end Lz
namespace Lz
open PySem PySem.Spec PyProof.Rows L2
abbrev s__law_cell_at : Stmt := top 24
def spCell (K : PySem.W.Frag) : Sp := fun vs H Q _ => ∃ (a : Addr) (ns : List Int) (k : Int), vs = [.ref a, .int k] ∧
  SqL K H a (ns.map V.int) ∧ 0 ≤ k ∧ ∀ v : Int, Q (.int v) H
section
variable {P : Program} {w : World} {K : PySem.W.Frag} {mg : Str → Option Value} {base : Heap}
theorem sc__law_cell_at : FnScope ["_law_script", "_law_k"] ["_law_script", "_law_k"] (defScope s__law_cell_at) := ⟨rfl, rfl, rfl, by decide +kernel, rfl, by decide +kernel, by decide +kernel⟩
theorem ok__law_cell_at {f : Addr} {fd : FuncData} (F : FnP K "_law_cell_at" "_law_cell_at" s__law_cell_at [] f fd) (T : Txt K mg)  :
    FnOk P w K mg base CX0 1 f fd ["_law_script", "_law_k"] (spCell K) := by
  have S := sc__law_cell_at
  refine F.ok S (fun vs H Q E h => ?_) (fun cdv A outer s H vs Q E hr h => ?_)
  · obtain ⟨a, ns, k, rfl, _⟩ := h
    rfl
  · obtain ⟨a, ns, k, rfl, hS, h0, hQ⟩ := h
    refine ⟨_, PSs.nox (pss_cons (ps_if (pt_cmpR op_lt (pv 1) (pe_callB call_len_seq (by rfl) T.b_len PySem.boot_len (pa_cons (pv 0) pa_nil)) (nomark _)) (pss_one (ps_ret (pe_ix ix_list (pv 0) (pv 1) (fun _ _ => rfl)))) pss_nil) (pss_one (ps_ret pe_int))), ?_⟩
    refine ⟨_, rfl, _, rfl, a, _, rfl, .inl hS, _, _, rfl, rfl, _, rfl, ite2 (fun c => ?_) (fun c => hQ 0)⟩
    have c1 : k < ((ns.map V.int).length : Int) := of_decide_eq_true c
    rw [List.length_map] at c1
    have c2 : k.toNat < ns.length := by omega
    have e : (ns.map V.int)[k.toNat]? = some (.int ns[k.toNat]) := by
      rw [List.getElem?_map, List.getElem?_eq_getElem c2]
      rfl
    exact ⟨_, rfl, _, rfl, a, _, _, _, rfl, rfl, hS, at_of (j := k.toNat) (by omega) e, hQ _⟩
end
end Lz
namespace Lz
open PySem PySem.Spec PyProof.Rows L2
abbrev s__law_state : Stmt := top 26
def spState (K : PySem.W.Frag) : Sp := fun vs H Q _ => ∃ (a : Addr) (ns : List Int) (k : Int), vs = [.ref a, .int k] ∧
  SqL K H a (ns.map V.int) ∧ 0 ≤ k ∧ ∀ (p : Addr) (H' : Hp), H p = none → Kp [] H H' → StAt H' p → Q (.ref p) H'
section
variable {P : Program} {w : World} {K : PySem.W.Frag} {mg : Str → Option Value} {base : Heap}
theorem sc__law_state : FnScope ["_law_script", "_law_first"] ["_law_script", "_law_first"] (defScope s__law_state) := ⟨rfl, rfl, rfl, by decide +kernel, rfl, by decide +kernel, by decide +kernel⟩
theorem ok__law_state {f : Addr} {fd : FuncData} (F : FnP K "_law_state" "_law_state" s__law_state [] f fd) (T : Txt K mg) (G__law_cell_at : FnAt P w K mg base CX0 1 "_law_cell_at" ["_law_script", "_law_k"] [] (spCell K)) :
    FnOk P w K mg base CX0 2 f fd ["_law_script", "_law_first"] (spState K) := by
  have S := sc__law_state
  refine F.ok S (fun vs H Q E h => ?_) (fun cdv A outer s H vs Q E hr h => ?_)
  · obtain ⟨a, ns, k, rfl, _⟩ := h
    rfl
  · obtain ⟨a, ns, k, rfl, hS, h0, hQ⟩ := h
    refine ⟨_, PSs.nox (pss_one (ps_ret (pe_lst (pa_cons (pe_op op_add (pe_op op_add pe_int (pe_op op_mod (pe_fn G__law_cell_at (hr.mono (by decide)) pass0 (pa_cons (pv 0) (pa_cons (pv 1) pa_nil))) pe_int)) (pe_op op_mod (pe_fn G__law_cell_at (hr.mono (by decide)) pass0 (pa_cons (pv 0) (pa_cons (pe_op op_add (pv 1) pe_int) pa_nil))) pe_int)) pa_nil)))), ?_⟩
    refine ⟨_, rfl, _, rfl, a, ns, k, rfl, hS, h0, fun v => ?_⟩
    refine ⟨_, _, rfl, rfl, (by show (0 : Int) < _; decide), _, _, rfl, rfl, ?_⟩
    refine ⟨_, rfl, _, rfl, _, _, rfl, rfl, a, ns, k + 1, rfl, hS, by omega, fun u => ?_⟩
    refine ⟨_, _, rfl, rfl, (by show (0 : Int) < _; decide), _, _, rfl, rfl, sz 1 (by decide), fun p hp => ?_⟩
    refine hQ p _ hp (Kp.new hp) ⟨_, ⟨?_, ?_⟩, upd_same⟩
    · omega
    · omega
end
end Lz
namespace Lz
open PySem PySem.Spec PyProof.Rows L2
abbrev s__law_next : Stmt := top 25
def spNext : Sp := fun vs H Q _ => ∃ st : Addr, vs = [.ref st] ∧ StAt H st ∧
  ∀ (H' : Hp) (r : Int), Drew st H H' → 0 ≤ r → r < 2147483648 → Q (.int r) H'
section
variable {P : Program} {w : World} {K : PySem.W.Frag} {mg : Str → Option Value} {base : Heap}
theorem sc__law_next : FnScope ["_law_state_here"] ["_law_state_here"] (defScope s__law_next) := ⟨rfl, rfl, rfl, by decide +kernel, rfl, by decide +kernel, by decide +kernel⟩
theorem ok__law_next {f : Addr} {fd : FuncData} (F : FnP K "_law_next" "_law_next" s__law_next [] f fd) (T : Txt K mg)  :
    FnOk P w K mg base CX0 1 f fd ["_law_state_here"] spNext := by
  have S := sc__law_next
  refine F.ok S (fun vs H Q E h => ?_) (fun cdv A outer s H vs Q E hr h => ?_)
  · obtain ⟨st, rfl, _⟩ := h
    rfl
  · obtain ⟨st, rfl, ⟨s, hs, h⟩, k⟩ := h
    refine ⟨_, PSs.nox (pss_cons (ps_asg (pe_op op_mod (pe_op op_add (pe_op op_mul (pe_ix ix_list (pv 0) pe_int (fun _ _ => rfl)) pe_int) pe_int) pe_int) (pg_sub (pv 0) pe_int set_list)) (pss_one (ps_ret (pe_op op_fdiv (pe_op op_mod (pe_op op_mul (pe_ix ix_list (pv 0) pe_int (fun _ _ => rfl)) (pe_ix ix_list (pv 0) pe_int (fun _ _ => rfl))) pe_int) pe_int)))), ?_⟩
    refine ⟨_, rfl, _, _, _, _, rfl, rfl, SqL.of h, rfl, _, _, rfl, rfl, .inr ⟨by decide, by decide⟩, _, _, rfl, rfl, _, _, rfl, rfl, (by show (0 : Int) < _; decide),
      _, rfl, _, _, _, 0, rfl, rfl, h, rfl, ?_⟩
    refine ⟨_, rfl, _, _, _, _, rfl, rfl, SqL.of upd_same, rfl, _, rfl, _, _, _, _, rfl, rfl, SqL.of upd_same, rfl, _, _, rfl, rfl, ?_, _, _, rfl, rfl, (by show (0 : Int) < _; decide),
      _, _, rfl, rfl, ⟨by decide, by decide⟩, ?_⟩
    · refine .inl ⟨?_, ?_⟩
      · show -(2 ^ 64) < (s * 48271 + 11) % 2147483647
        omega
      · show (s * 48271 + 11) % 2147483647 < 2 ^ 64
        omega
    · generalize (s * 48271 + 11) % 2147483647 * ((s * 48271 + 11) % 2147483647) = z
      refine k _ _ ⟨Kp.put (List.mem_singleton.mpr rfl), (s * 48271 + 11) % 2147483647, ⟨by omega, by omega⟩, upd_same⟩ ?_ ?_
      · show 0 ≤ z % 2147483629 / 7
        omega
      · show z % 2147483629 / 7 < 2147483648
        omega
end
end Lz
namespace Lz
open PySem PySem.Spec PyProof.Rows L2
abbrev s__law_of : Stmt := top 27
/-- one of the items of a list, one of the signs of a text -/
def spOf (K : PySem.W.Frag) : Sp := fun vs H Q _ => ∃ (st : Addr) (x : V), vs = [.ref st, x] ∧ StAt H st ∧
  ((∃ (p : Addr) (xs : List V), x = .ref p ∧ SqL K H p xs ∧ xs ≠ [] ∧ p ≠ st ∧ ∀ (H' : Hp) (v : V), v ∈ xs → Drew st H H' → Q v H') ∨
   (∃ z : Str, x = .str z ∧ 0 < z.length ∧ z.length ≤ 1000 ∧ ∀ (H' : Hp) (c : Nat), c ∈ z.cps.toList → Drew st H H' → Q (.str ⟨#[c]⟩) H'))
section
variable {P : Program} {w : World} {K : PySem.W.Frag} {mg : Str → Option Value} {base : Heap}
theorem sc__law_of : FnScope ["_law_state_here", "_law_some"] ["_law_state_here", "_law_some"] (defScope s__law_of) := ⟨rfl, rfl, rfl, by decide +kernel, rfl, by decide +kernel, by decide +kernel⟩
theorem ok__law_of {f : Addr} {fd : FuncData} (F : FnP K "_law_of" "_law_of" s__law_of [] f fd) (T : Txt K mg) (G__law_next : FnAt P w K mg base CX0 1 "_law_next" ["_law_state_here"] [] spNext) :
    FnOk P w K mg base CX0 2 f fd ["_law_state_here", "_law_some"] (spOf K) := by
  have S := sc__law_of
  refine F.ok S (fun vs H Q E h => ?_) (fun cdv A outer s H vs Q E hr h => ?_)
  · obtain ⟨st, x, rfl, _⟩ := h
    rfl
  · obtain ⟨st, x, rfl, hst, h⟩ := h
    refine ⟨_, PSs.nox (pss_one (ps_ret (pe_ix ix_seq (pv 1) (pe_op op_mod (pe_fn G__law_next (hr.mono (by decide)) pass0 (pa_cons (pv 0) pa_nil)) (pe_callB call_len (by rfl) T.b_len PySem.boot_len (pa_cons (pv 1) pa_nil))) (fun _ _ => rfl)))), ?_⟩
    refine ⟨_, rfl, _, rfl, st, rfl, hst, fun H1 r d r0 r1 => ?_⟩
    rcases h with ⟨p, xs, rfl, hS, hne, n, k⟩ | ⟨z, rfl, z0, z1, k⟩
    · have hl : 0 < xs.length := List.length_pos_iff.mpr hne
      refine ⟨_, rfl, _, xs.length, rfl, .inl ⟨_, d.lst hS n, rfl⟩, _, _, rfl, rfl, by omega, ?_⟩
      have m0 := Int.emod_nonneg r (show (xs.length : Int) ≠ 0 by omega)
      have m1 := Int.emod_lt_of_pos r (show 0 < (xs.length : Int) by omega)
      have hi : (r % (xs.length : Int)).toNat < xs.length := by omega
      exact .inl ⟨p, xs, _, _, rfl, rfl, d.lst hS n, at_of (j := (r % (xs.length : Int)).toNat) (by omega) (List.getElem?_eq_getElem hi), k _ _ (List.getElem_mem hi) d⟩
    · refine ⟨_, rfl, _, z.length, rfl, ⟨sz _ (by omega), rfl⟩, _, _, rfl, rfl, by omega, ?_⟩
      have m0 := Int.emod_nonneg r (show (z.length : Int) ≠ 0 by omega)
      have m1 := Int.emod_lt_of_pos r (show 0 < (z.length : Int) by omega)
      have hi : (r % (z.length : Int)).toNat < z.cps.toList.length := by
        show (r % (z.length : Int)).toNat < z.length
        omega
      have e : atI z.cps.toList (r % (z.length : Int)) = some z.cps.toList[(r % (z.length : Int)).toNat] := by
        have e1 : r % (z.length : Int) = (((r % (z.length : Int)).toNat : Nat) : Int) := by omega
        have e2 := atI_nat (List.getElem?_eq_getElem hi)
        rw [← e1] at e2
        exact e2
      exact .inr (.inr ⟨z, _, _, rfl, rfl, sz _ (by omega), e, k _ _ (List.getElem_mem hi) d⟩)
end
end Lz
namespace Lz
open PySem PySem.Spec PyProof.Rows L2
abbrev s_is_number : Stmt := top 11
def spIsNum (K : PySem.W.Frag) : Sp := fun vs H Q _ => ∃ x, vs = [x] ∧ ((∃ i, x = .int i ∧ Q (.bl true) H) ∨ (NotNum K H x ∧ Q (.bl false) H))
section
variable {P : Program} {w : World} {K : PySem.W.Frag} {mg : Str → Option Value} {base : Heap}
theorem sc_is_number : FnScope ["thing"] ["thing"] (defScope s_is_number) := ⟨rfl, rfl, rfl, by decide +kernel, rfl, by decide +kernel, by decide +kernel⟩
theorem ok_is_number {f : Addr} {fd : FuncData} (F : FnP K "is_number" "is_number" s_is_number [] f fd) (T : Txt K mg)  :
    FnOk P w K mg base CX0 1 f fd ["thing"] (spIsNum K) := by
  have S := sc_is_number
  refine F.ok S (fun vs H Q E h => ?_) (fun cdv A outer s H vs Q E hr h => ?_)
  · obtain ⟨x, rfl, _⟩ := h
    rfl
  · obtain ⟨x, rfl, h⟩ := h
    refine ⟨_, PSs.nox (pss_one (ps_ret (pe_and (pe_callB call_isi (by rfl) T.b_isinstance (by decide +kernel) (pa_cons (pv 0) (pa_cons (pe_bltn (v := .ty "int") (by rfl) T.b_int (by decide +kernel) rfl) pa_nil))) (pe_one (pe_not (pe_callB call_isi (by rfl) T.b_isinstance (by decide +kernel) (pa_cons (pv 0) (pa_cons (pe_bltn (v := .ty "bool") (by rfl) T.b_bool (by decide +kernel) rfl) pa_nil)))))))), ?_⟩
    rcases h with ⟨i, rfl, k⟩ | ⟨⟨t, ht, hm⟩, k⟩
    · refine ⟨_, rfl, _, _, _, _, true, rfl, .ty _, .base (.int i), kit_ty (by decide +kernel), _, rfl, ?_⟩
      exact iteT ⟨_, rfl, _, _, _, _, false, rfl, .ty _, .base (.int i), kit_ty (by decide +kernel), _, rfl, k⟩
    · simp only [List.mem_cons, List.not_mem_nil, or_false] at hm
      rcases hm with rfl | rfl | rfl | rfl | rfl | rfl
      · exact ⟨_, rfl, _, _, _, _, false, rfl, .ty _, ht, kit_ty (by decide +kernel), _, rfl, iteF k⟩
      · refine ⟨_, rfl, _, _, _, _, true, rfl, .ty _, ht, kit_ty (by decide +kernel), _, rfl, iteT ?_⟩
        exact ⟨_, rfl, _, _, _, _, true, rfl, .ty _, ht, kit_ty (by decide +kernel), _, rfl, k⟩
      · exact ⟨_, rfl, _, _, _, _, false, rfl, .ty _, ht, kit_ty (by decide +kernel), _, rfl, iteF k⟩
      · exact ⟨_, rfl, _, _, _, _, false, rfl, .ty _, ht, kit_ty (by decide +kernel), _, rfl, iteF k⟩
      · exact ⟨_, rfl, _, _, _, _, false, rfl, .ty _, ht, kit_ty (by decide +kernel), _, rfl, iteF k⟩
      · exact ⟨_, rfl, _, _, _, _, false, rfl, .ty _, ht, kit_ty (by decide +kernel), _, rfl, iteF k⟩
end
end Lz
namespace Lz
open PySem PySem.Spec PyProof.Rows L2
abbrev s_need_many : Stmt := top 12
/-- a number from lo to the second, or the class's refusal -/
def spNeed (K : PySem.W.Frag) (C : Addr) (lo : Int) : Sp := fun vs H Q E => ∃ x m, vs = [x, .int m] ∧
  ((∃ i, x = .int i ∧ lo ≤ i ∧ i ≤ m ∧ Q .non H) ∨ (OutN K H lo m x ∧ E (.ref C) none H))
section
variable {P : Program} {w : World} {K : PySem.W.Frag} {mg : Str → Option Value} {base : Heap}
theorem sc_need_many : FnScope ["many", "most"] ["many", "most"] (defScope s_need_many) := ⟨rfl, rfl, rfl, by decide +kernel, rfl, by decide +kernel, by decide +kernel⟩
theorem ok_need_many {f : Addr} {fd : FuncData} (F : FnP K "need_many" "need_many" s_need_many [] f fd) (T : Txt K mg) (G_is_number : FnAt P w K mg base CX0 1 "is_number" ["thing"] [] (spIsNum K)) :
    FnOk P w K mg base (CXr P w) 2 f fd ["many", "most"] (spNeed K (cNoMany K) 1) := by
  have S := sc_need_many
  refine F.ok S (fun vs H Q E h => ?_) (fun cdv A outer s H vs Q E hr h => ?_)
  · obtain ⟨x, m, rfl, _⟩ := h
    rfl
  · obtain ⟨x, m, rfl, h⟩ := h
    refine ⟨_, (pss_one (ps_if (PW.pt (pw_or (pt_not (pt_val (pe_fn G_is_number (hr.mono (by decide)) pass0 (pa_cons (pv 0) pa_nil)))) (pw_or1 (pt_not (pt_chain op_le op_le pe_int (pv 0) (pv 1)))))) (pss_one (ps_raise rfl (takes_of rfl rfl rfl rfl) (pmk_t T.x_NoMany T.g_NoMany))) pss_nil)), ?_⟩
    rcases h with ⟨i, rfl, h1, h2, k⟩ | ⟨⟨hn⟩ | ⟨i, rfl, hn⟩, k⟩
    · refine ⟨_, rfl, _, rfl, .inl ⟨i, rfl, _, rfl, iteF ?_⟩⟩
      refine ⟨_, rfl, _, _, rfl, rfl, _, rfl, ?_⟩
      rw [decide_eq_true h1]
      refine iteT ⟨_, rfl, _, _, rfl, rfl, _, rfl, ?_⟩
      rw [decide_eq_true h2]
      exact iteF k
    · exact ⟨_, rfl, _, rfl, .inr ⟨‹_›, _, rfl, iteT (iteT k)⟩⟩
    · refine ⟨_, rfl, _, rfl, .inl ⟨i, rfl, _, rfl, iteF ?_⟩⟩
      refine ⟨_, rfl, _, _, rfl, rfl, _, rfl, ?_⟩
      by_cases h1 : 1 ≤ i
      · rw [decide_eq_true h1]
        refine iteT ⟨_, rfl, _, _, rfl, rfl, _, rfl, ?_⟩
        rw [decide_eq_false (by omega)]
        exact iteT k
      · rw [decide_eq_false h1]
        exact iteF ⟨_, rfl, iteT k⟩
end
end Lz
namespace Lz
open PySem PySem.Spec PyProof.Rows L2
abbrev s_need_place : Stmt := top 13
def spPlace (K : PySem.W.Frag) : Sp := fun vs H Q E => ∃ x m, vs = [.int m, x] ∧
  ((∃ i, x = .int i ∧ 0 ≤ i ∧ i < m ∧ Q .non H) ∨ (OutN K H 0 (m - 1) x ∧ E (.ref (cNoPlace K)) none H))
section
variable {P : Program} {w : World} {K : PySem.W.Frag} {mg : Str → Option Value} {base : Heap}
theorem sc_need_place : FnScope ["many", "place"] ["many", "place"] (defScope s_need_place) := ⟨rfl, rfl, rfl, by decide +kernel, rfl, by decide +kernel, by decide +kernel⟩
theorem ok_need_place {f : Addr} {fd : FuncData} (F : FnP K "need_place" "need_place" s_need_place [] f fd) (T : Txt K mg) (G_is_number : FnAt P w K mg base CX0 1 "is_number" ["thing"] [] (spIsNum K)) :
    FnOk P w K mg base (CXr P w) 2 f fd ["many", "place"] (spPlace K) := by
  have S := sc_need_place
  refine F.ok S (fun vs H Q E h => ?_) (fun cdv A outer s H vs Q E hr h => ?_)
  · obtain ⟨x, m, rfl, _⟩ := h
    rfl
  · obtain ⟨x, m, rfl, h⟩ := h
    refine ⟨_, (pss_one (ps_if (PW.pt (pw_or (pt_not (pt_val (pe_fn G_is_number (hr.mono (by decide)) pass0 (pa_cons (pv 1) pa_nil)))) (pw_or1 (pt_not (pt_chain op_le op_lt pe_int (pv 1) (pv 0)))))) (pss_one (ps_raise rfl (takes_of rfl rfl rfl rfl) (pmk_t T.x_NoPlace T.g_NoPlace))) pss_nil)), ?_⟩
    rcases h with ⟨i, rfl, h1, h2, k⟩ | ⟨⟨hn⟩ | ⟨i, rfl, hn⟩, k⟩
    · refine ⟨_, rfl, _, rfl, .inl ⟨i, rfl, _, rfl, iteF ?_⟩⟩
      refine ⟨_, rfl, _, _, rfl, rfl, _, rfl, ?_⟩
      rw [decide_eq_true h1]
      refine iteT ⟨_, rfl, _, _, rfl, rfl, _, rfl, ?_⟩
      rw [decide_eq_true h2]
      exact iteF k
    · exact ⟨_, rfl, _, rfl, .inr ⟨‹_›, _, rfl, iteT (iteT k)⟩⟩
    · refine ⟨_, rfl, _, rfl, .inl ⟨i, rfl, _, rfl, iteF ?_⟩⟩
      refine ⟨_, rfl, _, _, rfl, rfl, _, rfl, ?_⟩
      by_cases h1 : 0 ≤ i
      · rw [decide_eq_true h1]
        refine iteT ⟨_, rfl, _, _, rfl, rfl, _, rfl, ?_⟩
        rw [decide_eq_false (by omega)]
        exact iteT k
      · rw [decide_eq_false h1]
        exact iteF ⟨_, rfl, iteT k⟩
end
end Lz
namespace Lz
open PySem PySem.Spec PyProof.Rows L2
abbrev s_need_count : Stmt := top 14
def spCount (K : PySem.W.Frag) : Sp := fun vs H Q E => ∃ x lo m, vs = [.int lo, x, .int m] ∧
  ((∃ i, x = .int i ∧ lo ≤ i ∧ i ≤ m ∧ Q .non H) ∨ (OutN K H lo m x ∧ E (.ref (cNoCount K)) none H))
section
variable {P : Program} {w : World} {K : PySem.W.Frag} {mg : Str → Option Value} {base : Heap}
theorem sc_need_count : FnScope ["least", "count", "most"] ["least", "count", "most"] (defScope s_need_count) := ⟨rfl, rfl, rfl, by decide +kernel, rfl, by decide +kernel, by decide +kernel⟩
theorem ok_need_count {f : Addr} {fd : FuncData} (F : FnP K "need_count" "need_count" s_need_count [] f fd) (T : Txt K mg) (G_is_number : FnAt P w K mg base CX0 1 "is_number" ["thing"] [] (spIsNum K)) :
    FnOk P w K mg base (CXr P w) 2 f fd ["least", "count", "most"] (spCount K) := by
  have S := sc_need_count
  refine F.ok S (fun vs H Q E h => ?_) (fun cdv A outer s H vs Q E hr h => ?_)
  · obtain ⟨x, lo, m, rfl, _⟩ := h
    rfl
  · obtain ⟨x, lo, m, rfl, h⟩ := h
    refine ⟨_, (pss_one (ps_if (PW.pt (pw_or (pt_not (pt_val (pe_fn G_is_number (hr.mono (by decide)) pass0 (pa_cons (pv 1) pa_nil)))) (pw_or1 (pt_not (pt_chain op_le op_le (pv 0) (pv 1) (pv 2)))))) (pss_one (ps_raise rfl (takes_of rfl rfl rfl rfl) (pmk_t T.x_NoCount T.g_NoCount))) pss_nil)), ?_⟩
    rcases h with ⟨i, rfl, h1, h2, k⟩ | ⟨⟨hn⟩ | ⟨i, rfl, hn⟩, k⟩
    · refine ⟨_, rfl, _, rfl, .inl ⟨i, rfl, _, rfl, iteF ?_⟩⟩
      refine ⟨_, rfl, _, rfl, _, _, rfl, rfl, _, rfl, ?_⟩
      rw [decide_eq_true h1]
      refine iteT ⟨_, rfl, _, _, rfl, rfl, _, rfl, ?_⟩
      rw [decide_eq_true h2]
      exact iteF k
    · exact ⟨_, rfl, _, rfl, .inr ⟨‹_›, _, rfl, iteT (iteT k)⟩⟩
    · refine ⟨_, rfl, _, rfl, .inl ⟨i, rfl, _, rfl, iteF ?_⟩⟩
      refine ⟨_, rfl, _, rfl, _, _, rfl, rfl, _, rfl, ?_⟩
      by_cases h1 : lo ≤ i
      · rw [decide_eq_true h1]
        refine iteT ⟨_, rfl, _, _, rfl, rfl, _, rfl, ?_⟩
        rw [decide_eq_false (by omega)]
        exact iteT k
      · rw [decide_eq_false h1]
        exact iteF ⟨_, rfl, iteT k⟩
end
end Lz
namespace Lz
open PySem PySem.Spec PyProof.Rows L2
abbrev s_from_place : Stmt := top 16
def spFrom (K : PySem.W.Frag) : Sp := fun vs H Q _ => ∃ (p : Addr) (k : Nat) (xs : List V), vs = [.ref p, .int k] ∧ SqL K H p xs ∧ xs.length ≤ 1000 ∧
  ∀ (q : Addr) (H' : Hp), Kp [] H H' → H q = none → H' q = some (.lst (Jo.rotL xs k)) → Q (.ref q) H'
section
variable {P : Program} {w : World} {K : PySem.W.Frag} {mg : Str → Option Value} {base : Heap}
theorem sc_from_place : FnScope ["hands", "place"] ["hands", "place"] (defScope s_from_place) := ⟨rfl, rfl, rfl, by decide +kernel, rfl, by decide +kernel, by decide +kernel⟩
theorem ok_from_place {f : Addr} {fd : FuncData} (F : FnP K "from_place" "from_place" s_from_place [] f fd) (T : Txt K mg)  :
    FnOk P w K mg base CX0 1 f fd ["hands", "place"] (spFrom K) := by
  have S := sc_from_place
  refine F.ok S (fun vs H Q E h => ?_) (fun cdv A outer s H vs Q E hr h => ?_)
  · obtain ⟨p, k, xs, rfl, _⟩ := h
    rfl
  · obtain ⟨p, j, xs, rfl, hS, hlen, k⟩ := h
    refine ⟨_, PSs.nox (pss_one (ps_ret (pe_op op_cat (pe_slice sl_list (pv 0) (po_some (pv 1)) po_none) (pe_slice sl_list (pv 0) po_none (po_some (pv 1)))))), ?_⟩
    refine ⟨_, rfl, _, rfl, (j : Int), rfl, p, xs, rfl, hS, fun a ha => ?_⟩
    refine ⟨_, rfl, _, rfl, (j : Int), rfl, p, xs, rfl, (Kp.new (ws := []) ha).lst hS (by simp), fun b hb => ?_⟩
    have hab : a ≠ b := ne_of_none upd_same hb
    refine ⟨a, b, _, _, rfl, rfl, by rw [upd_ne hab]; exact upd_same, upd_same, ?_, fun c hc => ?_⟩
    · rw [cut_from, cut_to, List.length_drop, List.length_take]
      exact sz _ (by omega)
    · have hc1 := (Kp.new (ws := []) (o := .lst (cutV xs none (some (j : Int)))) hb).free hc (by simp)
      have hc0 := (Kp.new (ws := []) (o := .lst (cutV xs (some (j : Int)) none)) ha).free hc1 (by simp)
      refine k c _ (((Kp.new ha).trans (Kp.new hb)).trans (Kp.new hc)) hc0 ?_
      rw [upd_same, cut_from, cut_to]
      rfl
end
end Lz
namespace Lz
open PySem PySem.Spec PyProof.Rows L2
abbrev s_behind_count : Stmt := top 17
/-- the one who goes, those that are left from the next one on -/
def spBehind (K : PySem.W.Frag) : Sp := fun vs H Q _ => ∃ (p : Addr) (s : Nat) (xs : List V), vs = [.ref p, .int s] ∧ SqL K H p xs ∧ xs ≠ [] ∧ xs.length ≤ 1000 ∧ 1 ≤ s ∧
  ∀ (x : V) (r : List V) (t q : Addr) (H' : Hp), Jo.rotL xs ((s - 1) % xs.length) = x :: r → Kp [] H H' → H t = none → H' t = some (.tup [x, .ref q]) → H q = none → H' q = some (.lst r) → Q (.ref t) H'
section
variable {P : Program} {w : World} {K : PySem.W.Frag} {mg : Str → Option Value} {base : Heap}
theorem sc_behind_count : FnScope ["hands", "step", "turned"] ["hands", "step"] (defScope s_behind_count) := ⟨rfl, rfl, rfl, by decide +kernel, rfl, by decide +kernel, by decide +kernel⟩
theorem ok_behind_count {f : Addr} {fd : FuncData} (F : FnP K "behind_count" "behind_count" s_behind_count [] f fd) (T : Txt K mg) (G_from_place : FnAt P w K mg base CX0 1 "from_place" ["hands", "place"] [] (spFrom K)) :
    FnOk P w K mg base CX0 2 f fd ["hands", "step"] (spBehind K) := by
  have S := sc_behind_count
  refine F.ok S (fun vs H Q E h => ?_) (fun cdv A outer s H vs Q E hr h => ?_)
  · obtain ⟨p, s, xs, rfl, _⟩ := h
    rfl
  · obtain ⟨p, z, xs, rfl, hS, hne, hlen, hz, k⟩ := h
    have hl : 0 < xs.length := List.length_pos_iff.mpr hne
    refine ⟨_, PSs.nox (pss_cons (ps_set (i := 2) S.nd rfl (Or.inl rfl) (pe_fn G_from_place (hr.mono (by decide)) pass0 (pa_cons (pv 0) (pa_cons (pe_op op_mod (pe_op op_sub (pv 1) pe_int) (pe_callB call_len_seq (by rfl) T.b_len PySem.boot_len (pa_cons (pv 0) pa_nil))) pa_nil)))) (pss_one (ps_ret (pe_tup (pa_cons (pe_ix ix_list (pv 2) pe_int (fun _ _ => rfl)) (pa_cons (pe_slice sl_list (pv 2) (po_some pe_int) po_none) pa_nil)))))), ?_⟩
    have e : ((z : Int) - 1) % (xs.length : Int) = (((z - 1) % xs.length : Nat) : Int) := by
      have e1 : (z : Int) - 1 = ((z - 1 : Nat) : Int) := by omega
      rw [e1]
      rfl
    refine ⟨_, rfl, _, rfl, _, _, rfl, rfl, _, rfl, p, xs, rfl, .inl hS, _, _, rfl, rfl, by show (0 : Int) < (xs.length : Int); omega, ?_⟩
    refine ⟨p, (z - 1) % xs.length, xs, congrArg (fun q => [V.ref p, V.int q]) e, hS, hlen, fun q H1 k1 hq e1 => ?_⟩
    obtain ⟨x, r, er, lr⟩ := Jo.rot_cons (z - 1) hne
    rw [er] at e1
    refine ⟨_, rfl, q, _, _, x, rfl, rfl, SqL.of e1, at_of (j := 0) rfl rfl, _, rfl, 1, rfl, q, _, rfl, SqL.of e1, fun w hw => ?_⟩
    refine ⟨sz 2 (by decide), fun t ht => ?_⟩
    have c1 : cutV (x :: r) (some 1) none = r := cut_from (x :: r) 1
    have hw0 : H w = none := k1.free hw (by simp)
    have ht0 : H t = none := (k1.trans (Kp.new hw)).free ht (by simp)
    refine k x r t w _ er ((k1.trans (Kp.new hw)).trans (Kp.new ht)) ht0 upd_same hw0 ?_
    rw [upd_ne (ne_of_none upd_same ht), upd_same, c1]
end
end Lz
namespace Lz
open PySem PySem.Spec PyProof.Rows L2
abbrev s_stays_last : Stmt := top 21
def spStays (K : PySem.W.Frag) : Sp := fun vs H Q _ => ∃ n s p : Nat, vs = [.int n, .int s, .int p] ∧ 1 ≤ s ∧ n ≤ 1000 ∧ p < n ∧
  ∀ H', Kp [] H H' → Q (.bl (decide (Jo.pos s n (n * s) = p))) H'
theorem mem_rgV {n p : Nat} (h : p < n) : V.int (p : Int) ∈ rgV 0 n := by
  unfold rgV
  exact List.mem_map.mpr ⟨p, List.mem_range.mpr (by omega), congrArg V.int (by omega)⟩
section
variable {P : Program} {w : World} {K : PySem.W.Frag} {mg : Str → Option Value} {base : Heap}
theorem sc_stays_last : FnScope ["many", "step", "place", "left", "gone"] ["many", "step", "place"] (defScope s_stays_last) := ⟨rfl, rfl, rfl, by decide +kernel, rfl, by decide +kernel, by decide +kernel⟩
theorem ok_stays_last {f : Addr} {fd : FuncData} (F : FnP K "stays_last" "stays_last" s_stays_last [] f fd) (T : Txt K mg) (G_behind_count : FnAt P w K mg base CX0 2 "behind_count" ["hands", "step"] [] (spBehind K)) :
    FnOk P w K mg base CX0 3 f fd ["many", "step", "place"] (spStays K) := by
  have S := sc_stays_last
  refine F.ok S (fun vs H Q E h => ?_) (fun cdv A outer s H vs Q E hr h => ?_)
  · obtain ⟨n, s, p, rfl, _⟩ := h
    rfl
  · obtain ⟨n, s', p, rfl, s1, n2, hp, k⟩ := h
    refine ⟨_, PSs.nox (pss_cons (ps_set (i := 3) S.nd rfl (Or.inl rfl) (pe_listRg rfl (by rfl) T.b_list (prg_1 (by rfl) T.b_range (pv 0)))) (pss_cons (ps_while PassesOwn.never (pt_cmpR op_gt (pe_callB call_len_seq (by rfl) T.b_len PySem.boot_len (pa_cons (pv 3) pa_nil)) pe_int (nomark _)) (pss_cons (ps_asg (pe_fn G_behind_count (hr.mono (by decide)) pass0 (pa_cons (pv 3) (pa_cons (pv 1) pa_nil))) (pg_tup rfl (pgs_cons (pg_name (i := 4) S.nd rfl (Or.inl rfl)) (pgs_cons (pg_name (i := 3) S.nd rfl (Or.inl rfl)) pgs_nil)))) (pss_one (ps_if (pt_cmpR op_eq (pv 4) (pv 2) (nomark _)) (pss_one (ps_ret pe_bl)) pss_nil)))) (pss_one (ps_ret pe_bl)))), ?_⟩
    refine ⟨_, rfl, (n : Int), rfl, .of_le (by decide) (by omega) (by decide) (by omega), fun q hq => ?_⟩
    refine ⟨fun m σ H' => ∃ (v : Option V) (l : Addr) (a r : List V), σ = [some (.int n), some (.int s'), some (.int p), some (.ref l), v] ∧ Kp [] H H' ∧ H' l = some (.lst r) ∧
        a ++ Jo.out (s' - 1) r = ordV s' n 0 ∧ V.int (p : Int) ∈ r ∧ m = r.length,
      ⟨_, none, q, [], _, rfl, Kp.new hq, upd_same, ordV_zero s' n, mem_rgV hp, rfl⟩, ?_⟩
    rintro m σ H2 ⟨v, l, a, r, rfl, k2, hl2, e2, hm, rfl⟩
    have len2 : a.length + r.length = n := by
      have e3 := congrArg List.length e2
      rw [List.length_append, Jo.out_length, ordV_len] at e3
      exact e3
    have hr0 : r ≠ [] := fun q => by rw [q] at hm; cases hm
    refine ⟨_, rfl, l, r, rfl, .inl (SqL.of hl2), _, _, rfl, rfl, _, rfl, ite2 (fun c => ?_) (fun c => ?_)⟩
    · have c1 : (1 : Int) < (r.length : Int) := of_decide_eq_true c
      refine ⟨_, fun _ _ h => h, ?_⟩
      refine ⟨_, rfl, _, rfl, l, s', r, rfl, SqL.of hl2, hr0, by omega, s1, fun x r' t q' H3 er k3 ht e3t hq' e3q => ?_⟩
      refine ⟨t, _, rfl, SqT.of e3t, rfl, _, _, rfl, _, _, rfl, rfl, ?_⟩
      have lr : r'.length + 1 = r.length := by
        rw [← Jo.rotL_length r ((s' - 1) % r.length), er]
        rfl
      have eo := Jo.out_step er
      have ex : (ordV s' n 0)[a.length]? = some x := by
        rw [← e2, eo, List.getElem?_append_right (Nat.le_refl _), Nat.sub_self]
        rfl
      rw [ordV_get s1 (show 0 < n by omega) (show a.length < n by omega), Nat.zero_add, Nat.mod_eq_of_lt (Jo.pos_lt _ _ _ (by omega))] at ex
      obtain rfl := Option.some.inj ex
      by_cases hx : Jo.pos s' n ((a.length + 1) * s') = p
      · refine ⟨_, rfl, _, rfl, eq_yes (vnat hx) rfl ⟨_, rfl, iteT ?_⟩⟩
        have e : decide (Jo.pos s' n (n * s') = p) = false := decide_eq_false fun q => by
          have en : n = n - 1 + 1 := by omega
          have := Jo.pos_inj (n := n) (c := a.length) (d := n - 1) s1 (by omega) (by omega) (by rw [hx, ← q, ← en])
          omega
        rw [e] at k
        exact k _ (k2.trans k3)
      · refine ⟨_, rfl, _, rfl, eq_no (vnat_ne hx) rfl ⟨_, rfl, iteF ?_⟩⟩
        refine ⟨r'.length, by omega, _, q', a ++ [.int ((Jo.pos s' n ((a.length + 1) * s') : Nat) : Int)], r', rfl, k2.trans k3, e3q, ?_, ?_, rfl⟩
        · rw [List.append_assoc, ← e2, eo]
          rfl
        · have h1 : V.int (p : Int) ∈ Jo.rotL r ((s' - 1) % r.length) := (Jo.rotL_perm _ _).mem_iff.mpr hm
          rw [er] at h1
          rcases List.mem_cons.mp h1 with h | h
          · exact absurd h.symm (vnat_ne hx)
          · exact h
    · have c1 : ¬ (1 : Int) < (r.length : Int) := fun q => c (decide_eq_true q)
      have h1 : V.int (p : Int) ∈ Jo.out (s' - 1) r := (Jo.out_perm _ _).mem_iff.mpr hm
      have l1 : (Jo.out (s' - 1) r).length = 1 := by
        have := List.length_pos_iff.mpr hr0
        rw [Jo.out_length]
        omega
      obtain ⟨y, ey⟩ := List.length_eq_one_iff.mp l1
      rw [ey] at h1 e2
      have ha : a.length = n - 1 := by
        have := List.length_pos_iff.mpr hr0
        omega
      have ex : (ordV s' n 0)[n - 1]? = some y := by
        rw [← e2, ← ha, List.getElem?_append_right (Nat.le_refl _), Nat.sub_self]
        rfl
      have en : n - 1 + 1 = n := by omega
      rw [ordV_get s1 (show 0 < n by omega) (show n - 1 < n by omega), Nat.zero_add, Nat.mod_eq_of_lt (Jo.pos_lt _ _ _ (by omega)), en] at ex
      have ep := List.mem_singleton.mp h1
      rw [← Option.some.inj ex] at ep
      have e : decide (Jo.pos s' n (n * s') = p) = true := decide_eq_true (by have := V.int.inj ep; omega)
      rw [e] at k
      exact k _ k2
end
end Lz
namespace Lz
open PySem PySem.Spec PyProof.Rows L2
abbrev s_least_step : Stmt := top 22
/-- the least step from 1 to m by which the place p stays last -/
def Least (n p m : Nat) (v : V) : Prop := (v = .non ∧ ∀ s, 1 ≤ s → s ≤ m → Jo.pos s n (n * s) ≠ p) ∨
  ∃ s : Nat, v = .int s ∧ 1 ≤ s ∧ s ≤ m ∧ Jo.pos s n (n * s) = p ∧ ∀ t, 1 ≤ t → t < s → Jo.pos t n (n * t) ≠ p
theorem Least.one {n p m : Nat} {u v : V} (hu : Least n p m u) (hv : Least n p m v) : u = v := by
  rcases hu with ⟨rfl, hu⟩ | ⟨s, rfl, s1, s2, s3, s4⟩
  · rcases hv with ⟨rfl, _⟩ | ⟨s, rfl, s1, s2, s3, s4⟩
    · rfl
    · exact absurd s3 (hu s s1 s2)
  · rcases hv with ⟨rfl, hv⟩ | ⟨t, rfl, t1, t2, t3, t4⟩
    · exact absurd s3 (hv s s1 s2)
    · have a1 : ¬ t < s := fun q => s4 t t1 q t3
      have a2 : ¬ s < t := fun q => t4 s s1 q s3
      have e : s = t := by omega
      rw [e]
def spLeast (K : PySem.W.Frag) : Sp := fun vs H Q E => ∃ x y z, vs = [x, y, z] ∧ ((OutN K H 1 60 x ∧ E (.ref (cNoMany K)) none H) ∨ ∃ n : Nat, x = .int n ∧ 1 ≤ n ∧ n ≤ 60 ∧
  ((OutN K H 0 ((n : Int) - 1) y ∧ E (.ref (cNoPlace K)) none H) ∨ ∃ p : Nat, y = .int p ∧ p < n ∧
  ((OutN K H 0 500 z ∧ E (.ref (cNoCount K)) none H) ∨ ∃ m : Nat, z = .int m ∧ m ≤ 500 ∧ ∀ v H', Least n p m v → Kp [] H H' → Q v H')))
section
variable {P : Program} {w : World} {K : PySem.W.Frag} {mg : Str → Option Value} {base : Heap}
theorem sc_least_step : FnScope ["many", "place", "most", "step"] ["many", "place", "most"] (defScope s_least_step) := ⟨rfl, rfl, rfl, by decide +kernel, rfl, by decide +kernel, by decide +kernel⟩
theorem ok_least_step {f : Addr} {fd : FuncData} (F : FnP K "least_step" "least_step" s_least_step [V.int (100)] f fd) (T : Txt K mg) (G_need_many : FnAt P w K mg base (CXr P w) 2 "need_many" ["many", "most"] [] (spNeed K (cNoMany K) 1)) (G_need_place : FnAt P w K mg base (CXr P w) 2 "need_place" ["many", "place"] [] (spPlace K)) (G_need_count : FnAt P w K mg base (CXr P w) 2 "need_count" ["least", "count", "most"] [] (spCount K)) (G_stays_last : FnAt P w K mg base CX0 3 "stays_last" ["many", "step", "place"] [] (spStays K)) :
    FnOk P w K mg base (CXr P w) 4 f fd ["many", "place", "most"] (spLeast K) := by
  have S := sc_least_step
  refine F.ok S (fun vs H Q E h => ?_) (fun cdv A outer s H vs Q E hr h => ?_)
  · obtain ⟨x, y, z, rfl, _⟩ := h
    rfl
  · obtain ⟨x, y, z, rfl, h⟩ := h
    refine ⟨_, (pss_cons (ps_expr (pe_fn G_need_many (hr.mono (by decide)) (passes_call (takes_of rfl rfl rfl rfl) (fun _ _ _ _ h => h)) (pa_cons (pv 0) (pa_cons (pe_gint T.c_MOST_HANDS) pa_nil)))) (pss_cons (ps_expr (pe_fn G_need_place (hr.mono (by decide)) (passes_call (takes_of rfl rfl rfl rfl) (fun _ _ _ _ h => h)) (pa_cons (pv 0) (pa_cons (pv 1) pa_nil)))) (pss_cons (ps_expr (pe_fn G_need_count (hr.mono (by decide)) (passes_call (takes_of rfl rfl rfl rfl) (fun _ _ _ _ h => h)) (pa_cons pe_int (pa_cons (pv 2) (pa_cons (pe_gint T.c_MOST_TRIED) pa_nil))))) (PSs.nox (pss_cons (ps_for PassesOwn.never rfl (pi_range2 (by rfl) T.b_range (pa_cons pe_int (pa_cons (pe_op op_add (pv 2) pe_int) pa_nil))) (pg_name (i := 3) S.nd rfl (Or.inl rfl)) (pss_one (ps_if (pt_val (pe_fn G_stays_last (hr.mono (by decide)) pass0 (pa_cons (pv 0) (pa_cons (pv 3) (pa_cons (pv 1) pa_nil))))) (pss_one (ps_ret (pv 3))) pss_nil))) (pss_one (ps_ret pe_non))))))), ?_⟩
    rcases h with ⟨o, k⟩ | ⟨n, rfl, n1, n2, h⟩
    · exact ⟨_, rfl, _, _, rfl, .inr ⟨o, k⟩⟩
    refine ⟨_, rfl, _, _, rfl, .inl ⟨n, rfl, by omega, by omega, ?_⟩⟩
    rcases h with ⟨o, k⟩ | ⟨p, rfl, p1, h⟩
    · exact ⟨_, rfl, _, rfl, _, _, rfl, .inr ⟨o, k⟩⟩
    refine ⟨_, rfl, _, rfl, _, _, rfl, .inl ⟨p, rfl, by omega, by omega, ?_⟩⟩
    rcases h with ⟨o, k⟩ | ⟨m, rfl, m2, k⟩
    · exact ⟨_, rfl, _, _, _, rfl, .inr ⟨o, k⟩⟩
    refine ⟨_, rfl, _, _, _, rfl, .inl ⟨m, rfl, by omega, by omega, ?_⟩⟩
    refine ⟨_, rfl, _, _, rfl, rfl, 1, (m : Int) + 1, rfl, ⟨by decide, by decide, by omega, by omega⟩, ?_⟩
    have em : ((m : Int) + 1 - 1).toNat = m := by omega
    rw [em]
    refine for_range (lo := 1) (n := m) (fun i σ H' => ∃ v, σ = [some (.int n), some (.int p), some (.int m), v] ∧ Kp [] H H' ∧ ∀ s, 1 ≤ s → s ≤ i → Jo.pos s n (n * s) ≠ p)
      ⟨_, rfl, Kp.refl H, fun s h1 h2 => absurd h1 (by omega)⟩ ?_ ?_
    · rintro i σ H1 hi ⟨v, rfl, k1, h1⟩
      have e1 : (1 : Int) + (i : Int) = ((i + 1 : Nat) : Int) := by omega
      rw [e1]
      refine ⟨_, rfl, _, rfl, _, rfl, n, i + 1, p, rfl, by omega, by omega, p1, fun H2 k2 => ⟨_, rfl, ite2 (fun c => ?_) (fun c => ?_)⟩⟩
      · exact ⟨_, rfl, k _ _ (.inr ⟨i + 1, rfl, by omega, by omega, of_decide_eq_true c, fun t t1 t2 => h1 t t1 (by omega)⟩) (k1.trans k2)⟩
      · refine ⟨_, rfl, k1.trans k2, fun s h2 h3 => ?_⟩
        by_cases e : s = i + 1
        · rw [e]
          exact fun q => c (decide_eq_true q)
        · exact h1 s h2 (by omega)
    · rintro σ H1 ⟨v, rfl, k1, h1⟩
      exact k _ _ (.inl ⟨rfl, h1⟩) k1
end
end Lz
namespace Lz
open PySem PySem.Spec PyProof.Rows L2
abbrev s__law_last : Stmt := top 32
def spLawLast : Sp := fun vs H Q _ => ∃ n s : Nat, vs = [.int n, .int s] ∧ 1 ≤ n ∧ n ≤ 1000 ∧ 1 ≤ s ∧ Q (.int ((Jo.pos s n (n * s) : Nat) : Int)) H
section
variable {P : Program} {w : World} {K : PySem.W.Frag} {mg : Str → Option Value} {base : Heap}
theorem sc__law_last : FnScope ["_law_many", "_law_step", "_law_place", "_law_size"] ["_law_many", "_law_step"] (defScope s__law_last) := ⟨rfl, rfl, rfl, by decide +kernel, rfl, by decide +kernel, by decide +kernel⟩
theorem ok__law_last {f : Addr} {fd : FuncData} (F : FnP K "_law_last" "_law_last" s__law_last [] f fd) (T : Txt K mg)  :
    FnOk P w K mg base CX0 1 f fd ["_law_many", "_law_step"] spLawLast := by
  have S := sc__law_last
  refine F.ok S (fun vs H Q E h => ?_) (fun cdv A outer s H vs Q E hr h => ?_)
  · obtain ⟨n, s, rfl, _⟩ := h
    rfl
  · obtain ⟨n, s', rfl, n1, n2, s1, k⟩ := h
    refine ⟨_, PSs.nox (pss_cons (ps_set (i := 2) S.nd rfl (Or.inl rfl) pe_int) (pss_cons (ps_for PassesOwn.never rfl (pi_range2 (by rfl) T.b_range (pa_cons pe_int (pa_cons (pe_op op_add (pv 0) pe_int) pa_nil))) (pg_name (i := 3) S.nd rfl (Or.inl rfl)) (pss_one (ps_set (i := 2) S.nd rfl (Or.inl rfl) (pe_op op_mod (pe_op op_add (pv 2) (pv 1)) (pv 3))))) (pss_one (ps_ret (pv 2))))), ?_⟩
    refine ⟨_, rfl, _, _, rfl, rfl, 2, (n : Int) + 1, rfl, ⟨by decide, by decide, by omega, by omega⟩, ?_⟩
    have em : ((n : Int) + 1 - 2).toNat = n - 1 := by omega
    rw [em]
    refine for_range (lo := 2) (n := n - 1) (fun i σ H' => ∃ v, σ = [some (.int n), some (.int s'), some (.int ((Jo.pos s' (i + 1) ((i + 1) * s') : Nat) : Int)), v] ∧ H' = H)
      ⟨none, ?_, rfl⟩ ?_ ?_
    · have e : Jo.pos s' 1 ((0 + 1) * s') = 0 := by
        have := Jo.pos_lt s' 1 ((0 + 1) * s') (by omega)
        omega
      show _ = [some (V.int n), some (V.int s'), some (V.int ((Jo.pos s' 1 ((0 + 1) * s') : Nat) : Int)), none]
      rw [e]
      rfl
    · rintro i σ H1 hi ⟨v, rfl, rfl⟩
      refine ⟨_, rfl, _, rfl, _, _, rfl, rfl, _, rfl, _, _, rfl, rfl, by omega, ?_⟩
      refine ⟨some (.int (2 + (i : Int))), ?_, rfl⟩
      have e : (((Jo.pos s' (i + 1) ((i + 1) * s') : Nat) : Int) + (s' : Int)) % (2 + (i : Int)) = ((Jo.pos s' (i + 1 + 1) ((i + 1 + 1) * s') : Nat) : Int) := by
        have e1 : (i + 1 + 1) * s' = (i + 1) * s' + s' := Nat.succ_mul _ _
        have e2 : 0 < (i + 1) * s' := Nat.mul_pos (by omega) (by omega)
        rw [e1, Jo.pos_high (n := i + 1) (N := (i + 1) * s' + s') (by omega), Nat.add_sub_cancel]
        have e3 : (2 : Int) + (i : Int) = ((i + 1 + 1 : Nat) : Int) := by omega
        rw [e3]
        rfl
      rw [← e]
      rfl
    · rintro σ H1 ⟨v, rfl, rfl⟩
      have e : n - 1 + 1 = n := by omega
      rw [e]
      exact ⟨_, rfl, k⟩
end
end Lz
namespace Lz
open PySem PySem.Spec PyProof.Rows L2
abbrev s__law_least : Stmt := top 33
def spLawLeast : Sp := fun vs H Q _ => ∃ n p m : Nat, vs = [.int n, .int p, .int m] ∧ 1 ≤ n ∧ n ≤ 60 ∧ m ≤ 500 ∧ ∀ v, Least n p m v → Q v H
section
variable {P : Program} {w : World} {K : PySem.W.Frag} {mg : Str → Option Value} {base : Heap}
theorem sc__law_least : FnScope ["_law_many", "_law_place", "_law_most", "_law_step"] ["_law_many", "_law_place", "_law_most"] (defScope s__law_least) := ⟨rfl, rfl, rfl, by decide +kernel, rfl, by decide +kernel, by decide +kernel⟩
theorem ok__law_least {f : Addr} {fd : FuncData} (F : FnP K "_law_least" "_law_least" s__law_least [] f fd) (T : Txt K mg) (G__law_last : FnAt P w K mg base CX0 1 "_law_last" ["_law_many", "_law_step"] [] spLawLast) :
    FnOk P w K mg base CX0 2 f fd ["_law_many", "_law_place", "_law_most"] spLawLeast := by
  have S := sc__law_least
  refine F.ok S (fun vs H Q E h => ?_) (fun cdv A outer s H vs Q E hr h => ?_)
  · obtain ⟨n, p, m, rfl, _⟩ := h
    rfl
  · obtain ⟨n, p, m, rfl, n1, n2, m2, k⟩ := h
    refine ⟨_, PSs.nox (pss_cons (ps_for PassesOwn.never rfl (pi_range2 (by rfl) T.b_range (pa_cons pe_int (pa_cons (pe_op op_add (pv 2) pe_int) pa_nil))) (pg_name (i := 3) S.nd rfl (Or.inl rfl)) (pss_one (ps_if (pt_cmpR op_eq (pe_fn G__law_last (hr.mono (by decide)) pass0 (pa_cons (pv 0) (pa_cons (pv 3) pa_nil))) (pv 1) (nomark _)) (pss_one (ps_ret (pv 3))) pss_nil))) (pss_one (ps_ret pe_non))), ?_⟩
    refine ⟨_, rfl, _, _, rfl, rfl, 1, (m : Int) + 1, rfl, ⟨by decide, by decide, by omega, by omega⟩, ?_⟩
    have em : ((m : Int) + 1 - 1).toNat = m := by omega
    rw [em]
    refine for_range (lo := 1) (n := m) (fun i σ H' => ∃ v, σ = [some (.int n), some (.int p), some (.int m), v] ∧ H' = H ∧ ∀ s, 1 ≤ s → s ≤ i → Jo.pos s n (n * s) ≠ p)
      ⟨_, rfl, rfl, fun s h1 h2 => absurd h1 (by omega)⟩ ?_ ?_
    · rintro i σ H1 hi ⟨v, rfl, rfl, h1⟩
      have e1 : (1 : Int) + (i : Int) = ((i + 1 : Nat) : Int) := by omega
      rw [e1]
      refine ⟨_, rfl, _, rfl, n, i + 1, rfl, n1, by omega, by omega, _, rfl, ?_⟩
      by_cases c : Jo.pos (i + 1) n (n * (i + 1)) = p
      · refine eq_yes (vnat c) rfl ⟨_, rfl, iteT ?_⟩
        exact ⟨_, rfl, k _ (.inr ⟨i + 1, rfl, by omega, by omega, c, fun t t1 t2 => h1 t t1 (by omega)⟩)⟩
      · refine eq_no (vnat_ne c) rfl ⟨_, rfl, iteF ?_⟩
        refine ⟨_, rfl, rfl, fun s h2 h3 => ?_⟩
        by_cases e : s = i + 1
        · rw [e]
          exact c
        · exact h1 s h2 (by omega)
    · rintro σ H1 ⟨v, rfl, rfl, h1⟩
      exact k _ (.inl ⟨rfl, h1⟩)
end
end Lz
namespace Lz
open PySem PySem.Spec PyProof.Rows L2
abbrev s__law_whole : Stmt := top 30
section
variable {P : Program} {w : World} {K : PySem.W.Frag} {mg : Str → Option Value} {base : Heap}
theorem sc__law_whole : FnScope ["_law_found"] ["_law_found"] (defScope s__law_whole) := ⟨rfl, rfl, rfl, by decide +kernel, rfl, by decide +kernel, by decide +kernel⟩
theorem ok__law_whole {f : Addr} {fd : FuncData} (F : FnP K "_law_whole" "_law_whole" s__law_whole [] f fd) (T : Txt K mg)  :
    FnOk P w K mg base CX0 1 f fd ["_law_found"] (spIsNum K) := by
  have S := sc__law_whole
  refine F.ok S (fun vs H Q E h => ?_) (fun cdv A outer s H vs Q E hr h => ?_)
  · obtain ⟨x, rfl, _⟩ := h
    rfl
  · obtain ⟨x, rfl, h⟩ := h
    refine ⟨_, PSs.nox (pss_one (ps_ret (pe_and (pe_callB call_isi (by rfl) T.b_isinstance (by decide +kernel) (pa_cons (pv 0) (pa_cons (pe_bltn (v := .ty "int") (by rfl) T.b_int (by decide +kernel) rfl) pa_nil))) (pe_one (pe_not (pe_callB call_isi (by rfl) T.b_isinstance (by decide +kernel) (pa_cons (pv 0) (pa_cons (pe_bltn (v := .ty "bool") (by rfl) T.b_bool (by decide +kernel) rfl) pa_nil)))))))), ?_⟩
    rcases h with ⟨i, rfl, k⟩ | ⟨⟨t, ht, hm⟩, k⟩
    · refine ⟨_, rfl, _, _, _, _, true, rfl, .ty _, .base (.int i), kit_ty (by decide +kernel), _, rfl, ?_⟩
      exact iteT ⟨_, rfl, _, _, _, _, false, rfl, .ty _, .base (.int i), kit_ty (by decide +kernel), _, rfl, k⟩
    · simp only [List.mem_cons, List.not_mem_nil, or_false] at hm
      rcases hm with rfl | rfl | rfl | rfl | rfl | rfl
      · exact ⟨_, rfl, _, _, _, _, false, rfl, .ty _, ht, kit_ty (by decide +kernel), _, rfl, iteF k⟩
      · refine ⟨_, rfl, _, _, _, _, true, rfl, .ty _, ht, kit_ty (by decide +kernel), _, rfl, iteT ?_⟩
        exact ⟨_, rfl, _, _, _, _, true, rfl, .ty _, ht, kit_ty (by decide +kernel), _, rfl, k⟩
      · exact ⟨_, rfl, _, _, _, _, false, rfl, .ty _, ht, kit_ty (by decide +kernel), _, rfl, iteF k⟩
      · exact ⟨_, rfl, _, _, _, _, false, rfl, .ty _, ht, kit_ty (by decide +kernel), _, rfl, iteF k⟩
      · exact ⟨_, rfl, _, _, _, _, false, rfl, .ty _, ht, kit_ty (by decide +kernel), _, rfl, iteF k⟩
      · exact ⟨_, rfl, _, _, _, _, false, rfl, .ty _, ht, kit_ty (by decide +kernel), _, rfl, iteF k⟩
end
end Lz
namespace Lz
open PySem PySem.Spec PyProof.Rows L2
abbrev s__law_out : Stmt := top 29
def spOut (K : PySem.W.Frag) : Sp := fun vs H Q _ => ∃ (p : Addr) (s : Int) (xs : List V), vs = [.ref p, .int s] ∧ SqL K H p xs ∧ 1 ≤ s ∧
  xs.all isS = true ∧ xs.length ≤ 1000 ∧
  ∀ (q : Addr) (H' : Hp), Kp [] H H' → H q = none → H' q = some (.lst (Jo.out (s.toNat - 1) xs)) → Q (.ref q) H'
/-- behind some rounds: who went stands at f, who is left at l -/
structure OutW (s : Int) (p f l : Addr) (xs : List V) (H : Hp) (m : Nat) (σ : L2.St) (H' : Hp) (v : Option V) (a r : List V) : Prop where
  sl : σ = [some (.ref p), some (.int s), some (.ref f), some (.ref l), v]
  kp : Kp [] H H'
  hf : H' f = some (.lst a)
  hl : H' l = some (.lst r)
  e : a ++ Jo.out (s.toNat - 1) r = Jo.out (s.toNat - 1) xs
  m : m = r.length
  fl : r.all isS = true
theorem outW_len {s : Int} {p f l : Addr} {xs : List V} {H H' : Hp} {m : Nat} {σ : L2.St} {v : Option V} {a r : List V} (h : OutW s p f l xs H m σ H' v a r) : a.length + r.length = xs.length := by
  have e := congrArg List.length h.e
  rw [List.length_append, Jo.out_length, Jo.out_length] at e
  exact e
section
variable {P : Program} {w : World} {K : PySem.W.Frag} {mg : Str → Option Value} {base : Heap}
theorem sc__law_out : FnScope ["_law_row", "_law_step", "_law_found", "_law_left", "_law_told_here"] ["_law_row", "_law_step"] (defScope s__law_out) := ⟨rfl, rfl, rfl, by decide +kernel, rfl, by decide +kernel, by decide +kernel⟩
theorem ok__law_out {f : Addr} {fd : FuncData} (F : FnP K "_law_out" "_law_out" s__law_out [] f fd) (T : Txt K mg)  :
    FnOk P w K mg base CX0 1 f fd ["_law_row", "_law_step"] (spOut K) := by
  have S := sc__law_out
  refine F.ok S (fun vs H Q E h => ?_) (fun cdv A outer s H vs Q E hr h => ?_)
  · obtain ⟨p, s, xs, rfl, _⟩ := h
    rfl
  · obtain ⟨p, s, xs, rfl, hS, hs, hfl, hlen, k⟩ := h
    refine ⟨_, PSs.nox (pss_cons (ps_set (i := 2) S.nd rfl (Or.inl rfl) (pe_lst pa_nil)) (pss_cons (ps_set (i := 3) S.nd rfl (Or.inl rfl) (pe_callTy call_list_of (by rfl) T.b_list (by decide +kernel) (pa_cons (pv 0) pa_nil))) (pss_cons (ps_while PassesOwn.never (pt_cmpR (op_neD hr.units) (pv 3) (pe_lst pa_nil) (nomark _)) (pss_cons (ps_set (i := 4) S.nd rfl (Or.inl rfl) (pv 1)) (C8.pss_cut (ps_if (pt_cmpR op_gt (pv 1) (pe_op op_mul pe_int (pe_callB call_len_seq (by rfl) T.b_len PySem.boot_len (pa_cons (pv 3) pa_nil))) (nomark _)) (pss_one (ps_set (i := 4) S.nd rfl (Or.inl rfl) (pe_op op_add (pe_op op_mod (pv 1) (pe_callB call_len_seq (by rfl) T.b_len PySem.boot_len (pa_cons (pv 3) pa_nil))) (pe_op op_mul pe_int (pe_callB call_len_seq (by rfl) T.b_len PySem.boot_len (pa_cons (pv 3) pa_nil)))))) pss_nil) (pss_cons (ps_while PassesOwn.never (pt_cmpR op_gt (pv 4) pe_int (nomark _)) (pss_cons (ps_expr (pe_bm PySem.F.plainAttrs_list PySem.F.slot_list_append PySem.F.type_list_append mt_append (pv 3) (pa_cons (pe_bm PySem.F.plainAttrs_list PySem.F.slot_list_pop PySem.F.type_list_pop mt_popAt (pv 3) (pa_cons pe_int pa_nil)) pa_nil))) (pss_one (ps_set (i := 4) S.nd rfl (Or.inl rfl) (pe_op op_sub (pv 4) pe_int))))) (pss_one (ps_expr (pe_bm PySem.F.plainAttrs_list PySem.F.slot_list_append PySem.F.type_list_append mt_append (pv 2) (pa_cons (pe_bm PySem.F.plainAttrs_list PySem.F.slot_list_pop PySem.F.type_list_pop mt_popAt (pv 3) (pa_cons pe_int pa_nil)) pa_nil)))))))) (pss_one (ps_ret (pv 2)))))), ?_⟩
    refine ⟨Nat.zero_le _, fun f hf => ?_⟩
    refine ⟨_, rfl, p, xs, rfl, .inl ((Kp.new (ws := []) hf).lst hS (by simp)), fun l hl => ?_⟩
    have nfl : f ≠ l := ne_of_none upd_same hl
    have hl0 : H l = none := (Kp.new (ws := []) (o := .lst []) hf).free hl (by simp)
    refine ⟨fun m σ H' => ∃ v a r, OutW s p f l xs H m σ H' v a r, ⟨_, none, [], xs, rfl, (Kp.new hf).trans (Kp.new hl), ?_, upd_same, rfl, rfl, hfl⟩, ?_⟩
    · rw [upd_ne nfl]
      exact upd_same
    rintro m σ H1 ⟨v, a, r, W⟩
    have wl := outW_len W
    obtain ⟨rfl, kp, h1, h2, e, rfl, fl⟩ := W
    refine ⟨_, rfl, Nat.zero_le _, fun z hz => ?_⟩
    have kz := kp.trans (Kp.new (o := .lst []) hz)
    have h1z : upd H1 z (.lst []) f = some (.lst a) := by rw [upd_ne (ne_of_none h1 hz)]; exact h1
    have h2z : upd H1 z (.lst []) l = some (.lst r) := by rw [upd_ne (ne_of_none h2 hz)]; exact h2
    refine neD_l (SqL.of h2z) (SqL.of upd_same) fl rfl ⟨_, rfl, ?_⟩
    generalize upd H1 z (.lst []) = H2 at kz h1z h2z ⊢
    by_cases hr0 : r = []
    · rw [decide_eq_true hr0]
      refine iteF ⟨_, rfl, ?_⟩
      refine k f H2 kz hf ?_
      rw [h1z, ← e, hr0, Jo.out_nil, List.append_nil]
    rw [decide_eq_false hr0]
    have hrl : 0 < r.length := List.length_pos_iff.mpr hr0
    refine iteT ⟨_, fun _ _ h => h, ?_⟩
    refine ⟨_, rfl, ?_⟩
    refine ⟨fun σ' H' => ∃ told : Int, σ' = [some (.ref p), some (.int s), some (.ref f), some (.ref l), some (.int told)] ∧ H' = H2 ∧ 1 ≤ told ∧
      (told.toNat - 1) % r.length = (s.toNat - 1) % r.length, ?_, ?_⟩
    · refine ⟨_, rfl, _, rfl, l, _, rfl, .inl (SqL.of h2z), _, _, rfl, rfl, .inl ⟨by decide, by decide⟩, _, _, rfl, rfl, _, rfl, ite2 (fun c => ?_) (fun c => ?_)⟩
      · refine ⟨_, rfl, _, rfl, l, _, rfl, .inl (SqL.of h2z), _, _, rfl, rfl, by show (0 : Int) < (r.length : Int); omega,
          _, rfl, l, _, rfl, .inl (SqL.of h2z), _, _, rfl, rfl, .inl ⟨by decide, by decide⟩, _, _, rfl, rfl, ?_⟩
        refine ⟨_, rfl, rfl, ?_, ?_⟩
        · have m0 := Int.emod_nonneg s (show (r.length : Int) ≠ 0 by omega)
          show 1 ≤ s % (r.length : Int) + 2 * (r.length : Int)
          omega
        · have e1 : (s % (r.length : Int) + 2 * (r.length : Int)).toNat = s.toNat % r.length + 2 * r.length := by
            rw [emod_nat r.length (by omega)]
            omega
          show ((s % (r.length : Int) + 2 * (r.length : Int)).toNat - 1) % r.length = _
          rw [e1, Jo.told_mod (by omega) hrl]
      · exact ⟨s, rfl, rfl, hs, rfl⟩
    rintro σ' H' ⟨told, rfl, rfl, ht1, ht2⟩
    refine ⟨fun m σ' H' => ∃ (told : Int) (c : List V), σ' = [some (.ref p), some (.int s), some (.ref f), some (.ref l), some (.int told)] ∧ m = told.toNat ∧ 1 ≤ told ∧
      c.length = r.length ∧ Jo.rotL c ((told.toNat - 1) % r.length) = Jo.rotL r ((s.toNat - 1) % r.length) ∧ Kp [] H H' ∧ H' f = some (.lst a) ∧ H' l = some (.lst c),
      ⟨_, told, r, rfl, rfl, ht1, rfl, by rw [ht2], kz, h1z, h2z⟩, ?_⟩
    rintro m σ' H3 ⟨told, c, rfl, rfl, ht1, hcl, hrot, k3, g1, g2⟩
    refine ⟨_, rfl, _, _, rfl, rfl, _, rfl, ite2 (fun ht => ?_) (fun ht => ?_)⟩
    · -- a hand more
      have ht : 1 < told := of_decide_eq_true ht
      obtain ⟨x, c', rfl⟩ : ∃ x c', c = x :: c' := by
        cases c with
        | nil =>
          rw [← hcl] at hrl
          exact absurd hrl (Nat.lt_irrefl 0)
        | cons x c' => exact ⟨x, c', rfl⟩
      have n1 : c'.length + 1 = r.length := hcl
      have n2 : ((x :: c').eraseIdx 0).length < sizeLine := szl c'.length (by omega)
      refine ⟨_, fun _ _ h => h, ?_⟩
      refine ⟨_, rfl, .inl ⟨rfl, _, SqL.of g2⟩, _, rfl, .inl ⟨rfl, _, SqL.of g2⟩, l, _, 0, 0, x, rfl, rfl, g2, by decide, by decide, seq0 x c', rfl, l, _, x, rfl, rfl, upd_same, n2, ?_⟩
      refine ⟨_, rfl, _, _, rfl, rfl, ?_⟩
      refine ⟨_, ?_, told - 1, c' ++ [x], rfl, rfl, by omega, ?_, ?_, ?_, ?_, ?_⟩
      · omega
      · rw [List.length_append]
        exact hcl
      · rw [← hrot, ← hcl]
        have e1 := Jo.rotL_more x c' ((told - 1).toNat - 1)
        have e2 : (told - 1).toNat - 1 + 1 = told.toNat - 1 := by omega
        rw [e2] at e1
        exact e1
      · exact (k3.late hl0).late hl0
      · rw [upd_ne nfl, upd_ne nfl]
        exact g1
      · exact upd_same
    · -- it is the told one
      have ht : ¬ 1 < told := of_decide_eq_false (by simpa using ht)
      have et : told = 1 := by omega
      subst et
      have e0 : ((1 : Int).toNat - 1) % r.length = 0 := Nat.zero_mod _
      rw [e0, Jo.rotL_zero] at hrot
      obtain ⟨x, c', rfl⟩ : ∃ x c', c = x :: c' := by
        cases c with
        | nil =>
          rw [← hcl] at hrl
          exact absurd hrl (Nat.lt_irrefl 0)
        | cons x c' => exact ⟨x, c', rfl⟩
      have n1 : c'.length + 1 = r.length := hcl
      refine ⟨_, rfl, .inl ⟨rfl, _, SqL.of g1⟩, _, rfl, .inl ⟨rfl, _, SqL.of g2⟩, l, _, 0, 0, x, rfl, rfl, g2, by decide, by decide, seq0 x c', rfl, f, a, x, rfl, rfl,
        by rw [upd_ne nfl]; exact g1, szl _ (by omega), ?_⟩
      have e3 := Jo.out_step (t := s.toNat - 1) hrot.symm
      refine ⟨c'.length, by omega, _, a ++ [x], c', rfl, (k3.late hl0).late hf, upd_same, ?_, ?_, rfl, ?_⟩
      · rw [upd_ne nfl.symm]
        exact upd_same
      · rw [List.append_assoc, ← e, e3]
        rfl
      · have q : (x :: c').all isS = true := by
          rw [List.all_eq_true] at fl ⊢
          intro y hy
          rw [hrot] at hy
          exact fl y ((Jo.rotL_perm r _).mem_iff.mp hy)
        rw [List.all_cons, Bool.and_eq_true] at q
        exact q.2
end
end Lz
namespace Lz
open PySem PySem.Spec PyProof.Rows L2
abbrev s__law_error : Stmt := top 31
def spErr (K : PySem.W.Frag) : Sp := fun vs H Q _ => ∃ (a : Addr) (x wd : Str), vs = [.ref a] ∧ (x, wd) ∈ errNames ∧ H a = some (ExA (.ref (He.ga K x)) a) ∧
  ∀ H', Kp [] H H' → Q (.str wd) H'
section
variable {P : Program} {w : World} {K : PySem.W.Frag} {mg : Str → Option Value} {base : Heap}
theorem sc__law_error : FnScope ["_law_e", "_law_words"] ["_law_e"] (defScope s__law_error) := ⟨rfl, rfl, rfl, by decide +kernel, rfl, by decide +kernel, by decide +kernel⟩
theorem ok__law_error {f : Addr} {fd : FuncData} (F : FnP K "_law_error" "_law_error" s__law_error [] f fd) (T : Txt K mg)  :
    FnOk P w K mg base CX0 1 f fd ["_law_e"] (spErr K) := by
  have S := sc__law_error
  refine F.ok S (fun vs H Q E h => ?_) (fun cdv A outer s H vs Q E hr h => ?_)
  · obtain ⟨a, x, wd, rfl, _⟩ := h
    rfl
  · obtain ⟨a, x, wd, rfl, hm, ha0, k⟩ := h
    refine ⟨_, PSs.nox (pss_cons (ps_set (i := 1) S.nd rfl (Or.inl rfl) (pe_lst pa_nil)) (pss_cons (ps_if (pt_val (pe_callB call_isX (by rfl) T.b_isinstance (by decide +kernel) (pa_cons (pv 0) (pa_cons (pe_gref T.g_NoRing) pa_nil)))) (pss_one (ps_expr (pe_bm PySem.F.plainAttrs_list PySem.F.slot_list_append PySem.F.type_list_append mt_append (pv 1) (pa_cons pe_str pa_nil)))) pss_nil) (pss_cons (ps_if (pt_val (pe_callB call_isX (by rfl) T.b_isinstance (by decide +kernel) (pa_cons (pv 0) (pa_cons (pe_gref T.g_NoMany) pa_nil)))) (pss_one (ps_expr (pe_bm PySem.F.plainAttrs_list PySem.F.slot_list_append PySem.F.type_list_append mt_append (pv 1) (pa_cons pe_str pa_nil)))) pss_nil) (pss_cons (ps_if (pt_val (pe_callB call_isX (by rfl) T.b_isinstance (by decide +kernel) (pa_cons (pv 0) (pa_cons (pe_gref T.g_NoStep) pa_nil)))) (pss_one (ps_expr (pe_bm PySem.F.plainAttrs_list PySem.F.slot_list_append PySem.F.type_list_append mt_append (pv 1) (pa_cons pe_str pa_nil)))) pss_nil) (pss_cons (ps_if (pt_val (pe_callB call_isX (by rfl) T.b_isinstance (by decide +kernel) (pa_cons (pv 0) (pa_cons (pe_gref T.g_NoPlace) pa_nil)))) (pss_one (ps_expr (pe_bm PySem.F.plainAttrs_list PySem.F.slot_list_append PySem.F.type_list_append mt_append (pv 1) (pa_cons pe_str pa_nil)))) pss_nil) (pss_cons (ps_if (pt_val (pe_callB call_isX (by rfl) T.b_isinstance (by decide +kernel) (pa_cons (pv 0) (pa_cons (pe_gref T.g_NoCount) pa_nil)))) (pss_one (ps_expr (pe_bm PySem.F.plainAttrs_list PySem.F.slot_list_append PySem.F.type_list_append mt_append (pv 1) (pa_cons pe_str pa_nil)))) pss_nil) (pss_cons (ps_if (pt_val (pe_callB call_isX (by rfl) T.b_isinstance (by decide +kernel) (pa_cons (pv 0) (pa_cons (pe_gref T.g_NoHand) pa_nil)))) (pss_one (ps_expr (pe_bm PySem.F.plainAttrs_list PySem.F.slot_list_append PySem.F.type_list_append mt_append (pv 1) (pa_cons pe_str pa_nil)))) pss_nil) (pss_cons (ps_if (pt_val (pe_callB call_isX (by rfl) T.b_isinstance (by decide +kernel) (pa_cons (pv 0) (pa_cons (pe_gref T.g_TwiceTold) pa_nil)))) (pss_one (ps_expr (pe_bm PySem.F.plainAttrs_list PySem.F.slot_list_append PySem.F.type_list_append mt_append (pv 1) (pa_cons pe_str pa_nil)))) pss_nil) (pss_cons (ps_if (pt_val (pe_callB call_isX (by rfl) T.b_isinstance (by decide +kernel) (pa_cons (pv 0) (pa_cons (pe_gref T.g_TooMany) pa_nil)))) (pss_one (ps_expr (pe_bm PySem.F.plainAttrs_list PySem.F.slot_list_append PySem.F.type_list_append mt_append (pv 1) (pa_cons pe_str pa_nil)))) pss_nil) (pss_cons (ps_if (PW.pt (pw_or (pt_cmpR op_ne (pe_callB call_len_seq (by rfl) T.b_len PySem.boot_len (pa_cons (pv 1) pa_nil)) pe_int (nomark _)) (pw_or1 (pt_not (pt_val (pe_callB call_isX (by rfl) T.b_isinstance (by decide +kernel) (pa_cons (pv 0) (pa_cons (pe_bltn (v := .ty "ValueError") (by rfl) T.b_ValueError (by decide +kernel) rfl) pa_nil)))))))) (pss_one (ps_ret pe_str)) pss_nil) (pss_one (ps_ret (pe_ix ix_list (pv 1) pe_int (fun _ _ => rfl)))))))))))))), ?_⟩
    refine ⟨Nat.zero_le _, fun l hl => ?_⟩
    have nal : a ≠ l := ne_of_none ha0 hl
    have ha : upd H l (.lst []) a = some (ExA (.ref (He.ga K x)) a) := by rw [upd_ne nal]; exact ha0
    have h0 : upd H l (.lst []) l = some (.lst []) := upd_same
    simp only [errNames, List.mem_cons, List.not_mem_nil, or_false, Prod.mk.injEq] at hm
    rcases hm with ⟨rfl, rfl⟩ | ⟨rfl, rfl⟩ | ⟨rfl, rfl⟩ | ⟨rfl, rfl⟩ | ⟨rfl, rfl⟩ | ⟨rfl, rfl⟩ | ⟨rfl, rfl⟩ | ⟨rfl, rfl⟩
    · have hx : ("NoRing" : Str) ∈ errNames.map (·.1) := by decide
      have hC := T.err.c _ hx
      have kNoRing : PySem.W.kitOne K (.ref (He.ga K "NoRing")) (.ref (He.ga K "NoRing")) = some true := (T.err.k _ hx "NoRing" (by decide)).trans (by decide)
      have kNoMany : PySem.W.kitOne K (.ref (He.ga K "NoRing")) (.ref (He.ga K "NoMany")) = some false := (T.err.k _ hx "NoMany" (by decide)).trans (by decide)
      have kNoStep : PySem.W.kitOne K (.ref (He.ga K "NoRing")) (.ref (He.ga K "NoStep")) = some false := (T.err.k _ hx "NoStep" (by decide)).trans (by decide)
      have kNoPlace : PySem.W.kitOne K (.ref (He.ga K "NoRing")) (.ref (He.ga K "NoPlace")) = some false := (T.err.k _ hx "NoPlace" (by decide)).trans (by decide)
      have kNoCount : PySem.W.kitOne K (.ref (He.ga K "NoRing")) (.ref (He.ga K "NoCount")) = some false := (T.err.k _ hx "NoCount" (by decide)).trans (by decide)
      have kNoHand : PySem.W.kitOne K (.ref (He.ga K "NoRing")) (.ref (He.ga K "NoHand")) = some false := (T.err.k _ hx "NoHand" (by decide)).trans (by decide)
      have kTwiceTold : PySem.W.kitOne K (.ref (He.ga K "NoRing")) (.ref (He.ga K "TwiceTold")) = some false := (T.err.k _ hx "TwiceTold" (by decide)).trans (by decide)
      have kTooMany : PySem.W.kitOne K (.ref (He.ga K "NoRing")) (.ref (He.ga K "TooMany")) = some false := (T.err.k _ hx "TooMany" (by decide)).trans (by decide)
      refine ⟨_, rfl, a, _, _, _, _, rfl, ha, hC, (fun _ z => z), kNoRing, _, rfl, ?_⟩
      refine iteT ⟨_, rfl, .inl ⟨rfl, _, SqL.of h0⟩, l, _, _, rfl, rfl, h0, szl 0 (by decide), ?_⟩
      have ha1 : upd (upd H l (.lst [])) l (.lst ([] ++ [.str "ring"])) a = some (ExA (.ref (He.ga K "NoRing")) a) := by rw [upd_ne nal]; exact ha
      refine ⟨_, rfl, a, _, _, _, _, rfl, ha1, hC, (fun _ z => z), kNoMany, _, rfl, iteF ?_⟩
      refine ⟨_, rfl, a, _, _, _, _, rfl, ha1, hC, (fun _ z => z), kNoStep, _, rfl, iteF ?_⟩
      refine ⟨_, rfl, a, _, _, _, _, rfl, ha1, hC, (fun _ z => z), kNoPlace, _, rfl, iteF ?_⟩
      refine ⟨_, rfl, a, _, _, _, _, rfl, ha1, hC, (fun _ z => z), kNoCount, _, rfl, iteF ?_⟩
      refine ⟨_, rfl, a, _, _, _, _, rfl, ha1, hC, (fun _ z => z), kNoHand, _, rfl, iteF ?_⟩
      refine ⟨_, rfl, a, _, _, _, _, rfl, ha1, hC, (fun _ z => z), kTwiceTold, _, rfl, iteF ?_⟩
      refine ⟨_, rfl, a, _, _, _, _, rfl, ha1, hC, (fun _ z => z), kTooMany, _, rfl, iteF ?_⟩
      refine ⟨_, rfl, l, [.str "ring"], rfl, .inl (SqL.of upd_same), ?_⟩
      refine c_ (ne_same (x := .int 1) rfl ?_)
      refine ⟨_, rfl, iteF ?_⟩
      refine ⟨_, rfl, a, _, _, _, _, rfl, ha1, hC, (fun _ z => z), T.err.v _ hx, _, rfl, iteF ?_⟩
      exact ⟨_, rfl, l, _, _, _, rfl, rfl, SqL.of upd_same, rfl, k _ ((Kp.new hl).late hl)⟩
    · have hx : ("NoMany" : Str) ∈ errNames.map (·.1) := by decide
      have hC := T.err.c _ hx
      have kNoRing : PySem.W.kitOne K (.ref (He.ga K "NoMany")) (.ref (He.ga K "NoRing")) = some false := (T.err.k _ hx "NoRing" (by decide)).trans (by decide)
      have kNoMany : PySem.W.kitOne K (.ref (He.ga K "NoMany")) (.ref (He.ga K "NoMany")) = some true := (T.err.k _ hx "NoMany" (by decide)).trans (by decide)
      have kNoStep : PySem.W.kitOne K (.ref (He.ga K "NoMany")) (.ref (He.ga K "NoStep")) = some false := (T.err.k _ hx "NoStep" (by decide)).trans (by decide)
      have kNoPlace : PySem.W.kitOne K (.ref (He.ga K "NoMany")) (.ref (He.ga K "NoPlace")) = some false := (T.err.k _ hx "NoPlace" (by decide)).trans (by decide)
      have kNoCount : PySem.W.kitOne K (.ref (He.ga K "NoMany")) (.ref (He.ga K "NoCount")) = some false := (T.err.k _ hx "NoCount" (by decide)).trans (by decide)
      have kNoHand : PySem.W.kitOne K (.ref (He.ga K "NoMany")) (.ref (He.ga K "NoHand")) = some false := (T.err.k _ hx "NoHand" (by decide)).trans (by decide)
      have kTwiceTold : PySem.W.kitOne K (.ref (He.ga K "NoMany")) (.ref (He.ga K "TwiceTold")) = some false := (T.err.k _ hx "TwiceTold" (by decide)).trans (by decide)
      have kTooMany : PySem.W.kitOne K (.ref (He.ga K "NoMany")) (.ref (He.ga K "TooMany")) = some false := (T.err.k _ hx "TooMany" (by decide)).trans (by decide)
      refine ⟨_, rfl, a, _, _, _, _, rfl, ha, hC, (fun _ z => z), kNoRing, _, rfl, iteF ?_⟩
      refine ⟨_, rfl, a, _, _, _, _, rfl, ha, hC, (fun _ z => z), kNoMany, _, rfl, ?_⟩
      refine iteT ⟨_, rfl, .inl ⟨rfl, _, SqL.of h0⟩, l, _, _, rfl, rfl, h0, szl 0 (by decide), ?_⟩
      have ha1 : upd (upd H l (.lst [])) l (.lst ([] ++ [.str "many"])) a = some (ExA (.ref (He.ga K "NoMany")) a) := by rw [upd_ne nal]; exact ha
      refine ⟨_, rfl, a, _, _, _, _, rfl, ha1, hC, (fun _ z => z), kNoStep, _, rfl, iteF ?_⟩
      refine ⟨_, rfl, a, _, _, _, _, rfl, ha1, hC, (fun _ z => z), kNoPlace, _, rfl, iteF ?_⟩
      refine ⟨_, rfl, a, _, _, _, _, rfl, ha1, hC, (fun _ z => z), kNoCount, _, rfl, iteF ?_⟩
      refine ⟨_, rfl, a, _, _, _, _, rfl, ha1, hC, (fun _ z => z), kNoHand, _, rfl, iteF ?_⟩
      refine ⟨_, rfl, a, _, _, _, _, rfl, ha1, hC, (fun _ z => z), kTwiceTold, _, rfl, iteF ?_⟩
      refine ⟨_, rfl, a, _, _, _, _, rfl, ha1, hC, (fun _ z => z), kTooMany, _, rfl, iteF ?_⟩
      refine ⟨_, rfl, l, [.str "many"], rfl, .inl (SqL.of upd_same), ?_⟩
      refine c_ (ne_same (x := .int 1) rfl ?_)
      refine ⟨_, rfl, iteF ?_⟩
      refine ⟨_, rfl, a, _, _, _, _, rfl, ha1, hC, (fun _ z => z), T.err.v _ hx, _, rfl, iteF ?_⟩
      exact ⟨_, rfl, l, _, _, _, rfl, rfl, SqL.of upd_same, rfl, k _ ((Kp.new hl).late hl)⟩
    · have hx : ("NoStep" : Str) ∈ errNames.map (·.1) := by decide
      have hC := T.err.c _ hx
      have kNoRing : PySem.W.kitOne K (.ref (He.ga K "NoStep")) (.ref (He.ga K "NoRing")) = some false := (T.err.k _ hx "NoRing" (by decide)).trans (by decide)
      have kNoMany : PySem.W.kitOne K (.ref (He.ga K "NoStep")) (.ref (He.ga K "NoMany")) = some false := (T.err.k _ hx "NoMany" (by decide)).trans (by decide)
      have kNoStep : PySem.W.kitOne K (.ref (He.ga K "NoStep")) (.ref (He.ga K "NoStep")) = some true := (T.err.k _ hx "NoStep" (by decide)).trans (by decide)
      have kNoPlace : PySem.W.kitOne K (.ref (He.ga K "NoStep")) (.ref (He.ga K "NoPlace")) = some false := (T.err.k _ hx "NoPlace" (by decide)).trans (by decide)
      have kNoCount : PySem.W.kitOne K (.ref (He.ga K "NoStep")) (.ref (He.ga K "NoCount")) = some false := (T.err.k _ hx "NoCount" (by decide)).trans (by decide)
      have kNoHand : PySem.W.kitOne K (.ref (He.ga K "NoStep")) (.ref (He.ga K "NoHand")) = some false := (T.err.k _ hx "NoHand" (by decide)).trans (by decide)
      have kTwiceTold : PySem.W.kitOne K (.ref (He.ga K "NoStep")) (.ref (He.ga K "TwiceTold")) = some false := (T.err.k _ hx "TwiceTold" (by decide)).trans (by decide)
      have kTooMany : PySem.W.kitOne K (.ref (He.ga K "NoStep")) (.ref (He.ga K "TooMany")) = some false := (T.err.k _ hx "TooMany" (by decide)).trans (by decide)
      refine ⟨_, rfl, a, _, _, _, _, rfl, ha, hC, (fun _ z => z), kNoRing, _, rfl, iteF ?_⟩
      refine ⟨_, rfl, a, _, _, _, _, rfl, ha, hC, (fun _ z => z), kNoMany, _, rfl, iteF ?_⟩
      refine ⟨_, rfl, a, _, _, _, _, rfl, ha, hC, (fun _ z => z), kNoStep, _, rfl, ?_⟩
      refine iteT ⟨_, rfl, .inl ⟨rfl, _, SqL.of h0⟩, l, _, _, rfl, rfl, h0, szl 0 (by decide), ?_⟩
      have ha1 : upd (upd H l (.lst [])) l (.lst ([] ++ [.str "step"])) a = some (ExA (.ref (He.ga K "NoStep")) a) := by rw [upd_ne nal]; exact ha
      refine ⟨_, rfl, a, _, _, _, _, rfl, ha1, hC, (fun _ z => z), kNoPlace, _, rfl, iteF ?_⟩
      refine ⟨_, rfl, a, _, _, _, _, rfl, ha1, hC, (fun _ z => z), kNoCount, _, rfl, iteF ?_⟩
      refine ⟨_, rfl, a, _, _, _, _, rfl, ha1, hC, (fun _ z => z), kNoHand, _, rfl, iteF ?_⟩
      refine ⟨_, rfl, a, _, _, _, _, rfl, ha1, hC, (fun _ z => z), kTwiceTold, _, rfl, iteF ?_⟩
      refine ⟨_, rfl, a, _, _, _, _, rfl, ha1, hC, (fun _ z => z), kTooMany, _, rfl, iteF ?_⟩
      refine ⟨_, rfl, l, [.str "step"], rfl, .inl (SqL.of upd_same), ?_⟩
      refine c_ (ne_same (x := .int 1) rfl ?_)
      refine ⟨_, rfl, iteF ?_⟩
      refine ⟨_, rfl, a, _, _, _, _, rfl, ha1, hC, (fun _ z => z), T.err.v _ hx, _, rfl, iteF ?_⟩
      exact ⟨_, rfl, l, _, _, _, rfl, rfl, SqL.of upd_same, rfl, k _ ((Kp.new hl).late hl)⟩
    · have hx : ("NoPlace" : Str) ∈ errNames.map (·.1) := by decide
      have hC := T.err.c _ hx
      have kNoRing : PySem.W.kitOne K (.ref (He.ga K "NoPlace")) (.ref (He.ga K "NoRing")) = some false := (T.err.k _ hx "NoRing" (by decide)).trans (by decide)
      have kNoMany : PySem.W.kitOne K (.ref (He.ga K "NoPlace")) (.ref (He.ga K "NoMany")) = some false := (T.err.k _ hx "NoMany" (by decide)).trans (by decide)
      have kNoStep : PySem.W.kitOne K (.ref (He.ga K "NoPlace")) (.ref (He.ga K "NoStep")) = some false := (T.err.k _ hx "NoStep" (by decide)).trans (by decide)
      have kNoPlace : PySem.W.kitOne K (.ref (He.ga K "NoPlace")) (.ref (He.ga K "NoPlace")) = some true := (T.err.k _ hx "NoPlace" (by decide)).trans (by decide)
      have kNoCount : PySem.W.kitOne K (.ref (He.ga K "NoPlace")) (.ref (He.ga K "NoCount")) = some false := (T.err.k _ hx "NoCount" (by decide)).trans (by decide)
      have kNoHand : PySem.W.kitOne K (.ref (He.ga K "NoPlace")) (.ref (He.ga K "NoHand")) = some false := (T.err.k _ hx "NoHand" (by decide)).trans (by decide)
      have kTwiceTold : PySem.W.kitOne K (.ref (He.ga K "NoPlace")) (.ref (He.ga K "TwiceTold")) = some false := (T.err.k _ hx "TwiceTold" (by decide)).trans (by decide)
      have kTooMany : PySem.W.kitOne K (.ref (He.ga K "NoPlace")) (.ref (He.ga K "TooMany")) = some false := (T.err.k _ hx "TooMany" (by decide)).trans (by decide)
      refine ⟨_, rfl, a, _, _, _, _, rfl, ha, hC, (fun _ z => z), kNoRing, _, rfl, iteF ?_⟩
      refine ⟨_, rfl, a, _, _, _, _, rfl, ha, hC, (fun _ z => z), kNoMany, _, rfl, iteF ?_⟩
      refine ⟨_, rfl, a, _, _, _, _, rfl, ha, hC, (fun _ z => z), kNoStep, _, rfl, iteF ?_⟩
      refine ⟨_, rfl, a, _, _, _, _, rfl, ha, hC, (fun _ z => z), kNoPlace, _, rfl, ?_⟩
      refine iteT ⟨_, rfl, .inl ⟨rfl, _, SqL.of h0⟩, l, _, _, rfl, rfl, h0, szl 0 (by decide), ?_⟩
      have ha1 : upd (upd H l (.lst [])) l (.lst ([] ++ [.str "place"])) a = some (ExA (.ref (He.ga K "NoPlace")) a) := by rw [upd_ne nal]; exact ha
      refine ⟨_, rfl, a, _, _, _, _, rfl, ha1, hC, (fun _ z => z), kNoCount, _, rfl, iteF ?_⟩
      refine ⟨_, rfl, a, _, _, _, _, rfl, ha1, hC, (fun _ z => z), kNoHand, _, rfl, iteF ?_⟩
      refine ⟨_, rfl, a, _, _, _, _, rfl, ha1, hC, (fun _ z => z), kTwiceTold, _, rfl, iteF ?_⟩
      refine ⟨_, rfl, a, _, _, _, _, rfl, ha1, hC, (fun _ z => z), kTooMany, _, rfl, iteF ?_⟩
      refine ⟨_, rfl, l, [.str "place"], rfl, .inl (SqL.of upd_same), ?_⟩
      refine c_ (ne_same (x := .int 1) rfl ?_)
      refine ⟨_, rfl, iteF ?_⟩
      refine ⟨_, rfl, a, _, _, _, _, rfl, ha1, hC, (fun _ z => z), T.err.v _ hx, _, rfl, iteF ?_⟩
      exact ⟨_, rfl, l, _, _, _, rfl, rfl, SqL.of upd_same, rfl, k _ ((Kp.new hl).late hl)⟩
    · have hx : ("NoCount" : Str) ∈ errNames.map (·.1) := by decide
      have hC := T.err.c _ hx
      have kNoRing : PySem.W.kitOne K (.ref (He.ga K "NoCount")) (.ref (He.ga K "NoRing")) = some false := (T.err.k _ hx "NoRing" (by decide)).trans (by decide)
      have kNoMany : PySem.W.kitOne K (.ref (He.ga K "NoCount")) (.ref (He.ga K "NoMany")) = some false := (T.err.k _ hx "NoMany" (by decide)).trans (by decide)
      have kNoStep : PySem.W.kitOne K (.ref (He.ga K "NoCount")) (.ref (He.ga K "NoStep")) = some false := (T.err.k _ hx "NoStep" (by decide)).trans (by decide)
      have kNoPlace : PySem.W.kitOne K (.ref (He.ga K "NoCount")) (.ref (He.ga K "NoPlace")) = some false := (T.err.k _ hx "NoPlace" (by decide)).trans (by decide)
      have kNoCount : PySem.W.kitOne K (.ref (He.ga K "NoCount")) (.ref (He.ga K "NoCount")) = some true := (T.err.k _ hx "NoCount" (by decide)).trans (by decide)
      have kNoHand : PySem.W.kitOne K (.ref (He.ga K "NoCount")) (.ref (He.ga K "NoHand")) = some false := (T.err.k _ hx "NoHand" (by decide)).trans (by decide)
      have kTwiceTold : PySem.W.kitOne K (.ref (He.ga K "NoCount")) (.ref (He.ga K "TwiceTold")) = some false := (T.err.k _ hx "TwiceTold" (by decide)).trans (by decide)
      have kTooMany : PySem.W.kitOne K (.ref (He.ga K "NoCount")) (.ref (He.ga K "TooMany")) = some false := (T.err.k _ hx "TooMany" (by decide)).trans (by decide)
      refine ⟨_, rfl, a, _, _, _, _, rfl, ha, hC, (fun _ z => z), kNoRing, _, rfl, iteF ?_⟩
      refine ⟨_, rfl, a, _, _, _, _, rfl, ha, hC, (fun _ z => z), kNoMany, _, rfl, iteF ?_⟩
      refine ⟨_, rfl, a, _, _, _, _, rfl, ha, hC, (fun _ z => z), kNoStep, _, rfl, iteF ?_⟩
      refine ⟨_, rfl, a, _, _, _, _, rfl, ha, hC, (fun _ z => z), kNoPlace, _, rfl, iteF ?_⟩
      refine ⟨_, rfl, a, _, _, _, _, rfl, ha, hC, (fun _ z => z), kNoCount, _, rfl, ?_⟩
      refine iteT ⟨_, rfl, .inl ⟨rfl, _, SqL.of h0⟩, l, _, _, rfl, rfl, h0, szl 0 (by decide), ?_⟩
      have ha1 : upd (upd H l (.lst [])) l (.lst ([] ++ [.str "count"])) a = some (ExA (.ref (He.ga K "NoCount")) a) := by rw [upd_ne nal]; exact ha
      refine ⟨_, rfl, a, _, _, _, _, rfl, ha1, hC, (fun _ z => z), kNoHand, _, rfl, iteF ?_⟩
      refine ⟨_, rfl, a, _, _, _, _, rfl, ha1, hC, (fun _ z => z), kTwiceTold, _, rfl, iteF ?_⟩
      refine ⟨_, rfl, a, _, _, _, _, rfl, ha1, hC, (fun _ z => z), kTooMany, _, rfl, iteF ?_⟩
      refine ⟨_, rfl, l, [.str "count"], rfl, .inl (SqL.of upd_same), ?_⟩
      refine c_ (ne_same (x := .int 1) rfl ?_)
      refine ⟨_, rfl, iteF ?_⟩
      refine ⟨_, rfl, a, _, _, _, _, rfl, ha1, hC, (fun _ z => z), T.err.v _ hx, _, rfl, iteF ?_⟩
      exact ⟨_, rfl, l, _, _, _, rfl, rfl, SqL.of upd_same, rfl, k _ ((Kp.new hl).late hl)⟩
    · have hx : ("NoHand" : Str) ∈ errNames.map (·.1) := by decide
      have hC := T.err.c _ hx
      have kNoRing : PySem.W.kitOne K (.ref (He.ga K "NoHand")) (.ref (He.ga K "NoRing")) = some false := (T.err.k _ hx "NoRing" (by decide)).trans (by decide)
      have kNoMany : PySem.W.kitOne K (.ref (He.ga K "NoHand")) (.ref (He.ga K "NoMany")) = some false := (T.err.k _ hx "NoMany" (by decide)).trans (by decide)
      have kNoStep : PySem.W.kitOne K (.ref (He.ga K "NoHand")) (.ref (He.ga K "NoStep")) = some false := (T.err.k _ hx "NoStep" (by decide)).trans (by decide)
      have kNoPlace : PySem.W.kitOne K (.ref (He.ga K "NoHand")) (.ref (He.ga K "NoPlace")) = some false := (T.err.k _ hx "NoPlace" (by decide)).trans (by decide)
      have kNoCount : PySem.W.kitOne K (.ref (He.ga K "NoHand")) (.ref (He.ga K "NoCount")) = some false := (T.err.k _ hx "NoCount" (by decide)).trans (by decide)
      have kNoHand : PySem.W.kitOne K (.ref (He.ga K "NoHand")) (.ref (He.ga K "NoHand")) = some true := (T.err.k _ hx "NoHand" (by decide)).trans (by decide)
      have kTwiceTold : PySem.W.kitOne K (.ref (He.ga K "NoHand")) (.ref (He.ga K "TwiceTold")) = some false := (T.err.k _ hx "TwiceTold" (by decide)).trans (by decide)
      have kTooMany : PySem.W.kitOne K (.ref (He.ga K "NoHand")) (.ref (He.ga K "TooMany")) = some false := (T.err.k _ hx "TooMany" (by decide)).trans (by decide)
      refine ⟨_, rfl, a, _, _, _, _, rfl, ha, hC, (fun _ z => z), kNoRing, _, rfl, iteF ?_⟩
      refine ⟨_, rfl, a, _, _, _, _, rfl, ha, hC, (fun _ z => z), kNoMany, _, rfl, iteF ?_⟩
      refine ⟨_, rfl, a, _, _, _, _, rfl, ha, hC, (fun _ z => z), kNoStep, _, rfl, iteF ?_⟩
      refine ⟨_, rfl, a, _, _, _, _, rfl, ha, hC, (fun _ z => z), kNoPlace, _, rfl, iteF ?_⟩
      refine ⟨_, rfl, a, _, _, _, _, rfl, ha, hC, (fun _ z => z), kNoCount, _, rfl, iteF ?_⟩
      refine ⟨_, rfl, a, _, _, _, _, rfl, ha, hC, (fun _ z => z), kNoHand, _, rfl, ?_⟩
      refine iteT ⟨_, rfl, .inl ⟨rfl, _, SqL.of h0⟩, l, _, _, rfl, rfl, h0, szl 0 (by decide), ?_⟩
      have ha1 : upd (upd H l (.lst [])) l (.lst ([] ++ [.str "hand"])) a = some (ExA (.ref (He.ga K "NoHand")) a) := by rw [upd_ne nal]; exact ha
      refine ⟨_, rfl, a, _, _, _, _, rfl, ha1, hC, (fun _ z => z), kTwiceTold, _, rfl, iteF ?_⟩
      refine ⟨_, rfl, a, _, _, _, _, rfl, ha1, hC, (fun _ z => z), kTooMany, _, rfl, iteF ?_⟩
      refine ⟨_, rfl, l, [.str "hand"], rfl, .inl (SqL.of upd_same), ?_⟩
      refine c_ (ne_same (x := .int 1) rfl ?_)
      refine ⟨_, rfl, iteF ?_⟩
      refine ⟨_, rfl, a, _, _, _, _, rfl, ha1, hC, (fun _ z => z), T.err.v _ hx, _, rfl, iteF ?_⟩
      exact ⟨_, rfl, l, _, _, _, rfl, rfl, SqL.of upd_same, rfl, k _ ((Kp.new hl).late hl)⟩
    · have hx : ("TwiceTold" : Str) ∈ errNames.map (·.1) := by decide
      have hC := T.err.c _ hx
      have kNoRing : PySem.W.kitOne K (.ref (He.ga K "TwiceTold")) (.ref (He.ga K "NoRing")) = some false := (T.err.k _ hx "NoRing" (by decide)).trans (by decide)
      have kNoMany : PySem.W.kitOne K (.ref (He.ga K "TwiceTold")) (.ref (He.ga K "NoMany")) = some false := (T.err.k _ hx "NoMany" (by decide)).trans (by decide)
      have kNoStep : PySem.W.kitOne K (.ref (He.ga K "TwiceTold")) (.ref (He.ga K "NoStep")) = some false := (T.err.k _ hx "NoStep" (by decide)).trans (by decide)
      have kNoPlace : PySem.W.kitOne K (.ref (He.ga K "TwiceTold")) (.ref (He.ga K "NoPlace")) = some false := (T.err.k _ hx "NoPlace" (by decide)).trans (by decide)
      have kNoCount : PySem.W.kitOne K (.ref (He.ga K "TwiceTold")) (.ref (He.ga K "NoCount")) = some false := (T.err.k _ hx "NoCount" (by decide)).trans (by decide)
      have kNoHand : PySem.W.kitOne K (.ref (He.ga K "TwiceTold")) (.ref (He.ga K "NoHand")) = some false := (T.err.k _ hx "NoHand" (by decide)).trans (by decide)
      have kTwiceTold : PySem.W.kitOne K (.ref (He.ga K "TwiceTold")) (.ref (He.ga K "TwiceTold")) = some true := (T.err.k _ hx "TwiceTold" (by decide)).trans (by decide)
      have kTooMany : PySem.W.kitOne K (.ref (He.ga K "TwiceTold")) (.ref (He.ga K "TooMany")) = some false := (T.err.k _ hx "TooMany" (by decide)).trans (by decide)
      refine ⟨_, rfl, a, _, _, _, _, rfl, ha, hC, (fun _ z => z), kNoRing, _, rfl, iteF ?_⟩
      refine ⟨_, rfl, a, _, _, _, _, rfl, ha, hC, (fun _ z => z), kNoMany, _, rfl, iteF ?_⟩
      refine ⟨_, rfl, a, _, _, _, _, rfl, ha, hC, (fun _ z => z), kNoStep, _, rfl, iteF ?_⟩
      refine ⟨_, rfl, a, _, _, _, _, rfl, ha, hC, (fun _ z => z), kNoPlace, _, rfl, iteF ?_⟩
      refine ⟨_, rfl, a, _, _, _, _, rfl, ha, hC, (fun _ z => z), kNoCount, _, rfl, iteF ?_⟩
      refine ⟨_, rfl, a, _, _, _, _, rfl, ha, hC, (fun _ z => z), kNoHand, _, rfl, iteF ?_⟩
      refine ⟨_, rfl, a, _, _, _, _, rfl, ha, hC, (fun _ z => z), kTwiceTold, _, rfl, ?_⟩
      refine iteT ⟨_, rfl, .inl ⟨rfl, _, SqL.of h0⟩, l, _, _, rfl, rfl, h0, szl 0 (by decide), ?_⟩
      have ha1 : upd (upd H l (.lst [])) l (.lst ([] ++ [.str "twice"])) a = some (ExA (.ref (He.ga K "TwiceTold")) a) := by rw [upd_ne nal]; exact ha
      refine ⟨_, rfl, a, _, _, _, _, rfl, ha1, hC, (fun _ z => z), kTooMany, _, rfl, iteF ?_⟩
      refine ⟨_, rfl, l, [.str "twice"], rfl, .inl (SqL.of upd_same), ?_⟩
      refine c_ (ne_same (x := .int 1) rfl ?_)
      refine ⟨_, rfl, iteF ?_⟩
      refine ⟨_, rfl, a, _, _, _, _, rfl, ha1, hC, (fun _ z => z), T.err.v _ hx, _, rfl, iteF ?_⟩
      exact ⟨_, rfl, l, _, _, _, rfl, rfl, SqL.of upd_same, rfl, k _ ((Kp.new hl).late hl)⟩
    · have hx : ("TooMany" : Str) ∈ errNames.map (·.1) := by decide
      have hC := T.err.c _ hx
      have kNoRing : PySem.W.kitOne K (.ref (He.ga K "TooMany")) (.ref (He.ga K "NoRing")) = some false := (T.err.k _ hx "NoRing" (by decide)).trans (by decide)
      have kNoMany : PySem.W.kitOne K (.ref (He.ga K "TooMany")) (.ref (He.ga K "NoMany")) = some false := (T.err.k _ hx "NoMany" (by decide)).trans (by decide)
      have kNoStep : PySem.W.kitOne K (.ref (He.ga K "TooMany")) (.ref (He.ga K "NoStep")) = some false := (T.err.k _ hx "NoStep" (by decide)).trans (by decide)
      have kNoPlace : PySem.W.kitOne K (.ref (He.ga K "TooMany")) (.ref (He.ga K "NoPlace")) = some false := (T.err.k _ hx "NoPlace" (by decide)).trans (by decide)
      have kNoCount : PySem.W.kitOne K (.ref (He.ga K "TooMany")) (.ref (He.ga K "NoCount")) = some false := (T.err.k _ hx "NoCount" (by decide)).trans (by decide)
      have kNoHand : PySem.W.kitOne K (.ref (He.ga K "TooMany")) (.ref (He.ga K "NoHand")) = some false := (T.err.k _ hx "NoHand" (by decide)).trans (by decide)
      have kTwiceTold : PySem.W.kitOne K (.ref (He.ga K "TooMany")) (.ref (He.ga K "TwiceTold")) = some false := (T.err.k _ hx "TwiceTold" (by decide)).trans (by decide)
      have kTooMany : PySem.W.kitOne K (.ref (He.ga K "TooMany")) (.ref (He.ga K "TooMany")) = some true := (T.err.k _ hx "TooMany" (by decide)).trans (by decide)
      refine ⟨_, rfl, a, _, _, _, _, rfl, ha, hC, (fun _ z => z), kNoRing, _, rfl, iteF ?_⟩
      refine ⟨_, rfl, a, _, _, _, _, rfl, ha, hC, (fun _ z => z), kNoMany, _, rfl, iteF ?_⟩
      refine ⟨_, rfl, a, _, _, _, _, rfl, ha, hC, (fun _ z => z), kNoStep, _, rfl, iteF ?_⟩
      refine ⟨_, rfl, a, _, _, _, _, rfl, ha, hC, (fun _ z => z), kNoPlace, _, rfl, iteF ?_⟩
      refine ⟨_, rfl, a, _, _, _, _, rfl, ha, hC, (fun _ z => z), kNoCount, _, rfl, iteF ?_⟩
      refine ⟨_, rfl, a, _, _, _, _, rfl, ha, hC, (fun _ z => z), kNoHand, _, rfl, iteF ?_⟩
      refine ⟨_, rfl, a, _, _, _, _, rfl, ha, hC, (fun _ z => z), kTwiceTold, _, rfl, iteF ?_⟩
      refine ⟨_, rfl, a, _, _, _, _, rfl, ha, hC, (fun _ z => z), kTooMany, _, rfl, ?_⟩
      refine iteT ⟨_, rfl, .inl ⟨rfl, _, SqL.of h0⟩, l, _, _, rfl, rfl, h0, szl 0 (by decide), ?_⟩
      have ha1 : upd (upd H l (.lst [])) l (.lst ([] ++ [.str "much"])) a = some (ExA (.ref (He.ga K "TooMany")) a) := by rw [upd_ne nal]; exact ha
      refine ⟨_, rfl, l, [.str "much"], rfl, .inl (SqL.of upd_same), ?_⟩
      refine c_ (ne_same (x := .int 1) rfl ?_)
      refine ⟨_, rfl, iteF ?_⟩
      refine ⟨_, rfl, a, _, _, _, _, rfl, ha1, hC, (fun _ z => z), T.err.v _ hx, _, rfl, iteF ?_⟩
      exact ⟨_, rfl, l, _, _, _, rfl, rfl, SqL.of upd_same, rfl, k _ ((Kp.new hl).late hl)⟩
end
end Lz
namespace Lz
open PySem PySem.Spec PyProof.Rows L2
abbrev s__law_told : Stmt := top 34
def spTold7 (K : PySem.W.Frag) : Sp := fun vs H Q _ => ∃ x y z : V, vs = [x, y, z] ∧ spLeast K [x, y, z] H Q (EE K Q)
section
variable {P : Program} {w : World} {K : PySem.W.Frag} {mg : Str → Option Value} {base : Heap}
theorem sc__law_told : FnScope ["_law_many", "_law_place", "_law_most", "_law_e", "_law_error_here"] ["_law_many", "_law_place", "_law_most"] (defScope s__law_told) := ⟨rfl, rfl, rfl, by decide +kernel, rfl, by decide +kernel, by decide +kernel⟩
theorem ok__law_told {f : Addr} {fd : FuncData} (F : FnP K "_law_told" "_law_told" s__law_told [] f fd) (T : Txt K mg) (G_least_step : FnAt P w K mg base (CXr P w) 4 "least_step" ["many", "place", "most"] [] (spLeast K)) (G__law_error : FnAt P w K mg base CX0 1 "_law_error" ["_law_e"] [] (spErr K)) :
    FnOk P w K mg base CX0 5 f fd ["_law_many", "_law_place", "_law_most"] (spTold7 K) := by
  have S := sc__law_told
  refine F.ok S (fun vs H Q E h => ?_) (fun cdv A outer s H vs Q E hr h => ?_)
  · obtain ⟨x, y, z, rfl, _⟩ := h
    rfl
  · obtain ⟨x, y, z, rfl, h⟩ := h
    refine ⟨_, PSs.nox (pss_cons (ps_try_keep (i := 3) rfl rfl rfl S.nd rfl rfl ⟨rfl, by decide, .inl T.g_CountError⟩ (fun W pn xe tk => (pss_one (ps_ret (pe_fn (weakF G_least_step) (hr.mono (by decide)) (passT (N := ["_law_many", "_law_place", "_law_most", "_law_e", "_law_error_here"]) tk) (pa_cons (pv 0) (pa_cons (pv 1) (pa_cons (pv 2) pa_nil))))))) (fun a oe cls d pn => (pss_one (ps_set (i := 4) S.nd rfl (Or.inl rfl) (pv 3))))) (pss_one (ps_ret (pe_fn G__law_error (hr.mono (by decide)) pass0 (pa_cons (pv 4) pa_nil))))), ?_⟩
    refine ⟨_, rfl, _, rfl, _, rfl, EE K Q, h, fun cls d G he σ hσ => ?_⟩
    obtain ⟨rfl, w1, wd, hm, rfl, kk⟩ := he
    refine ⟨T.err.m w1 (List.mem_map.mpr ⟨_, hm, rfl⟩), rfl, fun a ha => ?_⟩
    match σ, hσ with
    | [_, _, _, _, _], _ => exact ⟨_, rfl, fun ha' => ⟨_, rfl, a, w1, wd, rfl, hm, upd_same, fun H2 k2 => kk H2 ((Kp.new ha').trans k2)⟩⟩
end
end Lz
namespace Lz
open PySem PySem.Spec PyProof.Rows L2
abbrev s_law : Stmt := top 35
def spLaw (K : PySem.W.Frag) : Sp := fun vs H Q _ => ∃ (a : Addr) (ns : List Int), vs = [.ref a] ∧ SqL K H a (ns.map V.int) ∧ ns.length ≤ 63 ∧ ∀ H', Q (.bl true) H'
theorem Least.scal {n p m : Nat} {u : V} (hu : Least n p m u) : scal u u = true := by
  rcases hu with ⟨rfl, _⟩ | ⟨s, rfl, _⟩
  · rfl
  · rfl
section
variable {K : PySem.W.Frag} {x y z : V} {n p : Nat} {H : Hp} {Q : VK} {E : XK}
theorem told7_many (h : OutN K H 1 60 x) (k : ∀ H', Kp [] H H' → Q (.str "many") H') : spTold7 K [x, y, z] H Q E :=
  ⟨x, y, z, rfl, _, _, _, rfl, .inl ⟨h, rfl, "NoMany", "many", by simp [errNames], rfl, k⟩⟩
theorem told7_place (n1 : 1 ≤ n) (n2 : n ≤ 60) (h : OutN K H 0 ((n : Int) - 1) y) (k : ∀ H', Kp [] H H' → Q (.str "place") H') : spTold7 K [.int n, y, z] H Q E :=
  ⟨_, y, z, rfl, _, _, _, rfl, .inr ⟨n, rfl, n1, n2, .inl ⟨h, rfl, "NoPlace", "place", by simp [errNames], rfl, k⟩⟩⟩
theorem told7_count (n1 : 1 ≤ n) (n2 : n ≤ 60) (p1 : p < n) (h : OutN K H 0 500 z) (k : ∀ H', Kp [] H H' → Q (.str "count") H') : spTold7 K [.int n, .int p, z] H Q E :=
  ⟨_, _, z, rfl, _, _, _, rfl, .inr ⟨n, rfl, n1, n2, .inr ⟨p, rfl, p1, .inl ⟨h, rfl, "NoCount", "count", by simp [errNames], rfl, k⟩⟩⟩⟩
end
section
variable {P : Program} {w : World} {K : PySem.W.Frag} {mg : Str → Option Value} {base : Heap}
theorem sc_law : FnScope ["_law_script", "_law_state_here", "_law_many", "_law_most", "_law_place", "_law_due", "_law_found", "_law_bad", "_law_off", "_law_odd", "_law_told_here"] ["_law_script"] (defScope s_law) := ⟨rfl, rfl, rfl, by decide +kernel, rfl, by decide +kernel, by decide +kernel⟩
theorem ok_law {f : Addr} {fd : FuncData} (F : FnP K "law" "law" s_law [] f fd) (T : Txt K mg) (G__law_state : FnAt P w K mg base CX0 2 "_law_state" ["_law_script", "_law_first"] [] (spState K)) (G__law_of : FnAt P w K mg base CX0 2 "_law_of" ["_law_state_here", "_law_some"] [] (spOf K)) (G__law_next : FnAt P w K mg base CX0 1 "_law_next" ["_law_state_here"] [] spNext) (G__law_cell_at : FnAt P w K mg base CX0 1 "_law_cell_at" ["_law_script", "_law_k"] [] (spCell K)) (G__law_least : FnAt P w K mg base CX0 2 "_law_least" ["_law_many", "_law_place", "_law_most"] [] spLawLeast) (G_least_step : FnAt P w K mg base (CXr P w) 4 "least_step" ["many", "place", "most"] [] (spLeast K)) (G__law_whole : FnAt P w K mg base CX0 1 "_law_whole" ["_law_found"] [] (spIsNum K)) (G__law_out : FnAt P w K mg base CX0 1 "_law_out" ["_law_row", "_law_step"] [] (spOut K)) (G_least_step_d : FnAt P w K mg base (CXr P w) 4 "least_step" ["many", "place", "most"] [V.int (100)] (spLeast K)) (G__law_told : FnAt P w K mg base CX0 5 "_law_told" ["_law_many", "_law_place", "_law_most"] [] (spTold7 K)) :
    FnOk P w K mg base CX0 6 f fd ["_law_script"] (spLaw K) := by
  have S := sc_law
  refine F.ok S (fun vs H Q E h => ?_) (fun cdv A outer s H vs Q E hr h => ?_)
  · obtain ⟨a, ns, rfl, _⟩ := h
    rfl
  · obtain ⟨a, ns, rfl, hS, hlen, hQ⟩ := h
    refine ⟨_, PSs.nox (pss_cons (ps_set (i := 1) S.nd rfl (Or.inl rfl) (pe_fn G__law_state (hr.mono (by decide)) pass0 (pa_cons (pv 0) (pa_cons pe_int pa_nil)))) (pss_cons (ps_set (i := 2) S.nd rfl (Or.inl rfl) (pe_fn G__law_of (hr.mono (by decide)) pass0 (pa_cons (pv 1) (pa_cons (pe_lst (pa_cons pe_int (pa_cons pe_int (pa_cons (pe_op op_add pe_int (pe_op op_mod (pe_fn G__law_next (hr.mono (by decide)) pass0 (pa_cons (pv 1) pa_nil)) pe_int)) pa_nil)))) pa_nil)))) (pss_cons (ps_set (i := 3) S.nd rfl (Or.inl rfl) (pe_op op_mod (pe_fn G__law_next (hr.mono (by decide)) pass0 (pa_cons (pv 1) pa_nil)) pe_int)) (C8.pss_cut (ps_if (pt_cmpR op_eq (pe_op op_mod (pe_fn G__law_cell_at (hr.mono (by decide)) pass0 (pa_cons (pv 0) (pa_cons pe_int pa_nil))) pe_int) pe_int (nomark _)) (pss_cons (ps_set (i := 2) S.nd rfl (Or.inl rfl) (pe_op op_sub pe_int (pe_op op_mod (pe_fn G__law_next (hr.mono (by decide)) pass0 (pa_cons (pv 1) pa_nil)) pe_int))) (pss_one (ps_set (i := 3) S.nd rfl (Or.inl rfl) (pe_fn G__law_of (hr.mono (by decide)) pass0 (pa_cons (pv 1) (pa_cons (pe_lst (pa_cons pe_int (pa_cons pe_int (pa_cons pe_int (pa_cons (pe_op op_mod (pe_fn G__law_next (hr.mono (by decide)) pass0 (pa_cons (pv 1) pa_nil)) pe_int) pa_nil))))) pa_nil)))))) pss_nil) (C8.pss_cut (ps_set (i := 4) S.nd rfl (Or.inl rfl) (pe_fn G__law_of (hr.mono (by decide)) pass0 (pa_cons (pv 1) (pa_cons (pe_lst (pa_cons pe_int (pa_cons (pe_op op_sub (pv 2) pe_int) (pa_cons (pe_op op_mod (pe_fn G__law_next (hr.mono (by decide)) pass0 (pa_cons (pv 1) pa_nil)) (pv 2)) pa_nil)))) pa_nil)))) (pss_cons (ps_set (i := 5) S.nd rfl (Or.inl rfl) (pe_fn G__law_least (hr.mono (by decide)) pass0 (pa_cons (pv 2) (pa_cons (pv 4) (pa_cons (pv 3) pa_nil))))) (pss_cons (ps_set (i := 6) S.nd rfl (Or.inl rfl) (pe_fn G_least_step (hr.mono (by decide)) passL (pa_cons (pv 2) (pa_cons (pv 4) (pa_cons (pv 3) pa_nil))))) (C8.pss_cut (ps_if (PW.pt (pw_or (pt_cmpR op_ne (pe_cmpR op_isN (pv 6) pe_non (nomark _)) (pe_cmpR op_isN (pv 5) pe_non (nomark _)) (nomark _)) (pw_or1 (PW.pt (pw_and (pt_cmpR op_notN (pv 5) pe_non (nomark _)) (pw_and1 (PW.pt (pw_or (pt_not (pt_val (pe_fn G__law_whole (hr.mono (by decide)) pass0 (pa_cons (pv 6) pa_nil)))) (pw_or1 (pt_cmpR op_ne (pv 6) (pv 5) (nomark _))))))))))) (pss_one (ps_ret pe_bl)) pss_nil) (C8.pss_cut (ps_if (PW.pt (pw_and (pt_cmpR op_notN (pv 5) pe_non (nomark _)) (pw_and1 (pt_cmpR op_ne (pe_ix ix_list (pe_fn G__law_out (hr.mono (by decide)) pass0 (pa_cons (pe_listRg rfl (by rfl) T.b_list (prg_1 (by rfl) T.b_range (pv 2))) (pa_cons (pv 5) pa_nil))) (pe_un un_neg pe_int) (fun _ _ => rfl)) (pv 4) (nomark _))))) (pss_one (ps_ret pe_bl)) pss_nil) (pss_cons (ps_if (pt_cmpR op_ne (pe_fn G_least_step_d (hr.mono (by decide)) passL (pa_cons (pv 2) (pa_cons (pv 4) pa_nil))) (pe_fn G__law_least (hr.mono (by decide)) pass0 (pa_cons (pv 2) (pa_cons (pv 4) (pa_cons pe_int pa_nil)))) (nomark _)) (pss_one (ps_ret pe_bl)) pss_nil) (pss_cons (ps_set (i := 7) S.nd rfl (Or.inl rfl) (pe_fn G__law_of (hr.mono (by decide)) pass0 (pa_cons (pv 1) (pa_cons (pe_lst (pa_cons pe_int (pa_cons pe_int (pa_cons pe_non (pa_cons pe_bl (pa_cons pe_str (pa_cons (pe_op op_pow pe_int pe_int) pa_nil))))))) pa_nil)))) (pss_cons (ps_set (i := 8) S.nd rfl (Or.inl rfl) (pe_fn G__law_of (hr.mono (by decide)) pass0 (pa_cons (pv 1) (pa_cons (pe_lst (pa_cons (pv 2) (pa_cons (pe_un un_neg pe_int) (pa_cons pe_non (pa_cons pe_bl (pa_cons pe_str pa_nil)))))) pa_nil)))) (pss_cons (ps_set (i := 9) S.nd rfl (Or.inl rfl) (pe_fn G__law_of (hr.mono (by decide)) pass0 (pa_cons (pv 1) (pa_cons (pe_lst (pa_cons (pe_un un_neg pe_int) (pa_cons pe_int (pa_cons pe_non (pa_cons pe_bl (pa_cons pe_str (pa_cons (pe_op op_pow pe_int pe_int) pa_nil))))))) pa_nil)))) (pss_cons (ps_set (i := 10) S.nd rfl (Or.inl rfl) (pe_lst (pa_cons (pe_fn G__law_told (hr.mono (by decide)) pass0 (pa_cons (pv 7) (pa_cons (pv 8) (pa_cons (pv 9) pa_nil)))) (pa_cons (pe_fn G__law_told (hr.mono (by decide)) pass0 (pa_cons (pv 2) (pa_cons (pv 8) (pa_cons (pv 9) pa_nil)))) (pa_cons (pe_fn G__law_told (hr.mono (by decide)) pass0 (pa_cons (pv 2) (pa_cons (pv 4) (pa_cons (pv 9) pa_nil)))) pa_nil))))) (pss_one (ps_ret (pe_and (pe_cmpR (op_eqD hr.units) (pv 10) (pe_lst (pa_cons pe_str (pa_cons pe_str (pa_cons pe_str pa_nil)))) (nomark _)) (pe_one (pe_cmpR op_eq (pe_fn G_least_step (hr.mono (by decide)) passL (pa_cons (pv 2) (pa_cons (pv 4) (pa_cons (pv 3) pa_nil)))) (pv 5) (nomark _)))))))))))))))))))), ?_⟩
    refine ⟨_, rfl, a, ns, 0, rfl, hS, by decide, fun st H1 hst k1 t1 => ?_⟩
    have T1 : Drew st H H1 := ⟨k1.mono (by simp), t1⟩
    -- many
    refine ⟨_, rfl, _, rfl, st, rfl, t1, fun H2 r2 d2 _ _ => ?_⟩
    refine ⟨_, _, rfl, rfl, by show (0 : Int) < _; decide, _, _, rfl, rfl, sz 3 (by decide), fun q hq => ?_⟩
    refine ⟨st, _, rfl, d2.2.new hq, .inl ⟨q, _, rfl, SqL.of upd_same, by simp, d2.2.fresh hq, fun H3 v hv d3 => ?_⟩⟩
    have T3 := ((T1.trans d2).new hq).trans d3
    obtain ⟨n, rfl, n1, n2⟩ : ∃ n : Nat, v = .int n ∧ 1 ≤ n ∧ n ≤ 60 := by
      simp only [List.mem_cons, List.not_mem_nil, or_false] at hv
      rcases hv with rfl | rfl | rfl
      · exact ⟨1, rfl, by omega, by omega⟩
      · exact ⟨2, rfl, by omega, by omega⟩
      · exact ⟨(1 + r2 % 16).toNat, congrArg V.int (by omega), by omega, by omega⟩
    -- most
    refine ⟨_, rfl, st, rfl, T3.2, fun H4 r4 d4 _ _ => ?_⟩
    refine ⟨_, _, rfl, rfl, by show (0 : Int) < _; decide, ?_⟩
    have T4 := T3.trans d4
    refine ⟨fun σ' H' => ∃ n m : Nat, 1 ≤ n ∧ n ≤ 60 ∧ m ≤ 500 ∧ σ' = [some (.ref a), some (.ref st), some (.int n), some (.int m), none, none, none, none, none, none, none] ∧ StAt H' st, ?_, ?_⟩
    · refine ⟨_, rfl, a, ns, 2, rfl, T4.lst0 hS hst, by decide, fun z => ?_⟩
      refine ⟨_, _, rfl, rfl, by show (0 : Int) < _; decide, rfl, _, rfl, ite2 (fun _ => ?_) (fun _ => ?_)⟩
      · refine ⟨_, rfl, st, rfl, T4.2, fun H5 r5 d5 _ _ => ?_⟩
        refine ⟨_, _, rfl, rfl, by show (0 : Int) < _; decide, _, _, rfl, rfl, ?_⟩
        refine ⟨_, rfl, _, rfl, st, rfl, d5.2, fun H6 r6 d6 _ _ => ?_⟩
        refine ⟨_, _, rfl, rfl, by show (0 : Int) < _; decide, sz 4 (by decide), fun q6 hq6 => ?_⟩
        refine ⟨st, _, rfl, d6.2.new hq6, .inl ⟨q6, _, rfl, SqL.of upd_same, by simp, d6.2.fresh hq6, fun H7 v hv d7 => ?_⟩⟩
        obtain ⟨m, rfl, m2⟩ : ∃ m : Nat, v = .int m ∧ m ≤ 500 := by
          simp only [List.mem_cons, List.not_mem_nil, or_false] at hv
          rcases hv with rfl | rfl | rfl | rfl
          · exact ⟨500, rfl, by omega⟩
          · exact ⟨0, rfl, by omega⟩
          · exact ⟨1, rfl, by omega⟩
          · exact ⟨(r6 % 501).toNat, congrArg V.int (by omega), by omega⟩
        obtain ⟨w, hw⟩ := Int.eq_ofNat_of_zero_le (show 0 ≤ 60 - r5 % 40 by omega)
        refine ⟨w, m, by omega, by omega, m2, ?_, d7.2⟩
        rw [← hw]
        rfl
      · obtain ⟨w, hw⟩ := Int.eq_ofNat_of_zero_le (show 0 ≤ r4 % 41 by omega)
        refine ⟨n, w, n1, n2, by omega, ?_, T4.2⟩
        rw [← hw]
        rfl
    rintro σ' H8 ⟨n, m, n1, n2, m2, rfl, t8⟩
    -- place
    refine ⟨fun σ' H' => ∃ p : Nat, p < n ∧ σ' = [some (.ref a), some (.ref st), some (.int n), some (.int m), some (.int p), none, none, none, none, none, none] ∧ StAt H' st, ?_, ?_⟩
    · refine ⟨_, rfl, _, rfl, _, _, rfl, rfl, _, rfl, st, rfl, t8, fun H8 r8 d8 _ _ => ?_⟩
      refine ⟨_, rfl, _, _, rfl, rfl, by show (0 : Int) < (n : Int); omega, sz 3 (by decide), fun p8 hp8 => ?_⟩
      refine ⟨st, _, rfl, d8.2.new hp8, .inl ⟨p8, _, rfl, SqL.of upd_same, by simp, d8.2.fresh hp8, fun H9 v hv d9 => ?_⟩⟩
      obtain ⟨b, rfl, b1⟩ : ∃ b : Nat, v = .int b ∧ b < n := by
        have m0 := Int.emod_nonneg r8 (show (n : Int) ≠ 0 by omega)
        have m1 := Int.emod_lt_of_pos r8 (show 0 < (n : Int) by omega)
        simp only [List.mem_cons, List.not_mem_nil, or_false] at hv
        rcases hv with rfl | rfl | rfl
        · exact ⟨0, rfl, by omega⟩
        · exact ⟨n - 1, congrArg V.int (by omega), by omega⟩
        · exact ⟨(r8 % (n : Int)).toNat, congrArg V.int (by omega), by omega⟩
      exact ⟨b, b1, rfl, d9.2⟩
    rintro σ' G0 ⟨p, p1, rfl, g0⟩
    -- due, found
    refine ⟨_, rfl, _, rfl, _, rfl, n, p, m, rfl, n1, n2, m2, fun u hu => ?_⟩
    refine ⟨_, rfl, _, rfl, _, rfl, _, _, _, rfl, .inr ⟨n, rfl, n1, n2, .inr ⟨p, rfl, p1, .inr ⟨m, rfl, m2, fun u' G1 hu' k1 => ?_⟩⟩⟩⟩
    obtain rfl := Least.one hu hu'
    have g1 := g0.same k1
    refine ⟨fun σ' H' => σ' = [some (.ref a), some (.ref st), some (.int n), some (.int m), some (.int p), some u, some u, none, none, none, none] ∧ StAt H' st, ?_, ?_⟩
    · rcases id hu with ⟨rfl, _⟩ | ⟨s, rfl, _⟩
      · refine ⟨_, rfl, rfl, _, rfl, rfl, ne_no rfl rfl ⟨_, rfl, iteF ?_⟩⟩
        refine ⟨_, rfl, rfl, _, rfl, iteF ?_⟩
        exact iteF ⟨rfl, g1⟩
      · refine ⟨_, rfl, rfl, _, rfl, rfl, ne_no rfl rfl ⟨_, rfl, iteF ?_⟩⟩
        refine ⟨_, rfl, rfl, _, rfl, iteT ?_⟩
        refine ⟨_, rfl, _, rfl, .inl ⟨_, rfl, _, rfl, iteF ?_⟩⟩
        refine ⟨_, rfl, _, rfl, ne_no rfl rfl ⟨_, rfl, iteF ?_⟩⟩
        exact ⟨rfl, g1⟩
    rintro σ' G2 ⟨rfl, g2⟩
    refine ⟨fun σ' H' => σ' = [some (.ref a), some (.ref st), some (.int n), some (.int m), some (.int p), some u, some u, none, none, none, none] ∧ StAt H' st, ?_, ?_⟩
    · rcases id hu with ⟨rfl, _⟩ | ⟨s, rfl, s1, s2, s3, _⟩
      · refine ⟨_, rfl, rfl, _, rfl, iteF ?_⟩
        exact iteF ⟨rfl, g2⟩
      · refine ⟨_, rfl, rfl, _, rfl, iteT ?_⟩
        refine ⟨_, rfl, (n : Int), rfl, .of_le (by decide) (by omega) (by decide) (by omega), fun q hq => ?_⟩
        refine ⟨_, rfl, q, s, rgV 0 n, rfl, SqL.of upd_same, by omega, rgV_all n, by rw [rgV_len]; omega, fun w1 G3 k3 _ e3 => ?_⟩
        have es : (s : Int).toNat - 1 = s - 1 := by omega
        rw [es, ordV_zero] at e3
        refine ⟨_, rfl, w1, _, _, _, rfl, rfl, SqL.of e3, at_last (ordV_len s n 0) (by omega) (ordV_get s1 (by omega) (by omega)), ?_⟩
        have e5 : (0 + Jo.pos s n ((n - 1 + 1) * s)) % n = p := by
          have en : n - 1 + 1 = n := by omega
          rw [en, Nat.zero_add, s3, Nat.mod_eq_of_lt p1]
        refine ⟨_, rfl, ne_no (vnat e5) rfl ⟨_, rfl, iteF ?_⟩⟩
        exact ⟨rfl, (g2.new hq).same k3⟩
    rintro σ' G4 ⟨rfl, g4⟩
    -- the default
    refine ⟨_, rfl, _, rfl, _, _, _, rfl, .inr ⟨n, rfl, n1, n2, .inr ⟨p, rfl, p1, .inr ⟨100, rfl, by omega, fun w1 G5 hw1 k5 => ?_⟩⟩⟩⟩
    refine ⟨_, rfl, _, rfl, n, p, 100, rfl, n1, n2, by omega, fun w2 hw2 => ?_⟩
    obtain rfl := Least.one hw1 hw2
    refine ne_no rfl hw1.scal ⟨_, rfl, iteF ?_⟩
    have g19 := g4.same k5
    -- bad, off, odd
    refine ⟨_, rfl, _, _, rfl, rfl, ⟨by decide, by decide, by decide⟩, sz 6 (by decide), fun p1' hp1 => ?_⟩
    refine ⟨st, _, rfl, g19.new hp1, .inl ⟨p1', _, rfl, SqL.of upd_same, by simp, g19.fresh hp1, fun A1 bad hv1 dd1 => ?_⟩⟩
    have B1 : BadV st A1 1 60 bad := by
      simp only [List.mem_cons, List.not_mem_nil, or_false] at hv1
      rcases hv1 with rfl | rfl | rfl | rfl | rfl | rfl
      · exact badI (by decide)
      · exact badI (by decide)
      · exact badN
      · exact badB
      · exact badS
      · exact badI (by decide)
    refine ⟨_, rfl, _, rfl, _, rfl, sz 5 (by decide), fun p3 hp3 => ?_⟩
    refine ⟨st, _, rfl, dd1.2.new hp3, .inl ⟨p3, _, rfl, SqL.of upd_same, by simp, dd1.2.fresh hp3, fun A2 off hv3 dd2 => ?_⟩⟩
    have B2 : BadV st A2 0 ((n : Int) - 1) off := by
      simp only [List.mem_cons, List.not_mem_nil, or_false] at hv3
      rcases hv3 with rfl | rfl | rfl | rfl | rfl
      · exact badI (by omega)
      · exact badI (by omega)
      · exact badN
      · exact badB
      · exact badS
    have D2 : Drew st A1 A2 := ((Drew.refl dd1.2).new hp3).trans dd2
    refine ⟨_, rfl, _, rfl, _, _, rfl, rfl, ⟨by decide, by decide, by decide⟩, sz 6 (by decide), fun p2 hp2 => ?_⟩
    refine ⟨st, _, rfl, dd2.2.new hp2, .inl ⟨p2, _, rfl, SqL.of upd_same, by simp, dd2.2.fresh hp2, fun A3 odd hv2 dd3 => ?_⟩⟩
    have B3 : BadV st A3 0 500 odd := by
      simp only [List.mem_cons, List.not_mem_nil, or_false] at hv2
      rcases hv2 with rfl | rfl | rfl | rfl | rfl | rfl
      · exact badI (by decide)
      · exact badI (by decide)
      · exact badN
      · exact badB
      · exact badS
      · exact badI (by decide)
    have D3 : Drew st A2 A3 := ((Drew.refl dd2.2).new hp2).trans dd3
    have B1 := B1.keep (D2.trans D3).1
    have B2 := B2.keep D3.1
    refine ⟨_, rfl, _, rfl, _, rfl, told7_many (E := E0) B1.out fun A5 k5 => ?_⟩
    refine ⟨_, rfl, _, rfl, _, rfl, told7_place (E := E0) n1 n2 (B2.keep (k5.mono (by simp))).out fun A6 k6 => ?_⟩
    refine ⟨_, rfl, _, rfl, _, rfl, told7_count (E := E0) n1 n2 p1 (B3.keep ((k5.trans k6).mono (by simp))).out fun A7 k7 => ?_⟩
    refine ⟨sz 3 (by decide), fun l3 hl3 => ?_⟩
    refine ⟨_, rfl, sz 3 (by decide), fun l4 hl4 => ?_⟩
    refine eqD_same (SqL.of (by rw [upd_ne (ne_of_none upd_same hl4)]; exact upd_same)) (SqL.of upd_same) (by decide +kernel) ⟨_, rfl, iteT ?_⟩
    refine ⟨_, rfl, _, rfl, _, rfl, _, _, _, rfl, .inr ⟨n, rfl, n1, n2, .inr ⟨p, rfl, p1, .inr ⟨m, rfl, m2, fun w3 A8 hw3 k8 => ?_⟩⟩⟩⟩
    obtain rfl := Least.one hu hw3
    exact ⟨_, rfl, eq_yes rfl hu.scal (hQ _)⟩
end
end Lz
namespace Lz
open PySem PySem.Spec PyProof.Rows L2

def d__law_cell_at : He.DefD := ⟨("_law_cell_at", none), "_law_cell_at", "_law_cell_at", defArgs s__law_cell_at, defBody s__law_cell_at, defScope s__law_cell_at, [], []⟩
def d__law_state : He.DefD := ⟨("_law_state", none), "_law_state", "_law_state", defArgs s__law_state, defBody s__law_state, defScope s__law_state, [], []⟩
def d__law_next : He.DefD := ⟨("_law_next", none), "_law_next", "_law_next", defArgs s__law_next, defBody s__law_next, defScope s__law_next, [], []⟩
def d__law_of : He.DefD := ⟨("_law_of", none), "_law_of", "_law_of", defArgs s__law_of, defBody s__law_of, defScope s__law_of, [], []⟩
def d_is_number : He.DefD := ⟨("is_number", none), "is_number", "is_number", defArgs s_is_number, defBody s_is_number, defScope s_is_number, [], []⟩
def d_need_many : He.DefD := ⟨("need_many", none), "need_many", "need_many", defArgs s_need_many, defBody s_need_many, defScope s_need_many, [], []⟩
def d_need_place : He.DefD := ⟨("need_place", none), "need_place", "need_place", defArgs s_need_place, defBody s_need_place, defScope s_need_place, [], []⟩
def d_need_count : He.DefD := ⟨("need_count", none), "need_count", "need_count", defArgs s_need_count, defBody s_need_count, defScope s_need_count, [], []⟩
def d_from_place : He.DefD := ⟨("from_place", none), "from_place", "from_place", defArgs s_from_place, defBody s_from_place, defScope s_from_place, [], []⟩
def d_behind_count : He.DefD := ⟨("behind_count", none), "behind_count", "behind_count", defArgs s_behind_count, defBody s_behind_count, defScope s_behind_count, [], []⟩
def d_stays_last : He.DefD := ⟨("stays_last", none), "stays_last", "stays_last", defArgs s_stays_last, defBody s_stays_last, defScope s_stays_last, [], []⟩
def d_least_step : He.DefD := ⟨("least_step", none), "least_step", "least_step", defArgs s_least_step, defBody s_least_step, defScope s_least_step, [.int (100)], []⟩
def d__law_last : He.DefD := ⟨("_law_last", none), "_law_last", "_law_last", defArgs s__law_last, defBody s__law_last, defScope s__law_last, [], []⟩
def d__law_least : He.DefD := ⟨("_law_least", none), "_law_least", "_law_least", defArgs s__law_least, defBody s__law_least, defScope s__law_least, [], []⟩
def d__law_whole : He.DefD := ⟨("_law_whole", none), "_law_whole", "_law_whole", defArgs s__law_whole, defBody s__law_whole, defScope s__law_whole, [], []⟩
def d__law_out : He.DefD := ⟨("_law_out", none), "_law_out", "_law_out", defArgs s__law_out, defBody s__law_out, defScope s__law_out, [], []⟩
def d__law_error : He.DefD := ⟨("_law_error", none), "_law_error", "_law_error", defArgs s__law_error, defBody s__law_error, defScope s__law_error, [], []⟩
def d__law_told : He.DefD := ⟨("_law_told", none), "_law_told", "_law_told", defArgs s__law_told, defBody s__law_told, defScope s__law_told, [], []⟩
def d_law : He.DefD := ⟨("law", none), "law", "law", defArgs s_law, defBody s_law, defScope s_law, [], []⟩
def fn : List He.DefD := [d__law_cell_at, d__law_state, d__law_next, d__law_of, d_is_number, d_need_many, d_need_place, d_need_count, d_from_place, d_behind_count, d_stays_last, d_least_step, d__law_last, d__law_least, d__law_whole, d__law_out, d__law_error, d__law_told, d_law]
def fa : List He.Fa := [.glo "_law_cell_at", .glo "_law_state", .glo "_law_next", .glo "_law_of", .glo "is_number", .glo "need_many", .glo "need_place", .glo "need_count", .glo "from_place", .glo "behind_count", .glo "stays_last", .glo "least_step", .glo "_law_last", .glo "_law_least", .glo "_law_whole", .glo "_law_out", .glo "_law_error", .glo "_law_told", .glo "law", .free "len", .free "range", .free "list", .free "min", .free "max", .free "isinstance", .free "int", .free "bool", .free "str", .free "enumerate", .free "all", .free "set", .free "ValueError", .int "MOST_HANDS" (60), .int "MOST_TRIED" (500), .glo "CountError", .glo "NoRing", .glo "NoMany", .glo "NoStep", .glo "NoPlace", .glo "NoCount", .glo "NoHand", .glo "TwiceTold", .glo "TooMany", .keep "CountError", .exc "NoRing", .exm "NoRing" "CountError" true, .exc "NoMany", .exm "NoMany" "CountError" true, .exc "NoStep", .exm "NoStep" "CountError" true, .exc "NoPlace", .exm "NoPlace" "CountError" true, .exc "NoCount", .exm "NoCount" "CountError" true, .exc "NoHand", .exm "NoHand" "CountError" true, .exc "TwiceTold", .exm "TwiceTold" "CountError" true, .exc "TooMany", .exm "TooMany" "CountError" true]
def nm0 : List PySem.Str := ["CountError", "NoRing", "NoMany", "NoStep", "NoPlace", "NoCount", "NoHand", "TwiceTold", "TooMany", "is_number", "need_many", "need_place", "need_count", "from_place", "behind_count", "stays_last", "least_step", "_law_cell_at", "_law_next", "_law_state", "_law_of", "_law_turned", "_law_out", "_law_whole", "_law_error", "_law_last", "_law_least", "_law_told", "MOST_HANDS", "MOST_TRIED"]
def nms : List PySem.Str := nm0
abbrev R : PySem.W.OpenRow := PySem.W.OpenLaw.row PySem.Challenge.rw_countout_k07_steps_wished
def exB (K : PySem.W.Frag) : Bool := errB K (errNames.map (·.1))
abbrev hk : PySem.W.Hook := He.hookX 5 fa fn [] [] exB
def ob (s : PySem.W.SharedT) : He.AlX := He.obsX 5 fa fn [] [] exB (HandSHeadRun.getT s)
theorem ob_eq (s : PySem.W.SharedT) : ob s = hk.obs s.abs := He.obsX_eq (HandSHeadRun.getT_eq s)
theorem run_top (w : World) : HandSHeadRun.RunEq R (PySem.W.view R.prog [35]) hk ob 6000 nms w := by
  intro os
  kernel_rfl
theorem txt_of {K : PySem.W.Frag} {h : Heap} {mg : Str → Option Value} (X : K.In h) (G : h.Ns mainGlobals mg) (c : He.SaysD fa fn K) (ce : exB K = true) : Txt K mg where
  b_len := He.free_ok X G (c.fact 19 (f := .free "len") rfl)
  b_range := He.free_ok X G (c.fact 20 (f := .free "range") rfl)
  b_list := He.free_ok X G (c.fact 21 (f := .free "list") rfl)
  b_min := He.free_ok X G (c.fact 22 (f := .free "min") rfl)
  b_max := He.free_ok X G (c.fact 23 (f := .free "max") rfl)
  b_isinstance := He.free_ok X G (c.fact 24 (f := .free "isinstance") rfl)
  b_int := He.free_ok X G (c.fact 25 (f := .free "int") rfl)
  b_bool := He.free_ok X G (c.fact 26 (f := .free "bool") rfl)
  b_str := He.free_ok X G (c.fact 27 (f := .free "str") rfl)
  b_enumerate := He.free_ok X G (c.fact 28 (f := .free "enumerate") rfl)
  b_all := He.free_ok X G (c.fact 29 (f := .free "all") rfl)
  b_set := He.free_ok X G (c.fact 30 (f := .free "set") rfl)
  b_ValueError := He.free_ok X G (c.fact 31 (f := .free "ValueError") rfl)
  c_MOST_HANDS := He.int_ok X G (c.fact 32 (f := .int "MOST_HANDS" (60)) rfl)
  c_MOST_TRIED := He.int_ok X G (c.fact 33 (f := .int "MOST_TRIED" (500)) rfl)
  g_CountError := He.glo_ok X G (c.fact 34 (f := .glo "CountError") rfl)
  g_NoRing := He.glo_ok X G (c.fact 35 (f := .glo "NoRing") rfl)
  g_NoMany := He.glo_ok X G (c.fact 36 (f := .glo "NoMany") rfl)
  g_NoStep := He.glo_ok X G (c.fact 37 (f := .glo "NoStep") rfl)
  g_NoPlace := He.glo_ok X G (c.fact 38 (f := .glo "NoPlace") rfl)
  g_NoCount := He.glo_ok X G (c.fact 39 (f := .glo "NoCount") rfl)
  g_NoHand := He.glo_ok X G (c.fact 40 (f := .glo "NoHand") rfl)
  g_TwiceTold := He.glo_ok X G (c.fact 41 (f := .glo "TwiceTold") rfl)
  g_TooMany := He.glo_ok X G (c.fact 42 (f := .glo "TooMany") rfl)
  x_CountError := He.keep_ok (c.fact 43 (f := .keep "CountError") rfl)
  x_NoRing := exct (c.fact 44 (f := .exc "NoRing") rfl)
  x_NoMany := exct (c.fact 46 (f := .exc "NoMany") rfl)
  x_NoStep := exct (c.fact 48 (f := .exc "NoStep") rfl)
  x_NoPlace := exct (c.fact 50 (f := .exc "NoPlace") rfl)
  x_NoCount := exct (c.fact 52 (f := .exc "NoCount") rfl)
  x_NoHand := exct (c.fact 54 (f := .exc "NoHand") rfl)
  x_TwiceTold := exct (c.fact 56 (f := .exc "TwiceTold") rfl)
  x_TooMany := exct (c.fact 58 (f := .exc "TooMany") rfl)
  err := errB_ok ce
theorem facts {P : Program} {w : World} {K : PySem.W.Frag} {h : Heap} {mg : Str → Option Value} {f : Addr} (X : K.In h) (G : h.Ns mainGlobals mg) (hfa : mg ("law" : Str) = some (.ref f)) (c : He.SaysD fa fn K) (ce : exB K = true) :
    ∃ fd : FuncData, (∀ (s : Shared) (v : Value), BindsTo s fd ⟨[v], []⟩ [("_law_script", v)]) ∧ ∀ base : Heap, K.In base → base.Ns mainGlobals mg → FnOk P w K mg base CX0 6 f fd ["_law_script"] (spLaw K) := by
  have T := txt_of X G c ce
  obtain ⟨fd__law_cell_at, F__law_cell_at⟩ := c.def_ 0 (d := d__law_cell_at) rfl
  obtain ⟨fd__law_state, F__law_state⟩ := c.def_ 1 (d := d__law_state) rfl
  obtain ⟨fd__law_next, F__law_next⟩ := c.def_ 2 (d := d__law_next) rfl
  obtain ⟨fd__law_of, F__law_of⟩ := c.def_ 3 (d := d__law_of) rfl
  obtain ⟨fd_is_number, F_is_number⟩ := c.def_ 4 (d := d_is_number) rfl
  obtain ⟨fd_need_many, F_need_many⟩ := c.def_ 5 (d := d_need_many) rfl
  obtain ⟨fd_need_place, F_need_place⟩ := c.def_ 6 (d := d_need_place) rfl
  obtain ⟨fd_need_count, F_need_count⟩ := c.def_ 7 (d := d_need_count) rfl
  obtain ⟨fd_from_place, F_from_place⟩ := c.def_ 8 (d := d_from_place) rfl
  obtain ⟨fd_behind_count, F_behind_count⟩ := c.def_ 9 (d := d_behind_count) rfl
  obtain ⟨fd_stays_last, F_stays_last⟩ := c.def_ 10 (d := d_stays_last) rfl
  obtain ⟨fd_least_step, F_least_step⟩ := c.def_ 11 (d := d_least_step) rfl
  obtain ⟨fd__law_last, F__law_last⟩ := c.def_ 12 (d := d__law_last) rfl
  obtain ⟨fd__law_least, F__law_least⟩ := c.def_ 13 (d := d__law_least) rfl
  obtain ⟨fd__law_whole, F__law_whole⟩ := c.def_ 14 (d := d__law_whole) rfl
  obtain ⟨fd__law_out, F__law_out⟩ := c.def_ 15 (d := d__law_out) rfl
  obtain ⟨fd__law_error, F__law_error⟩ := c.def_ 16 (d := d__law_error) rfl
  obtain ⟨fd__law_told, F__law_told⟩ := c.def_ 17 (d := d__law_told) rfl
  obtain ⟨fd_law, F_law⟩ := c.def_ 18 (d := d_law) rfl
  have e := hfa.symm.trans (He.glo_ok X G (c.fact 18 (f := .glo "law") rfl))
  cases e
  refine ⟨fd_law, fun s v => FunD.bindsA (ps := ["_law_script"]) F_law (fun _ _ _ _ _ _ us hl => match us, hl with | [_], _ => rfl) s [v] rfl, fun base _ _ => ?_⟩
  have O__law_cell_at := ok__law_cell_at (P := P) (w := w) (base := base) F__law_cell_at T 
  have G__law_cell_at : FnAt P w K mg base CX0 1 "_law_cell_at" ["_law_script", "_law_k"] [] (spCell K) := by
    exact ⟨_, _, [], He.glo_ok X G (c.fact 0 (f := .glo "_law_cell_at") rfl), F__law_cell_at.kp, FunD.bindsN (ps := ["_law_script", "_law_k"]) F__law_cell_at (fun _ _ _ _ _ _ us hl => match us, hl with | [_, _], _ => rfl), .nil, O__law_cell_at⟩
  have O__law_state := ok__law_state (P := P) (w := w) (base := base) F__law_state T G__law_cell_at
  have G__law_state : FnAt P w K mg base CX0 2 "_law_state" ["_law_script", "_law_first"] [] (spState K) := by
    exact ⟨_, _, [], He.glo_ok X G (c.fact 1 (f := .glo "_law_state") rfl), F__law_state.kp, FunD.bindsN (ps := ["_law_script", "_law_first"]) F__law_state (fun _ _ _ _ _ _ us hl => match us, hl with | [_, _], _ => rfl), .nil, O__law_state⟩
  have O__law_next := ok__law_next (P := P) (w := w) (base := base) F__law_next T 
  have G__law_next : FnAt P w K mg base CX0 1 "_law_next" ["_law_state_here"] [] spNext := by
    exact ⟨_, _, [], He.glo_ok X G (c.fact 2 (f := .glo "_law_next") rfl), F__law_next.kp, FunD.bindsN (ps := ["_law_state_here"]) F__law_next (fun _ _ _ _ _ _ us hl => match us, hl with | [_], _ => rfl), .nil, O__law_next⟩
  have O__law_of := ok__law_of (P := P) (w := w) (base := base) F__law_of T G__law_next
  have G__law_of : FnAt P w K mg base CX0 2 "_law_of" ["_law_state_here", "_law_some"] [] (spOf K) := by
    exact ⟨_, _, [], He.glo_ok X G (c.fact 3 (f := .glo "_law_of") rfl), F__law_of.kp, FunD.bindsN (ps := ["_law_state_here", "_law_some"]) F__law_of (fun _ _ _ _ _ _ us hl => match us, hl with | [_, _], _ => rfl), .nil, O__law_of⟩
  have O_is_number := ok_is_number (P := P) (w := w) (base := base) F_is_number T 
  have G_is_number : FnAt P w K mg base CX0 1 "is_number" ["thing"] [] (spIsNum K) := by
    exact ⟨_, _, [], He.glo_ok X G (c.fact 4 (f := .glo "is_number") rfl), F_is_number.kp, FunD.bindsN (ps := ["thing"]) F_is_number (fun _ _ _ _ _ _ us hl => match us, hl with | [_], _ => rfl), .nil, O_is_number⟩
  have O_need_many := ok_need_many (P := P) (w := w) (base := base) F_need_many T G_is_number
  have G_need_many : FnAt P w K mg base (CXr P w) 2 "need_many" ["many", "most"] [] (spNeed K (cNoMany K) 1) := by
    exact ⟨_, _, [], He.glo_ok X G (c.fact 5 (f := .glo "need_many") rfl), F_need_many.kp, FunD.bindsN (ps := ["many", "most"]) F_need_many (fun _ _ _ _ _ _ us hl => match us, hl with | [_, _], _ => rfl), .nil, O_need_many⟩
  have O_need_place := ok_need_place (P := P) (w := w) (base := base) F_need_place T G_is_number
  have G_need_place : FnAt P w K mg base (CXr P w) 2 "need_place" ["many", "place"] [] (spPlace K) := by
    exact ⟨_, _, [], He.glo_ok X G (c.fact 6 (f := .glo "need_place") rfl), F_need_place.kp, FunD.bindsN (ps := ["many", "place"]) F_need_place (fun _ _ _ _ _ _ us hl => match us, hl with | [_, _], _ => rfl), .nil, O_need_place⟩
  have O_need_count := ok_need_count (P := P) (w := w) (base := base) F_need_count T G_is_number
  have G_need_count : FnAt P w K mg base (CXr P w) 2 "need_count" ["least", "count", "most"] [] (spCount K) := by
    exact ⟨_, _, [], He.glo_ok X G (c.fact 7 (f := .glo "need_count") rfl), F_need_count.kp, FunD.bindsN (ps := ["least", "count", "most"]) F_need_count (fun _ _ _ _ _ _ us hl => match us, hl with | [_, _, _], _ => rfl), .nil, O_need_count⟩
  have O_from_place := ok_from_place (P := P) (w := w) (base := base) F_from_place T 
  have G_from_place : FnAt P w K mg base CX0 1 "from_place" ["hands", "place"] [] (spFrom K) := by
    exact ⟨_, _, [], He.glo_ok X G (c.fact 8 (f := .glo "from_place") rfl), F_from_place.kp, FunD.bindsN (ps := ["hands", "place"]) F_from_place (fun _ _ _ _ _ _ us hl => match us, hl with | [_, _], _ => rfl), .nil, O_from_place⟩
  have O_behind_count := ok_behind_count (P := P) (w := w) (base := base) F_behind_count T G_from_place
  have G_behind_count : FnAt P w K mg base CX0 2 "behind_count" ["hands", "step"] [] (spBehind K) := by
    exact ⟨_, _, [], He.glo_ok X G (c.fact 9 (f := .glo "behind_count") rfl), F_behind_count.kp, FunD.bindsN (ps := ["hands", "step"]) F_behind_count (fun _ _ _ _ _ _ us hl => match us, hl with | [_, _], _ => rfl), .nil, O_behind_count⟩
  have O_stays_last := ok_stays_last (P := P) (w := w) (base := base) F_stays_last T G_behind_count
  have G_stays_last : FnAt P w K mg base CX0 3 "stays_last" ["many", "step", "place"] [] (spStays K) := by
    exact ⟨_, _, [], He.glo_ok X G (c.fact 10 (f := .glo "stays_last") rfl), F_stays_last.kp, FunD.bindsN (ps := ["many", "step", "place"]) F_stays_last (fun _ _ _ _ _ _ us hl => match us, hl with | [_, _, _], _ => rfl), .nil, O_stays_last⟩
  have O_least_step := ok_least_step (P := P) (w := w) (base := base) F_least_step T G_need_many G_need_place G_need_count G_stays_last
  have G_least_step : FnAt P w K mg base (CXr P w) 4 "least_step" ["many", "place", "most"] [] (spLeast K) := by
    obtain ⟨ds_least_step, v_least_step, b_least_step⟩ := FunD.binds1 (ps := ["many", "place", "most"]) F_least_step 3 1 (by simp [d_least_step, He.DefD.dvs]) rfl (fun _ _ _ _ _ _ _ us its hl hi => match us, hl, its, hi with | [_, _, _], _, [_], _ => ⟨_, rfl, rfl⟩)
    exact ⟨_, _, ds_least_step, He.glo_ok X G (c.fact 11 (f := .glo "least_step") rfl), F_least_step.kp, b_least_step, v_least_step, O_least_step⟩
  have G_least_step_d : FnAt P w K mg base (CXr P w) 4 "least_step" ["many", "place", "most"] [V.int (100)] (spLeast K) := by
    obtain ⟨ds_least_step, v_least_step, b_least_step⟩ := FunD.binds1 (ps := ["many", "place", "most"]) F_least_step 2 0 (by simp [d_least_step, He.DefD.dvs]) rfl (fun _ _ _ _ _ _ _ us its hl hi => match us, hl, its, hi with | [_, _], _, [_], _ => ⟨_, rfl, rfl⟩)
    exact ⟨_, _, ds_least_step, He.glo_ok X G (c.fact 11 (f := .glo "least_step") rfl), F_least_step.kp, b_least_step, v_least_step, O_least_step⟩
  have O__law_last := ok__law_last (P := P) (w := w) (base := base) F__law_last T 
  have G__law_last : FnAt P w K mg base CX0 1 "_law_last" ["_law_many", "_law_step"] [] spLawLast := by
    exact ⟨_, _, [], He.glo_ok X G (c.fact 12 (f := .glo "_law_last") rfl), F__law_last.kp, FunD.bindsN (ps := ["_law_many", "_law_step"]) F__law_last (fun _ _ _ _ _ _ us hl => match us, hl with | [_, _], _ => rfl), .nil, O__law_last⟩
  have O__law_least := ok__law_least (P := P) (w := w) (base := base) F__law_least T G__law_last
  have G__law_least : FnAt P w K mg base CX0 2 "_law_least" ["_law_many", "_law_place", "_law_most"] [] spLawLeast := by
    exact ⟨_, _, [], He.glo_ok X G (c.fact 13 (f := .glo "_law_least") rfl), F__law_least.kp, FunD.bindsN (ps := ["_law_many", "_law_place", "_law_most"]) F__law_least (fun _ _ _ _ _ _ us hl => match us, hl with | [_, _, _], _ => rfl), .nil, O__law_least⟩
  have O__law_whole := ok__law_whole (P := P) (w := w) (base := base) F__law_whole T 
  have G__law_whole : FnAt P w K mg base CX0 1 "_law_whole" ["_law_found"] [] (spIsNum K) := by
    exact ⟨_, _, [], He.glo_ok X G (c.fact 14 (f := .glo "_law_whole") rfl), F__law_whole.kp, FunD.bindsN (ps := ["_law_found"]) F__law_whole (fun _ _ _ _ _ _ us hl => match us, hl with | [_], _ => rfl), .nil, O__law_whole⟩
  have O__law_out := ok__law_out (P := P) (w := w) (base := base) F__law_out T 
  have G__law_out : FnAt P w K mg base CX0 1 "_law_out" ["_law_row", "_law_step"] [] (spOut K) := by
    exact ⟨_, _, [], He.glo_ok X G (c.fact 15 (f := .glo "_law_out") rfl), F__law_out.kp, FunD.bindsN (ps := ["_law_row", "_law_step"]) F__law_out (fun _ _ _ _ _ _ us hl => match us, hl with | [_, _], _ => rfl), .nil, O__law_out⟩
  have O__law_error := ok__law_error (P := P) (w := w) (base := base) F__law_error T 
  have G__law_error : FnAt P w K mg base CX0 1 "_law_error" ["_law_e"] [] (spErr K) := by
    exact ⟨_, _, [], He.glo_ok X G (c.fact 16 (f := .glo "_law_error") rfl), F__law_error.kp, FunD.bindsN (ps := ["_law_e"]) F__law_error (fun _ _ _ _ _ _ us hl => match us, hl with | [_], _ => rfl), .nil, O__law_error⟩
  have O__law_told := ok__law_told (P := P) (w := w) (base := base) F__law_told T G_least_step G__law_error
  have G__law_told : FnAt P w K mg base CX0 5 "_law_told" ["_law_many", "_law_place", "_law_most"] [] (spTold7 K) := by
    exact ⟨_, _, [], He.glo_ok X G (c.fact 17 (f := .glo "_law_told") rfl), F__law_told.kp, FunD.bindsN (ps := ["_law_many", "_law_place", "_law_most"]) F__law_told (fun _ _ _ _ _ _ us hl => match us, hl with | [_, _, _], _ => rfl), .nil, O__law_told⟩
  exact ok_law F_law T G__law_state G__law_of G__law_next G__law_cell_at G__law_least G_least_step G__law_whole G__law_out G_least_step_d G__law_told
end Lz
open PySem PySem.W PySem.Calls PyProof.Rows
set_option maxHeartbeats 0 in
theorem PySem.Challenge.cw_countout_k07_steps_wished_holds : PySem.Challenge.rw_countout_k07_steps_wished.Holds := by
  w_on; o_law
  refine HandSHeadRun.head_any (r := Lz.R) (q := view Lz.R.prog [35]) (H := Lz.hk) (ob := Lz.ob) (M := 6000) (loose := Lz.nms) (d := HandSHeadRun.topDef Lz.R.prog 35) (kwd := []) Lz.ob_eq
    (by kernel_rfl) (fun s => by kernel_rfl) Lz.run_top (by kernel_rfl) (by kernel_rfl) (by kernel_rfl) (by rfl) (by first | assumption | decide +kernel) (by decide +kernel) ⟨rfl, rfl, rfl, rfl, rfl, by decide +kernel⟩ ?hw ?hc
  case hw => w_witness2
  case hc =>
    refine L2.walk_ofE (l := PySem.Challenge.rw_countout_k07_steps_wished) (n := 63) (k := 6) (x := "_law_script") (CX := L2.CX0) rfl (by decide) (by kernel_rfl) ⟨rfl, by decide, by decide⟩ ?F (fun _ _ _ _ z => z)
    intro w mg fa h Y G hmg0
    obtain ⟨K, KX, c⟩ := Y
    have hmg : mg ("law" : PySem.Str) = some (.ref fa) := by
      have e : (HandSHeadRun.topDef Lz.R.prog 35).name = ("law" : PySem.Str) := by kernel_rfl
      rw [← e]
      exact hmg0
    obtain ⟨fd, hb, hF⟩ := Lz.facts (P := (PySem.Challenge.rw_countout_k07_steps_wished).prog) (w := w) KX G hmg c.t.d c.more
    exact ⟨K, fd, Lz.spLaw K, KX, hb, fun H a ns hl _ hS => ⟨a, ns, rfl, hS, hl, fun _ => rfl⟩, hF⟩
#print axioms PySem.Challenge.cw_countout_k07_steps_wished_holds
