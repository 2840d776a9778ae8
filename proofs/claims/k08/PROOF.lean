import PyProof.Rows.All
import Wide.All
import OpenK.AllK
import Wide.FinOn
import KE.KStateDown
import HandS.ForMost
import HandS.ForExc
import HandS.Defaults
import HandS.Wide
import HandS.IsInst
import HandS.Style
import HandS.More
import HandS.Deep
import HandS.Codes
import HandS.Conv
import HandS.ExcIs
import HandS.Head0
import HandS.Head1
import HandS.Head2
import HandS.HeadEnd
import HandS.HeadHook1
import HandS.HeadHook2
import HandS.HeadHook3
import HandS.HeadHook4
import PySem.Challenge.RW_countout_k08_rings_counted
set_option Elab.async false
set_option linter.all false
set_option maxRecDepth 100000
set_option maxHeartbeats 4000000
namespace Jo
/-! ### rings as lists -/
def rotL {α : Type} (xs : List α) (k : Nat) : List α := xs.drop k ++ xs.take k
theorem rotL_length {α : Type} (xs : List α) (k : Nat) : (rotL xs k).length = xs.length := by
  unfold rotL
  rw [List.length_append, List.length_drop, List.length_take]
  omega
theorem rotL_map {α β : Type} (f : α → β) (xs : List α) (k : Nat) : rotL (xs.map f) k = (rotL xs k).map f := by
  unfold rotL
  rw [List.map_append, List.map_drop, List.map_take]
theorem rotL_perm {α : Type} (xs : List α) (k : Nat) : (rotL xs k).Perm xs := by
  unfold rotL
  have h : (xs.drop k ++ xs.take k).Perm (xs.take k ++ xs.drop k) := List.perm_append_comm
  rw [List.take_append_drop] at h
  exact h
theorem rotL_get {α : Type} (xs : List α) (k i : Nat) (hk : k ≤ xs.length) (hi : i < xs.length) : (rotL xs k)[i]? = xs[(i + k) % xs.length]? := by
  unfold rotL
  by_cases h : i < xs.length - k
  · rw [List.getElem?_append_left (by rw [List.length_drop]; exact h), List.getElem?_drop, Nat.mod_eq_of_lt (by omega)]
    congr 1
    omega
  · rw [List.getElem?_append_right (by rw [List.length_drop]; omega), List.length_drop, List.getElem?_take]
    have e : (i + k) % xs.length = i - (xs.length - k) := by
      rw [Nat.mod_eq_sub_mod (by omega), Nat.mod_eq_of_lt (by omega)]
      omega
    rw [e, if_pos (by omega)]
/-- counted out by the step t + 1: n turns -/
def outN {α : Type} (t : Nat) : Nat → List α → List α
  | 0, _ => []
  | n + 1, xs => match rotL xs (t % xs.length) with
    | [] => []
    | h :: r => h :: outN t n r
def out {α : Type} (t : Nat) (xs : List α) : List α := outN t xs.length xs
theorem out_nil {α : Type} (t : Nat) : out t ([] : List α) = [] := rfl
theorem out_step {α : Type} {t : Nat} {xs : List α} {h : α} {r : List α} (e : rotL xs (t % xs.length) = h :: r) : out t xs = h :: out t r := by
  have l : r.length + 1 = xs.length := by
    rw [← rotL_length xs (t % xs.length), e]
    rfl
  unfold out
  rw [← l]
  rw [outN, e]
theorem rot_cons {α : Type} (t : Nat) {xs : List α} (h : xs ≠ []) : ∃ x r, rotL xs (t % xs.length) = x :: r ∧ r.length + 1 = xs.length := by
  cases e : rotL xs (t % xs.length) with
  | nil =>
    have l := rotL_length xs (t % xs.length)
    rw [e] at l
    exact absurd (List.eq_nil_of_length_eq_zero l.symm) h
  | cons x r =>
    have l := rotL_length xs (t % xs.length)
    rw [e] at l
    exact ⟨x, r, rfl, l⟩
/-- induction along the counting out -/
theorem out_ind {α : Type} (t : Nat) {M : List α → Prop} (h0 : M []) (h1 : ∀ xs x r, xs ≠ [] → rotL xs (t % xs.length) = x :: r → r.length + 1 = xs.length → M r → M xs) (xs : List α) : M xs := by
  generalize hn : xs.length = n
  induction n generalizing xs with
  | zero => rw [List.eq_nil_of_length_eq_zero hn]; exact h0
  | succ n ih =>
    have hne : xs ≠ [] := fun q => by rw [q] at hn; cases hn
    obtain ⟨x, r, e, l⟩ := rot_cons t hne
    exact h1 xs x r hne e l (ih r (by omega))
theorem out_map {α β : Type} (t : Nat) (f : α → β) (xs : List α) : out t (xs.map f) = (out t xs).map f := by
  induction xs using out_ind t with
  | h0 => rfl
  | h1 xs x r hne e l ih =>
    rw [out_step e]
    have e2 : rotL (xs.map f) (t % (xs.map f).length) = f x :: r.map f := by
      rw [List.length_map, rotL_map, e, List.map_cons]
    rw [out_step e2, ih, List.map_cons]
theorem out_perm {α : Type} (t : Nat) (xs : List α) : (out t xs).Perm xs := by
  induction xs using out_ind t with
  | h0 => exact List.Perm.refl _
  | h1 xs x r hne e l ih =>
    rw [out_step e]
    have h : (x :: r).Perm xs := by
      rw [← e]
      exact rotL_perm xs _
    exact (List.Perm.cons x ih).trans h
theorem out_length {α : Type} (t : Nat) (xs : List α) : (out t xs).length = xs.length := (out_perm t xs).length_eq
theorem out_mod {α : Type} {t u : Nat} {n : Nat} {xs : List α} (hn : xs.length = n) (h : ∀ m, 0 < m → m ≤ n → t % m = u % m) : out t xs = out u xs := by
  induction xs using out_ind t generalizing n with
  | h0 => rfl
  | h1 xs x r hne e l ih =>
    rw [out_step e]
    have e2 : rotL xs (u % xs.length) = x :: r := by
      rw [← h xs.length (by omega) (by omega)]
      exact e
    rw [out_step e2, ih (n := r.length) rfl fun m h1 h2 => h m h1 (by omega)]
/-! ### places by numbers -/
/-- the place, begun at 0 in a ring of n, of the one who is told the number N, counted on and on (s the step) -/
def pos (s : Nat) : Nat → Nat → Nat
  | 0, _ => 0
  | n + 1, N => if N ≤ s then (N - 1) % (n + 1) else (pos s n (N - s) + s) % (n + 1)
theorem pos_lt (s n N : Nat) (h : 0 < n) : pos s n N < n := by
  cases n with
  | zero => cases h
  | succ n =>
    unfold pos
    split
    · exact Nat.mod_lt _ (Nat.succ_pos n)
    · exact Nat.mod_lt _ (Nat.succ_pos n)
theorem pos_low {s n N : Nat} (h : N ≤ s) : pos s (n + 1) N = (N - 1) % (n + 1) := if_pos h
theorem pos_high {s n N : Nat} (h : s < N) : pos s (n + 1) N = (pos s n (N - s) + s) % (n + 1) := if_neg (by omega)
/-- told at the first round -/
theorem pos_first {s : Nat} (hs : 1 ≤ s) : ∀ {n N : Nat}, 1 ≤ N → N ≤ n → pos s n N = N - 1
  | 0, N, h1, h2 => by omega
  | n + 1, N, h1, h2 => by
    by_cases h : N ≤ s
    · rw [pos_low h, Nat.mod_eq_of_lt (by omega)]
    · rw [pos_high (by omega), pos_first hs (n := n) (N := N - s) (by omega) (by omega), Nat.mod_eq_of_lt (by omega)]
      omega
theorem div_zero {a b : Nat} (h : a < b) : a / b = 0 := Nat.div_eq_of_lt h
/-- the number that one was told ahead of N -/
def prev (s n N : Nat) : Nat := N - n + (N - n - 1) / (s - 1)
theorem pos_prev {s : Nat} (hs : 2 ≤ s) : ∀ {n N : Nat}, n < N → N ≤ n * s → pos s n (prev s n N) = pos s n N
  | 0, N, h1, h2 => by
    rw [Nat.zero_mul] at h2
    omega
  | n + 1, N, h1, h2 => by
    by_cases h : N ≤ s
    · have z : (N - (n + 1) - 1) / (s - 1) = 0 := div_zero (by omega)
      have e : prev s (n + 1) N = N - (n + 1) := by
        unfold prev
        rw [z]
        omega
      rw [e, pos_low (by omega), pos_low h]
      have e2 : N - 1 = N - (n + 1) - 1 + (n + 1) := by omega
      rw [e2, Nat.add_mod_right]
    · have hN : N - s ≤ n * s := by
        rw [Nat.succ_mul] at h2
        omega
      rw [pos_high (show s < N by omega)]
      by_cases h3 : N - s ≤ n
      · rw [pos_first (by omega) (by omega) h3]
        have z : (N - (n + 1) - 1) / (s - 1) = 0 := div_zero (by omega)
        have e : prev s (n + 1) N = N - (n + 1) := by
          unfold prev
          rw [z]
          omega
        rw [e, pos_low (by omega)]
        have e2 : N - s - 1 + s = N - (n + 1) - 1 + (n + 1) := by omega
        rw [e2, Nat.add_mod_right]
      · have ih := pos_prev hs (n := n) (N := N - s) (by omega) hN
        have e : prev s (n + 1) N = prev s n (N - s) + s := by
          unfold prev
          have d : N - (n + 1) - 1 = N - s - n - 1 + (s - 1) := by omega
          rw [d, Nat.add_div_right _ (show 0 < s - 1 by omega)]
          omega
        have p : 1 ≤ prev s n (N - s) := by
          unfold prev
          generalize (N - s - n - 1) / (s - 1) = k
          omega
        rw [e, pos_high (by omega), Nat.add_sub_cancel, ih]
theorem prev_lt {s n N : Nat} (hs : 2 ≤ s) (h1 : n < N) (h2 : N ≤ n * s) : prev s n N < N := by
  unfold prev
  have h3 : (N - n - 1) / (s - 1) < n := by
    rw [Nat.div_lt_iff_lt_mul (by omega)]
    have e : n * s = n * (s - 1) + n := by
      have e2 : s = s - 1 + 1 := by omega
      rw [e2, Nat.mul_succ, Nat.add_sub_cancel]
    omega
  omega
theorem prev_pos {s n N : Nat} (h1 : n < N) : 1 ≤ prev s n N := by
  unfold prev
  generalize (N - n - 1) / (s - 1) = k
  omega
/-- the number that one is told next -/
theorem next_prev {s n N : Nat} (hs : 2 ≤ s) (h0 : 0 < N % s) (h2 : N ≤ n * s) : n < n + N - N / s ∧ n + N - N / s ≤ n * s ∧ N < n + N - N / s ∧ prev s n (n + N - N / s) = N := by
  have d := Nat.div_add_mod N s
  have m := Nat.mod_lt N (show 0 < s by omega)
  have q : N / s < n := by
    rw [Nat.div_lt_iff_lt_mul (by omega)]
    by_cases e : N = n * s
    · rw [e, Nat.mul_mod_left] at h0
      omega
    · omega
  have e1 : s * (N / s) = (s - 1) * (N / s) + N / s := by
    have e2 : s = s - 1 + 1 := by omega
    generalize N / s = k
    rw [e2, Nat.succ_mul, Nat.add_sub_cancel]
  have e3 : (s - 1) * (N / s + 1) ≤ (s - 1) * n := Nat.mul_le_mul_left _ q
  have e4 : n * s = (s - 1) * n + n := by
    have e2 : s = s - 1 + 1 := by omega
    generalize s - 1 = k at e2
    rw [e2, Nat.mul_succ, Nat.mul_comm]
  rw [Nat.mul_succ] at e3
  refine ⟨by omega, by omega, by omega, ?_⟩
  unfold prev
  have e5 : (n + N - N / s - n - 1) / (s - 1) = N / s := by
    have e6 : n + N - N / s - n - 1 = (N % s - 1) + (s - 1) * (N / s) := by omega
    rw [e6, Nat.add_mul_div_left _ _ (by omega), div_zero (by omega), Nat.zero_add]
  rw [e5]
  omega
/-! ### the ring of the places -/
theorem rot_range {n k : Nat} (hk : k < n + 1) : rotL (List.range (n + 1)) k = k :: (List.range n).map fun p => (p + 1 + k) % (n + 1) := by
  apply List.ext_getElem?
  intro i
  by_cases hi : i < n + 1
  · rw [rotL_get _ _ _ (by rw [List.length_range]; omega) (by rw [List.length_range]; exact hi), List.length_range, List.getElem?_range (Nat.mod_lt _ (Nat.succ_pos n))]
    cases i with
    | zero =>
      rw [Nat.zero_add, Nat.mod_eq_of_lt hk]
      rfl
    | succ i =>
      rw [List.getElem?_cons_succ, List.getElem?_map, List.getElem?_range (by omega)]
      rfl
  · rw [List.getElem?_eq_none (by rw [rotL_length, List.length_range]; omega), List.getElem?_eq_none (by rw [List.length_cons, List.length_map, List.length_range]; omega)]
theorem mod_add_mod2 (a b n : Nat) : (a + b % n) % n = (a + b) % n := Nat.add_mod_mod a b n
theorem out_range {s : Nat} (hs : 1 ≤ s) : ∀ {n c : Nat}, c < n → (out (s - 1) (List.range n))[c]? = some (pos s n ((c + 1) * s))
  | 0, c, h => by omega
  | n + 1, c, h => by
    have e := rot_range (n := n) (k := (s - 1) % (n + 1)) (Nat.mod_lt _ (Nat.succ_pos n))
    have e2 : rotL (List.range (n + 1)) ((s - 1) % (List.range (n + 1)).length) = (s - 1) % (n + 1) :: (List.range n).map fun p => (p + 1 + (s - 1) % (n + 1)) % (n + 1) := by
      rw [List.length_range]
      exact e
    rw [out_step e2, out_map]
    cases c with
    | zero =>
      rw [Nat.zero_add, Nat.one_mul, pos_low (Nat.le_refl s)]
      rfl
    | succ c =>
      rw [List.getElem?_cons_succ, List.getElem?_map, out_range hs (n := n) (c := c) (by omega)]
      have e3 : (c + 1 + 1) * s = (c + 1) * s + s := Nat.succ_mul _ _
      have e4 : 0 < (c + 1) * s := Nat.mul_pos (by omega) (by omega)
      rw [e3, pos_high (by omega), Nat.add_sub_cancel]
      show some ((pos s n ((c + 1) * s) + 1 + (s - 1) % (n + 1)) % (n + 1)) = _
      rw [mod_add_mod2]
      congr 2
      omega
theorem out_range_nodup (t n : Nat) : (out t (List.range n)).Nodup := (out_perm t (List.range n)).nodup_iff.mpr List.nodup_range
/-- different counts, different places -/
theorem pos_inj {s n c d : Nat} (hs : 1 ≤ s) (hc : c < n) (hd : d < n) (h : pos s n ((c + 1) * s) = pos s n ((d + 1) * s)) : c = d := by
  have e1 := out_range hs hc
  have e2 := out_range hs hd
  rw [h] at e1
  have hN := out_range_nodup (s - 1) n
  obtain ⟨l1, g1⟩ := List.getElem?_eq_some_iff.mp e1
  obtain ⟨l2, g2⟩ := List.getElem?_eq_some_iff.mp e2
  exact (List.getElem_inj hN).mp (g1.trans g2.symm)
end Jo
namespace Jo
/-! ### hand by hand -/
theorem rotL_zero {α : Type} (xs : List α) : rotL xs 0 = xs := by
  unfold rotL
  rw [List.drop_zero, List.take_zero, List.append_nil]
theorem rotL_ext {α : Type} {xs : List α} {k j : Nat} (hk : k ≤ xs.length) (ys : List α) (hl : ys.length = xs.length) (h : ∀ i, i < xs.length → ys[i]? = xs[(i + k) % xs.length]?) : ys = rotL xs k := by
  apply List.ext_getElem?
  intro i
  by_cases hi : i < xs.length
  · rw [rotL_get xs k i hk hi, h i hi]
  · rw [List.getElem?_eq_none (by omega), List.getElem?_eq_none (by rw [rotL_length]; omega)]
/-- one hand more -/
theorem rotL_more {α : Type} (x : α) (r : List α) (k : Nat) : rotL (r ++ [x]) (k % (x :: r).length) = rotL (x :: r) ((k + 1) % (x :: r).length) := by
  have hn : 0 < (x :: r).length := Nat.succ_pos _
  have l : (r ++ [x]).length = (x :: r).length := by rw [List.length_append]; rfl
  have m1 := Nat.mod_lt k hn
  have m2 := Nat.mod_lt (k + 1) hn
  refine rotL_ext (j := 0) (Nat.le_of_lt m2) _ (by rw [rotL_length, l]) fun i hi => ?_
  rw [rotL_get _ _ _ (by rw [l]; omega) (by rw [l]; exact hi), l]
  have e : ∀ j, j < (x :: r).length → (r ++ [x])[j]? = (x :: r)[(j + 1) % (x :: r).length]? := fun j hj => by
    have hj' : j < r.length + 1 := hj
    by_cases h : j < r.length
    · rw [List.getElem?_append_left h, Nat.mod_eq_of_lt (by show j + 1 < r.length + 1; omega), List.getElem?_cons_succ]
    · have ej : j = r.length := by omega
      subst ej
      rw [List.getElem?_append_right (Nat.le_refl _), Nat.sub_self]
      have z : (r.length + 1) % (x :: r).length = 0 := Nat.mod_self _
      rw [z]
      rfl
  rw [e _ (Nat.mod_lt _ hn)]
  congr 1
  rw [Nat.mod_add_mod, Nat.add_mod_mod]
  have a1 : i + k % (x :: r).length + 1 = (i + 1) + k % (x :: r).length := by omega
  rw [a1, Nat.add_mod_mod]
  congr 1
  omega
theorem told_mod {s n : Nat} (hs : 1 ≤ s) (hn : 0 < n) : (s % n + 2 * n - 1) % n = (s - 1) % n := by
  have h := Nat.div_add_mod s n
  by_cases e : s % n = 0
  · have e1 : s % n + 2 * n - 1 = n - 1 + n := by omega
    have hq : 0 < s / n := by
      rcases Nat.eq_zero_or_pos (s / n) with z | z
      · rw [z, Nat.mul_zero] at h
        omega
      · exact z
    have e2 : s - 1 = n - 1 + n * (s / n - 1) := by
      have e3 : n * (s / n) = n * (s / n - 1) + n := by
        have e4 : s / n = s / n - 1 + 1 := by omega
        generalize s / n - 1 = k at e4
        rw [e4, Nat.mul_succ]
      omega
    rw [e1, Nat.add_mod_right, e2, Nat.add_mul_mod_self_left]
  · have e1 : s % n + 2 * n - 1 = (s % n - 1) + n * 2 := by omega
    have e2 : s - 1 = (s % n - 1) + n * (s / n) := by omega
    rw [e1, Nat.add_mul_mod_self_left, e2, Nat.add_mul_mod_self_left]
end Jo
namespace Jo
theorem rot_range_map {n b : Nat} (hb : b < n) : rotL (List.range n) b = (List.range n).map fun p => (p + b) % n := by
  apply List.ext_getElem?
  intro i
  by_cases hi : i < n
  · rw [rotL_get _ _ _ (by rw [List.length_range]; omega) (by rw [List.length_range]; exact hi), List.length_range,
      List.getElem?_range (Nat.mod_lt _ (by omega)), List.getElem?_map, List.getElem?_range hi]
    rfl
  · rw [List.getElem?_eq_none (by rw [rotL_length, List.length_range]; omega), List.getElem?_eq_none (by rw [List.length_map, List.length_range]; omega)]
/-- a place told from the beginning b, and back -/
theorem turn_back {n b x : Nat} (hb : b < n) (hx : x < n) : ((b + x) % n + n - b) % n = x := by
  by_cases h : b + x < n
  · rw [Nat.mod_eq_of_lt h]
    have e : b + x + n - b = x + n := by omega
    rw [e, Nat.add_mod_right, Nat.mod_eq_of_lt hx]
  · have e : (b + x) % n = b + x - n := by rw [Nat.mod_eq_sub_mod (by omega), Nat.mod_eq_of_lt (by omega)]
    rw [e]
    have e2 : b + x - n + n - b = x := by omega
    rw [e2, Nat.mod_eq_of_lt hx]
theorem cnt_unique {n s b i c : Nat} (hs : 1 ≤ s) (hb : b < n) (hi : i < n) (c1 : 1 ≤ c) (c2 : c ≤ n)
    (h : pos s n (c * s) = ((b + pos s n ((i + 1) * s)) % n + n - b) % n) : c = i + 1 := by
  rw [turn_back hb (pos_lt _ _ _ (by omega))] at h
  have e : c = c - 1 + 1 := by omega
  rw [e] at h
  have := pos_inj hs (by omega) hi h
  omega
end Jo
namespace Jo
/-- many hands more at once, where no round ends -/
theorem pos_leap {s m N : Nat} (hs : 1 ≤ s) (hN : 1 ≤ N) : ∀ L : Nat, pos s m N + (s - 1) * L < m → pos s (m + L) (N + L * s) = pos s m N + s * L
  | 0, _ => by rw [Nat.zero_mul, Nat.mul_zero, Nat.add_zero, Nat.add_zero, Nat.add_zero]
  | L + 1, h => by
    have h1 : (s - 1) * (L + 1) = (s - 1) * L + (s - 1) := Nat.mul_succ _ _
    have h2 : s * (L + 1) = (s - 1) * (L + 1) + (L + 1) := by
      have e : s = s - 1 + 1 := by omega
      generalize s - 1 = k at e
      rw [e, Nat.succ_mul]
    have h3 : s * (L + 1) = s * L + s := Nat.mul_succ _ _
    have ih := pos_leap hs hN (m := m) L (by omega)
    have e1 : N + (L + 1) * s = N + L * s + s := by
      rw [Nat.succ_mul, Nat.add_assoc]
    have e2 : m + (L + 1) = m + L + 1 := rfl
    rw [e1, e2, pos_high (by omega), Nat.add_sub_cancel, ih, Nat.mod_eq_of_lt (by omega)]
    omega
/-- one hand more, or many where no round ends -/
theorem pos_leap1 {s m N L : Nat} (hs : 1 ≤ s) (hN : 1 ≤ N) (h : L = 1 ∨ pos s m N + (s - 1) * L < m) : pos s (m + L) (N + L * s) = (pos s m N + s * L) % (m + L) := by
  rcases h with rfl | h
  · rw [Nat.one_mul, Nat.mul_one, pos_high (by omega), Nat.add_sub_cancel]
  · rw [pos_leap hs hN L h, Nat.mod_eq_of_lt]
    have h2 : s * L = (s - 1) * L + L := by
      have e : s = s - 1 + 1 := by omega
      generalize s - 1 = k at e
      rw [e, Nat.succ_mul]
    omega
/-- a place turned by the beginning -/
theorem turn_fwd {n b p : Nat} (hb : b < n) (hp : p < n) : (b + (p + n - b) % n) % n = p := by
  rw [Nat.add_mod_mod]
  have e : b + (p + n - b) = p + n := by omega
  rw [e, Nat.add_mod_right, Nat.mod_eq_of_lt hp]
end Jo
namespace Jo
theorem turn_inv {n L b p : Nat} (hL : L < n) (hb : b < n) (hp : p < n) : (b + L) % n = p ↔ b = (p + n - L) % n := by
  constructor
  · intro h
    have e := turn_back hL hb
    rw [Nat.add_comm L b, h] at e
    exact e.symm
  · intro h
    have e := turn_fwd hL hp
    rw [← h, Nat.add_comm] at e
    exact e
end Jo
namespace Jo
/-- each place goes at some count -/
theorem pos_surj {s n x : Nat} (hs : 1 ≤ s) (hx : x < n) : ∃ c, 1 ≤ c ∧ c ≤ n ∧ pos s n (c * s) = x := by
  have hm : x ∈ out (s - 1) (List.range n) := (out_perm _ _).mem_iff.mpr (List.mem_range.mpr hx)
  obtain ⟨i, hi, e⟩ := List.mem_iff_getElem.mp hm
  have hl : i < n := by
    rw [out_length, List.length_range] at hi
    exact hi
  have e2 := out_range hs hl
  rw [List.getElem?_eq_getElem hi, e] at e2
  exact ⟨i + 1, by omega, by omega, (Option.some.inj e2).symm⟩
theorem pos_one {s n c d : Nat} (hs : 1 ≤ s) (c1 : 1 ≤ c) (c2 : c ≤ n) (d1 : 1 ≤ d) (d2 : d ≤ n) (h : pos s n (c * s) = pos s n (d * s)) : c = d := by
  have e1 : c = c - 1 + 1 := by omega
  have e2 : d = d - 1 + 1 := by omega
  rw [e1, e2] at h
  have := pos_inj hs (by omega) (by omega) h
  omega
end Jo
namespace Lz
open PySem PySem.Spec PyProof.Rows L2
/-! ### a def by its name: where it stands, how it binds, its promise -/
abbrev FnP (K : PySem.W.Frag) (x qual : Str) (st : Stmt) (dvs : List V) (f : Addr) (fd : FuncData) : Prop :=
  FunD K x qual (defArgs st) (defBody st) (defScope st) dvs [] f fd
abbrev CXr (P : Program) (w : World) : CXT := L2.CX P w
def FnAt (P : Program) (w : World) (K : PySem.W.Frag) (mg : Str → Option Value) (base : Heap) (C : CXT) (k : Nat)
    (x : Str) (ps : List Str) (dvs : List V) (sp : Sp) : Prop :=
  ∃ (f : Addr) (fd : FuncData) (ds : List Value), mg x = some (.ref f) ∧ PySem.W.keepIn K (.ref f) = true ∧
    Binds K fd ps ds ∧ Vals dvs ds ∧ FnOk P w K mg base C k f fd ps sp
/-- a method of the class at D -/
def FnMt (P : Program) (w : World) (K : PySem.W.Frag) (mg : Str → Option Value) (base : Heap) (C : CXT) (k : Nat)
    (D : Addr) (m : Str) (ps : List Str) (dvs : List V) (sp : Sp) : Prop :=
  ∃ (f : Addr) (fd : FuncData) (ds : List Value), Meth K D m f ∧ Binds K fd ps ds ∧ Vals dvs ds ∧
    FnOk P w K mg base C k f fd ps sp
/-- the maker of the class at D, by the module's name x -/
def FnMk (P : Program) (w : World) (K : PySem.W.Frag) (mg : Str → Option Value) (base : Heap) (C : CXT) (k : Nat)
    (x : Str) (D : Addr) (ps : List Str) (dvs : List V) (sp : Sp) : Prop :=
  ∃ (f : Addr) (fd : FuncData) (ds : List Value), Mk K D f ∧ mg x = some (.ref D) ∧ Binds K fd ps ds ∧ Vals dvs ds ∧
    FnOk P w K mg base C k f fd ps sp
section
variable {X : Cx} {C : CXT} {k : Nat} {x : Str} {ps : List Str} {dvs : List V} {sp : Sp} {E : XK} {p pos : Pos} {e o : Expr} {es : List Expr} {t : TA}
theorem pe_fn (G : FnAt X.prog X.w X.K X.mg X.base C k x ps dvs sp) (hr : Room k X.A) (hx : Passes C X E) (ha : PA X (e :: es) t)
    (hg : Gl X x := by rfl) (hdb : (x == ("__debug__" : Str)) = false := by decide)
    (he : starEach (e :: es) X.env = (false, eval e X.env) :: starEach es X.env := by rfl)
    (hpl : (backTo pos (starEach es X.env)).any (·.1) = false := by rfl) :
    PE X (.Call (.Name x p) (e :: es) [] pos) (tCall sp dvs E t) := by
  obtain ⟨f, fd, ds, h1, h2, h3, h4, h5⟩ := G
  exact pe_call h5 hr hg h1 h2 h3 h4 hx ha hdb he hpl
/-- a whole number of the module -/
theorem pe_gint {i : Int} (h : ∃ t, X.mg x = some (.int i t)) (hg : Gl X x := by rfl) (hdb : (x == ("__debug__" : Str)) = false := by decide) :
    PE X (.Name x pos) (tC (.int i)) := by
  obtain ⟨t, h⟩ := h
  exact pe_glob hg h ⟨t, rfl⟩ hdb
end
/-! ### heaps: all but some places is kept -/
def Kp (ws : List Addr) (H H' : Hp) : Prop := ∀ a o, H a = some o → a ∉ ws → H' a = some o
section
variable {ws vs : List Addr} {H H1 H2 : Hp} {a p : Addr} {o u : HO}
theorem Kp.refl (H : Hp) : Kp ws H H := fun _ _ h _ => h
theorem Kp.trans (x : Kp ws H H1) (y : Kp ws H1 H2) : Kp ws H H2 := fun a o h n => y a o (x a o h n) n
theorem Kp.mono (x : Kp ws H H1) (h : ∀ a, a ∈ ws → a ∈ vs) : Kp vs H H1 := fun a o e n => x a o e fun q => n (h a q)
theorem Kp.new (h : H p = none) : Kp ws H (upd H p o) := fun a u e _ => by
  rw [upd_ne (ne_of_none e h)]
  exact e
theorem Kp.put (h : p ∈ ws) : Kp ws H (upd H p o) := fun a u e n => by
  have q : a ≠ p := fun q => n (by rw [q]; exact h)
  rw [upd_ne q]
  exact e
/-- new since H -/
theorem Kp.late (x : Kp ws H H1) (h : H p = none) : Kp ws H (upd H1 p o) := fun a u e n => by
  rw [upd_ne (ne_of_none e h)]
  exact x a u e n
theorem Kp.same (x : Kp [] H H1) : Same H H1 := fun a o h => x a o h (List.not_mem_nil)
theorem Kp.of (x : Same H H1) : Kp ws H H1 := fun a o h _ => x a o h
theorem Kp.one (x : Kp [p] H H1) (h : H a = some o) (n : a ≠ p) : H1 a = some o := x a o h fun q => n (List.mem_singleton.mp q)
theorem Kp.lst {K : PySem.W.Frag} {xs : List V} (x : Kp ws H H1) (h : SqL K H a xs) (n : a ∉ ws) : SqL K H1 a xs := by
  rcases h with (h | ⟨o, h⟩) | h
  · exact .inl (.inl (x _ _ h n))
  · exact .inl (.inr ⟨o, x _ _ h n⟩)
  · exact .inr h
/-- where H knows and nothing was written, what is free behind was free before -/
theorem Kp.free (x : Kp ws H H1) (h : H1 p = none) (n : p ∉ ws) : H p = none := by
  cases q : H p with
  | none => rfl
  | some o =>
    have e := x p o q n
    rw [h] at e
    cases e
end
theorem sz (n : Nat) (h : n ≤ 1000000) : n ≤ sizeLine := Nat.le_trans h (by decide)
theorem szl (n : Nat) (h : n ≤ 1000000) : n < sizeLine := Nat.lt_of_le_of_lt h (by decide)
/-! ### exceptions of the program -/
structure ExcT (K : PySem.W.Frag) (C : Addr) : Prop where
  q : PySem.W.excIn K C He.veBase "ValueError.__new__" = true
  k : PySem.W.keepIn K (.ref C) = true
  s : PySem.W.subIn K (.ref C) (.type "BaseException") = some true
  t : PySem.W.typeIn K (.ref C) = some (.type "type")
theorem pmk_t {X : Cx} {C : Addr} {x m : Str} {j : Nat} {p p2 pos : Pos} (T : ExcT X.K C) (g : X.mg x = some (.ref C)) (hg : Gl X x := by rfl)
    (hdb : (x == ("__debug__" : Str)) = false := by decide) :
    PMk X (.Call (.Name x p) [.Constant (.str m) j p2] [] pos) (fun _ H Q => Q (.ref C) none H) :=
  pmk_own PySem.F.excBase_ValueError T.q g T.k (raises_own T.s T.t) hg hdb
/-! ### kinds of values -/
/-- not a whole number (True and False are none) -/
def NotNum (K : PySem.W.Frag) (H : Hp) (x : V) : Prop :=
  ∃ t : String, TyX K H x (.type t) ∧ t ∈ ["NoneType", "bool", "str", "list", "tuple", "dict"]
theorem NotNum.non {K : PySem.W.Frag} {H : Hp} : NotNum K H .non := ⟨_, .base .non, by simp⟩
theorem NotNum.bl {K : PySem.W.Frag} {H : Hp} {b : Bool} : NotNum K H (.bl b) := ⟨_, .base (.bl b), by simp⟩
theorem NotNum.str {K : PySem.W.Frag} {H : Hp} {z : Str} : NotNum K H (.str z) := ⟨_, .base (.str z), by simp⟩
theorem NotNum.lst {K : PySem.W.Frag} {H : Hp} {a : Addr} {xs : List V} (h : H a = some (.lst xs)) : NotNum K H (.ref a) := ⟨_, .base (.lst h), by simp⟩
theorem NotNum.tup {K : PySem.W.Frag} {H : Hp} {a : Addr} {xs : List V} (h : H a = some (.tup xs)) : NotNum K H (.ref a) := ⟨_, .base (.tup h), by simp⟩
/-- no whole number from lo to hi -/
def OutN (K : PySem.W.Frag) (H : Hp) (lo hi : Int) (x : V) : Prop := NotNum K H x ∨ ∃ i : Int, x = .int i ∧ ¬ (lo ≤ i ∧ i ≤ hi)
/-! ### lists of whole numbers and texts, compared -/
def PD : V → PyData
  | .int i => .int i
  | .str z => .str z
  | .bl b => .bool b
  | _ => .none
def isS : V → Bool
  | .int _ => true
  | .str z => PyData.strOk z
  | _ => false
theorem PD_dp {K : PySem.W.Frag} {H : Hp} {v : V} (h : isS v = true) : Dp K H v (PD v) := by
  cases v with
  | int i => exact .int i
  | str z => exact .str z
  | _ => cases h
theorem PD_all {K : PySem.W.Frag} {H : Hp} : ∀ {xs : List V}, xs.all isS = true → DpAll K H xs (xs.map PD)
  | [], _ => .nil
  | x :: xs, h => by
    rw [List.all_cons, Bool.and_eq_true] at h
    exact .cons (PD_dp h.1) (PD_all h.2)
theorem PD_lay : ∀ {xs : List V}, xs.all isS = true → PyData.canLayAll0 (xs.map PD) = true ∧ PyData.depthAll (xs.map PD) = 0
  | [], _ => ⟨by simp [PyData.canLayAll0], by simp [PyData.depthAll]⟩
  | x :: xs, h => by
    rw [List.all_cons, Bool.and_eq_true] at h
    obtain ⟨h1, h2⟩ := PD_lay h.2
    have h3 : PyData.canLay0 (PD x) = true ∧ PyData.depth (PD x) = 0 := by
      cases x with
      | int i => simp [PD, PyData.canLay0, PyData.depth]
      | str z =>
        have hz : PyData.strOk z = true := h.1
        simp [PD, PyData.canLay0, PyData.depth, hz]
      | _ => cases h.1
    exact ⟨by rw [List.map_cons, PyData.canLayAll0, h3.1, h1]; rfl, by rw [List.map_cons, PyData.depthAll, h3.2, h2]; rfl⟩
theorem PD_shaped {xs : List V} (h : xs.all isS = true) : SeqAt.shaped (.list (xs.map PD)) = true := by
  obtain ⟨h1, h2⟩ := PD_lay h
  unfold SeqAt.shaped
  rw [Bool.and_eq_true]
  exact ⟨by rw [PyData.canLay0]; exact h1, by rw [PyData.depth, h2]; rfl⟩
theorem PD_eqv1 {x y : V} (hx : isS x = true) (hy : isS y = true) : PyData.eqv (PD x) (PD y) = decide (x = y) := by
  cases x with
  | int i =>
    cases y with
    | int j =>
      show PyData.eqv (.int i) (.int j) = _
      rw [PyData.eqv]
      by_cases e : i = j
      · subst e
        simp
      · have e2 : ¬ (V.int i = V.int j) := fun q => e (V.int.inj q)
        rw [decide_eq_false e2]
        exact beq_eq_false_iff_ne.mpr e
    | str z =>
      show PyData.eqv (.int i) (.str z) = _
      rw [PyData.eqv]
      exact (decide_eq_false (fun q => nomatch q)).symm
    | _ => cases hy
  | str z =>
    cases y with
    | int j =>
      show PyData.eqv (.str z) (.int j) = _
      rw [PyData.eqv]
      exact (decide_eq_false (fun q => nomatch q)).symm
    | str u =>
      show PyData.eqv (.str z) (.str u) = _
      rw [PyData.eqv]
      by_cases e : z = u
      · subst e
        simp
      · have e2 : ¬ (V.str z = V.str u) := fun q => e (V.str.inj q)
        rw [decide_eq_false e2]
        exact beq_eq_false_iff_ne.mpr e
    | _ => cases hy
  | _ => cases hx
theorem PD_eqv : ∀ {xs ys : List V}, xs.all isS = true → ys.all isS = true → PyData.eqvAll (xs.map PD) (ys.map PD) = decide (xs = ys)
  | [], [], _, _ => by simp [PyData.eqvAll]
  | [], y :: ys, _, _ => by simp [PyData.eqvAll]
  | x :: xs, [], _, _ => by simp [PyData.eqvAll]
  | x :: xs, y :: ys, hx, hy => by
    rw [List.all_cons, Bool.and_eq_true] at hx hy
    rw [List.map_cons, List.map_cons, PyData.eqvAll, PD_eqv1 hx.1 hy.1, PD_eqv hx.2 hy.2, ← Bool.decide_and]
    exact decide_eq_decide.mpr (by rw [List.cons.injEq])
section
variable {K : PySem.W.Frag} {H : Hp} {p q : Addr} {xs ys : List V} {Q : VK}
theorem eqD_l (hp : SqL K H p xs) (hq : SqL K H q ys) (fx : xs.all isS = true) (fy : ys.all isS = true) (k : Q (.bl (decide (xs = ys))) H) : rEqD K (.ref p) (.ref q) H Q :=
  ⟨_, _, .lst hp (PD_all fx), .lst hq (PD_all fy), PD_shaped fx, PD_shaped fy, by
    have e : PyData.eqv (.list (xs.map PD)) (.list (ys.map PD)) = decide (xs = ys) := by rw [PyData.eqv, PD_eqv fx fy]
    rw [e]
    exact k⟩
theorem neD_l (hp : SqL K H p xs) (hq : SqL K H q ys) (fx : xs.all isS = true) (fy : ys.all isS = true) (k : Q (.bl (!decide (xs = ys))) H) : rNeD K (.ref p) (.ref q) H Q :=
  ⟨_, _, .lst hp (PD_all fx), .lst hq (PD_all fy), PD_shaped fx, PD_shaped fy, by
    have e : PyData.eqv (.list (xs.map PD)) (.list (ys.map PD)) = decide (xs = ys) := by rw [PyData.eqv, PD_eqv fx fy]
    rw [e]
    exact k⟩
end
theorem isS_ints {α : Type} (f : α → Int) (xs : List α) : (xs.map fun x => V.int (f x)).all isS = true := by
  rw [List.all_map, List.all_eq_true]
  intro x _
  rfl
/-! ### slices from and to a place -/
theorem cut_from (xs : List V) (k : Nat) : cutV xs (some (k : Int)) none = xs.drop k := by
  unfold cutV
  rw [HT.sIx_nat, HT.sIx_none]
  by_cases h : k ≤ xs.length
  · rw [Nat.min_eq_left h, List.take_of_length_le (by rw [List.length_drop]; exact Nat.le_refl _)]
  · rw [Nat.min_eq_right (by omega), List.drop_of_length_le (Nat.le_refl _), List.drop_of_length_le (by omega), List.take_nil]
theorem cut_to (xs : List V) (k : Nat) : cutV xs none (some (k : Int)) = xs.take k := by
  unfold cutV
  rw [HT.sIx_nat, HT.sIx_none, List.drop_zero, Nat.sub_zero]
  by_cases h : k ≤ xs.length
  · rw [Nat.min_eq_left h]
  · rw [Nat.min_eq_right (by omega), List.take_of_length_le (Nat.le_refl _), List.take_of_length_le (by omega)]
/-! ### for i, x in enumerate(xs) -/
theorem for_enum {K : PySem.W.Frag} {a : Addr} {xs : List V} {g : TG} {tb : TS} {D : Ends} {σ : L2.St} {H : Hp} (M : Nat → L2.St → Hp → Prop) (h0 : M 0 σ H)
    (hl : ∀ i σ H, i ≤ xs.length → M i σ H → SqL K H a xs)
    (hs : ∀ i x σ H T, xs[i]? = some x → M i σ H → H T = none → g (.ref T) σ (upd H T (.tup [.int (i : Nat), x])) fun σ2 H2 => tb { D with nx := M (i + 1), ct := M (i + 1), bk := D.nx } σ2 H2)
    (hd : ∀ σ H, M xs.length σ H → D.nx σ H) :
    ∃ W : Nat → Nat → L2.St → Hp → Prop, (∃ m, W 0 m σ H) ∧ ∀ i m σ H, W i m σ H →
      ((Ite K a).stop i H ∧ D.nx σ H) ∨ ((Ite K a).go i H ∧ ∃ N : L2.St → Hp → Prop, (∀ σ' H', N σ' H' → ∃ m', m' < m ∧ W (i + 1) m' σ' H') ∧
        ∀ x H', (Ite K a).yld i H x H' → g x σ H' fun σ2 H2 => tb { D with nx := N, ct := N, bk := D.nx } σ2 H2) := by
  refine ⟨fun i m σ H => m = xs.length - i ∧ i ≤ xs.length ∧ M i σ H, ⟨xs.length, by simp, Nat.zero_le _, h0⟩, ?_⟩
  rintro i m σ H ⟨rfl, hi, p⟩
  have q := hl i σ H hi p
  by_cases hlt : i < xs.length
  · refine .inr ⟨⟨xs, xs[i], q, by simp [hlt]⟩, M (i + 1), fun σ' H' p' => ⟨xs.length - (i + 1), by omega, rfl, hlt, p'⟩, fun v H' y => ?_⟩
    obtain ⟨T, x, rfl, hT, rfl, e⟩ := y
    exact hs i x σ H T (e xs q) p hT
  · have e : i = xs.length := by omega
    subst e
    exact .inl ⟨⟨xs, q, Nat.le_refl _⟩, hd σ H p⟩
/-! ### the law's draws: a list of one number -/
def StOk (s : Int) : Prop := 0 ≤ s ∧ s < 4294967296
def StAt (H : Hp) (st : Addr) : Prop := ∃ s, StOk s ∧ H st = some (.lst [.int s])
/-- some draws were made: the state's number changed, what is new may stand beside -/
def Drew (st : Addr) (H H' : Hp) : Prop := Kp [st] H H' ∧ StAt H' st
section
variable {st a p : Addr} {H H1 H2 : Hp} {o : HO}
theorem Drew.trans (x : Drew st H H1) (y : Drew st H1 H2) : Drew st H H2 := ⟨x.1.trans y.1, y.2⟩
theorem Drew.at (x : Drew st H H1) (h : H a = some o) (n : a ≠ st) : H1 a = some o := x.1.one h n
theorem Drew.lst {K : PySem.W.Frag} {xs : List V} (x : Drew st H H1) (h : SqL K H a xs) (n : a ≠ st) : SqL K H1 a xs := x.1.lst h fun q => n (List.mem_singleton.mp q)
theorem Drew.free (x : Drew st H H1) (h : H1 p = none) : H p = none := x.1.free h fun q => by
  obtain ⟨s, _, e⟩ := x.2
  rw [List.mem_singleton.mp q, e] at h
  cases h
theorem Drew.new (x : Drew st H H1) (h : H1 p = none) : Drew st H (upd H1 p o) := by
  obtain ⟨s, h1, e⟩ := id x.2
  exact ⟨x.1.trans (Kp.new h), s, h1, by rw [upd_ne (ne_of_none e h)]; exact e⟩
theorem StAt.new (x : StAt H st) (h : H p = none) : StAt (upd H p o) st := by
  obtain ⟨s, h1, e⟩ := x
  exact ⟨s, h1, by rw [upd_ne (ne_of_none e h)]; exact e⟩
theorem Drew.refl (x : StAt H st) : Drew st H H := ⟨Kp.refl H, x⟩
theorem StAt.ne {xs : List V} (x : StAt H st) (h : H a = some (.lst xs)) (n : 2 ≤ xs.length) : a ≠ st := fun q => by
  obtain ⟨s, _, e⟩ := x
  rw [q, e] at h
  injection h with h
  injection h with h
  rw [← h] at n
  exact absurd n (by simp)
end
/-! ### small facts -/
theorem emod_nat {s : Int} (n : Nat) (h : 0 ≤ s) : s % (n : Int) = ((s.toNat % n : Nat) : Int) := by
  obtain ⟨k, rfl⟩ := Int.eq_ofNat_of_zero_le h
  rfl
theorem seq0 {α : Type} (x : α) (c : List α) : seqIndex? 0 (x :: c).length = some 0 := by
  have h : (0 : Int) < ((c.length + 1 : Nat) : Int) := by omega
  simp [seqIndex?, h]
theorem StAt.fresh {H : Hp} {st p : Addr} (x : StAt H st) (h : H p = none) : p ≠ st := fun q => by
  obtain ⟨s, _, e⟩ := x
  rw [q, e] at h
  cases h
theorem StAt.keep {H H1 : Hp} {st : Addr} {ws : List Addr} (k : Kp ws H H1) (x : StAt H st) (n : st ∉ ws) : StAt H1 st := by
  obtain ⟨s, h1, e⟩ := x
  exact ⟨s, h1, k _ _ e n⟩
theorem StAt.same {H H1 : Hp} {st : Addr} (x : StAt H st) (k : Kp [] H H1) : StAt H1 st := x.keep k List.not_mem_nil
theorem Drew.kp {H H1 : Hp} {st : Addr} (k : Kp [] H H1) (x : StAt H st) : Drew st H H1 := ⟨k.mono fun _ h => absurd h List.not_mem_nil, x.same k⟩
theorem rotL_all {α : Type} {f : α → Bool} {xs : List α} (k : Nat) (h : xs.all f = true) : (Jo.rotL xs k).all f = true := by
  rw [List.all_eq_true] at h ⊢
  intro x hx
  exact h x ((Jo.rotL_perm xs k).mem_iff.mp hx)
theorem out_all {α : Type} {f : α → Bool} {xs : List α} (t : Nat) (h : xs.all f = true) : (Jo.out t xs).all f = true := by
  rw [List.all_eq_true] at h ⊢
  intro x hx
  exact h x ((Jo.out_perm t xs).mem_iff.mp hx)
theorem rgV_all (n : Nat) : (rgV 0 n).all isS = true := by
  unfold rgV
  rw [List.all_map, List.all_eq_true]
  intro x _
  rfl
theorem rgV_len (n : Nat) : (rgV 0 n).length = n := by
  rw [rgV_length]
  omega
/-- the places in the order in which they go -/
abbrev ordV (s n b : Nat) : List V := Jo.out (s - 1) (Jo.rotL (rgV 0 n) b)
theorem ordV_len (s n b : Nat) : (ordV s n b).length = n := by rw [Jo.out_length, Jo.rotL_length, rgV_len]
theorem ordV_all (s n b : Nat) : (ordV s n b).all isS = true := out_all _ (rotL_all _ (rgV_all n))
theorem ordV_get {s n b i : Nat} (hs : 1 ≤ s) (hb : b < n) (hi : i < n) : (ordV s n b)[i]? = some (.int (((b + Jo.pos s n ((i + 1) * s)) % n : Nat) : Int)) := by
  have e : rgV 0 n = (List.range n).map fun i => V.int ((i : Nat) : Int) := by
    unfold rgV
    have e1 : ((n : Int) - 0).toNat = n := by omega
    rw [e1]
    refine List.map_congr_left fun x _ => ?_
    rw [Int.zero_add]
  unfold ordV
  rw [e, Jo.rotL_map, Jo.rot_range_map hb, List.map_map, Jo.out_map, List.getElem?_map, Jo.out_range hs hi]
  show some (V.int (((Jo.pos s n ((i + 1) * s) + b) % n : Nat) : Int)) = _
  rw [Nat.add_comm]
theorem rotL_id {α : Type} (xs : List α) : Jo.rotL xs 0 = xs := Jo.rotL_zero xs
theorem at_last {α : Type} {xs : List α} {n : Nat} {v : α} (hl : xs.length = n) (hn : 0 < n) (h : xs[n - 1]? = some v) : atI xs (-1) = some v := by
  have e : ixN xs.length (-1) = some (n - 1) := by
    unfold ixN
    rw [hl, if_neg (by decide), if_pos (by omega)]
    congr 1
    omega
  unfold atI
  rw [e]
  exact h
section
variable {K : PySem.W.Frag} {H : Hp} {p q : Addr} {xs : List V} {x : V} {Q : VK}
theorem ne_same (h : scal x x = true) (k : Q (.bl false) H) : rNe x x H Q := ⟨h, by rw [decide_eq_true rfl]; exact k⟩
theorem eq_same (h : scal x x = true) (k : Q (.bl true) H) : rEq x x H Q := ⟨h, by rw [decide_eq_true rfl]; exact k⟩
theorem neD_same (hp : SqL K H p xs) (hq : SqL K H q xs) (fx : xs.all isS = true) (k : Q (.bl false) H) : rNeD K (.ref p) (.ref q) H Q :=
  neD_l hp hq fx fx (by rw [decide_eq_true rfl]; exact k)
theorem eqD_same (hp : SqL K H p xs) (hq : SqL K H q xs) (fx : xs.all isS = true) (k : Q (.bl true) H) : rEqD K (.ref p) (.ref q) H Q :=
  eqD_l hp hq fx fx (by rw [decide_eq_true rfl]; exact k)
end
theorem exct {K : PySem.W.Frag} {x : Str} (h : (He.Fa.exc x).ok K = true) : ExcT K (He.ga K x) := by
  obtain ⟨h1, h2, h3, h4⟩ := He.exc_ok h
  exact ⟨h1, h2, h3, h4⟩
/-- a def with defaults, called with all its arguments -/
theorem bindsFull {K : PySem.W.Frag} {x qual : Str} {params : Arguments} {body : List Stmt} {scope : Scope} {dvs : List V} {f : Addr} {fd : FuncData} {ps : List Str}
    (F : FunD K x qual params body scope dvs [] f fd) (hd : dvs ≠ [])
    (h : ∀ (T : Addr) (kV doc pm : Value) (an : Option Addr) (cdv ct : Value) (us : List Value), us.length = ps.length →
      bindArgs (PySem.W.fnOf x qual params body scope (.ref T) kV doc pm an cdv ct) ⟨us, []⟩ = pure (ps.zip us)) : Binds K fd ps [] := by
  obtain ⟨oc, od, dV, kV, doc, pm, an, cdv, ct, osl, rfl, lk, hcd, hD, hK⟩ := F.ex
  rcases hD with ⟨e, _⟩ | ⟨_, T, o, its, m, rfl, lT, oT, rT⟩
  · exact absurd e hd
  · exact .all (h T kV doc pm an cdv ct)
/-- what is written was not known at the start -/
theorem Kp.lst0 {K : PySem.W.Frag} {ws : List Addr} {H H1 : Hp} {a : Addr} {xs : List V} (x : Kp ws H H1) (h : SqL K H a xs) (n : ∀ w ∈ ws, H w = none) : SqL K H1 a xs := by
  rcases h with (h | ⟨o, h⟩) | h
  · exact .inl (.inl (x _ _ h fun q => by rw [n _ q] at h; cases h))
  · exact .inl (.inr ⟨o, x _ _ h fun q => by rw [n _ q] at h; cases h⟩)
  · exact .inr h
theorem Drew.lst0 {K : PySem.W.Frag} {H H1 : Hp} {a st : Addr} {xs : List V} (d : Drew st H H1) (h : SqL K H a xs) (n : H st = none) : SqL K H1 a xs :=
  d.1.lst0 h fun w q => by rw [List.mem_singleton.mp q]; exact n
theorem pow60 : (10 : Int) ^ (60 : Int).toNat = 10 ^ 60 := rfl
theorem sub_mod {n p L : Nat} (hL : L < n) (hp : p < n) : ((p : Int) - (L : Int)) % (n : Int) = (((p + n - L) % n : Nat) : Int) := by
  have e1 : ((p : Int) - (L : Int)) % (n : Int) = ((p : Int) - (L : Int) + (n : Int)) % (n : Int) := by rw [Int.add_emod_right]
  have e2 : (p : Int) - (L : Int) + (n : Int) = ((p + n - L : Nat) : Int) := by omega
  rw [e1, e2]
  rfl
/-! ### rules that name the written part K (within a comprehension's block) -/
section
variable {X : Cx} {K : PySem.W.Frag}
theorem ix_lK (e : X.K = K := by rfl) : IxR X (rIxL K) := by
  subst e
  exact ix_list
theorem lenK (e : X.K = K := by rfl) : CallR X (.builtin "len") (fun xs H Q => ∃ p ys, xs = [.ref p] ∧ (SqL K H p ys ∨ SqT K H p ys) ∧ Q (.int ys.length) H) := by
  subst e
  exact call_len_seq
theorem isiK (e : X.K = K := by rfl) : CallR X (.builtin "isinstance") (rIsi K) := by
  subst e
  exact call_isi
end
/-- the value that is stored, in another form -/
theorem set_eq {i : Nat} {x y : V} {σ : L2.St} {H : Hp} {Q : L2.St → Hp → Prop} (e : x = y) (h : gName i y σ H Q) : gName i x σ H Q := by
  rw [e]
  exact h
theorem tyes {σ : L2.St} {H : Hp} {Q : Bool → Hp → Prop} (h : Q true H) : tYes σ H Q := h
section
variable {H : Hp} {x y : V} {Q : VK}
theorem ne_no (e : x = y) (h : scal x x = true) (k : Q (.bl false) H) : rNe x y H Q := by
  subst e
  exact ne_same h k
theorem ne_yes (e : ¬ x = y) (h : scal x y = true) (k : Q (.bl true) H) : rNe x y H Q := ⟨h, by rw [decide_eq_false e]; exact k⟩
theorem eq_yes (e : x = y) (h : scal x x = true) (k : Q (.bl true) H) : rEq x y H Q := by
  subst e
  exact eq_same h k
theorem eq_no (e : ¬ x = y) (h : scal x y = true) (k : Q (.bl false) H) : rEq x y H Q := ⟨h, by rw [decide_eq_false e]; exact k⟩
end
theorem vint {a b : Int} (e : a = b) : V.int a = V.int b := congrArg V.int e
theorem vint_ne {a b : Int} (e : ¬ a = b) : ¬ V.int a = V.int b := fun q => e (V.int.inj q)
theorem vnat {a b : Nat} (e : a = b) : V.int (a : Int) = V.int (b : Int) := congrArg (fun q : Nat => V.int (q : Int)) e
theorem vnat_ne {a b : Nat} (e : ¬ a = b) : ¬ V.int (a : Int) = V.int (b : Int) := fun q => e (by have := V.int.inj q; omega)
end Lz
namespace Lz
open PySem PySem.Spec PyProof.Rows L2
/-! ### an exception that is kept behind its clause -/
/-- at a: an exception of the class cls, without a dict of its own -/
def ExA (cls : Value) (a : Addr) : HO := .ext fun h => ∃ (o : Obj) (vs : Array Value), h.get? a = some o ∧ Zc cls none o ∧ o.data = .fields vs
theorem exA_ok {P : Program} {w : World} {H : Hp} {h : Heap} {a : Addr} {cls : Value} {o : Obj} {vs : Array Value} (e : h.get? a = some o) (z : Zc cls none o) (d : o.data = .fields vs) :
    ObjOk P w H h a (ExA cls a) := ⟨⟨o, vs, e, z, d⟩, ⟨o, e⟩, fun _ _ ⟨u, v, q, r⟩ k => ⟨u, v, k u q, r⟩⟩
/-- an object that stands, made since the entry and not tracked, is tracked from now on -/
theorem track {X : Cx} {pins : List (Addr × Obj)} {σ : L2.St} {H : Hp} {s : Shared} {a : Addr} {o : Obj} {vs : Array Value} {u : HO} (I : Inv X pins σ H s) (ha : s.heap.get? a = some o) (hd : o.data = .fields vs)
    (na : H a = none) (n0 : X.s_0.heap.get? a = none) (nL : a ≠ X.env.locals) (np : ∀ p ∈ X.pn ++ pins, p.1 ≠ a) (new : ObjOk X.prog X.w (upd H a u) s.heap a u) : Inv X pins σ (upd H a u) s := by
  have ne0 : ∀ b q, X.s_0.heap.get? b = some q → b ≠ a := fun b q e z => by
    rw [z, n0] at e
    cases e
  have neH : ∀ b q, H b = some q → b ≠ a := fun b q e z => by
    rw [z, na] at e
    cases e
  have B := I.base
  refine ⟨I.ok, I.os, I.bare, ⟨B.keep, B.slot, fun b q e n x => ?_, B.there, fun b xs e => ?_, fun b q v e => ?_, fun b ps e => ?_⟩, I.loc, I.cell, ?_, fun x c e => ?_, fun p hp => ?_, fun b q e => ?_, I.len⟩
  · rw [upd_ne (ne0 b q e)]
    exact B.free b q e n x
  · have z := B.tups b xs e
    rw [upd_ne (neH _ _ z)]
    exact z
  · have z := B.frzs b q v e
    rw [upd_ne (neH _ _ z)]
    exact z
  · obtain ⟨m, z⟩ := B.tbls b ps e
    exact ⟨m, by rw [upd_ne (neH _ _ z)]; exact z⟩
  · rw [upd_ne fun z => nL z.symm]
    exact I.free
  · have z : c ≠ a := fun z => by
      obtain ⟨v, oc, hc, hv⟩ := I.cell x c e
      rw [z, ha] at hc
      cases hc
      rw [hd] at hv
      cases hv
    rw [upd_ne z]
    exact I.freeC x c e
  · obtain ⟨q1, q2, q3⟩ := I.pin p hp
    exact ⟨q1, by rw [upd_ne (np p hp)]; exact q2, q3⟩
  · by_cases hb : b = a
    · rw [hb, upd_same] at e
      cases e
      rw [hb]
      exact new
    · rw [upd_ne hb] at e
      refine (I.hok b q e).stay (fun _ _ _ r => r) (fun c r => ?_) fun c xs r => ?_
      · rw [upd_ne (neH _ _ r)]
        exact r
      · rw [upd_ne (neH _ _ r)]
        exact r
/-- what a clause 'except x as n: .. n kept by another name ..' wishes of an exception of the body: all of them are x's; slot i is n's -/
def wKeep (K : PySem.W.Frag) (c : Value) (i : Nat) (ts : Addr → Value → TS) (D : Ends) : WX := fun cls d σ H =>
  PySem.W.exmOne K cls c = some true ∧ d = none ∧ ∀ a, H a = none →
    ts a cls { nx := fun σ' H' => H' a = none → D.nx (σ'.set i none) (upd H' a (ExA cls a)), rt := fun _ _ => False, bk := fun _ _ => False, ct := fun _ _ => False } (σ.set i (some (.ref a))) H
section
variable {X : Cx} {x n : Str} {c : Value} {i : Nat} {body suite : List Stmt} {b0 : Stmt} {np pos pos' : Pos} {tb : WX → TS} {ts : Addr → Value → TS}
theorem ps_try_keep (hs : X.stack = X.env :: X.outer) (hf : X.env.frame = some X.env.locals) (hex : X.ex = []) (hN : X.N.Nodup) (hi : X.N[i]? = some n) (hln : X.env.kindOf n = some .local) (hc : Names X x c)
    (hb : ∀ (W : WX) (pn : List (Addr × Obj)) (xe : Value → Shared → Prop), Takes (X.tr pn xe) W → PSs (X.tr pn xe) body (tb W))
    (hsu : ∀ (a : Addr) (oe : Obj) (cls : Value) (d : Option Addr) (pn : List (Addr × Obj)), PSs (X.suite a ((a, oe) :: pn)) (b0 :: suite) (ts a cls)) :
    PS X (.Try body [.ExceptHandler (some (.Name x np)) (some n) (b0 :: suite) pos'] [] [] pos) (fun D σ H => tb (wKeep X.K c i ts D) D σ H) := by
  refine ⟨fun pins s σ H D I0 h => ?_⟩
  have OK := I0.ok
  have frames : X.A.frames = some (X.env :: X.outer) := OK.frames.trans (congrArg some hs)
  refine wpAny_Try_except (wpAny_mono ((hb (wKeep X.K c i ts D) (X.pn ++ pins) (fun e z1 => wpAny (model X.prog X.w) X.A (noteFrame e X.env) (fun _ z2 => wpAny (model X.prog X.w) X.A (setFlight e none)
    (fun _ z3 => wpAny (model X.prog X.w) X.A (handleBy e X.env [.ExceptHandler (some (.Name x np)) (some n) (b0 :: suite) pos']) (SP X pins D) X.xe z3) X.xe z2) X.xe z1) (fun u s' air => ?_)).run [] s σ H D (I0.toTry _) h)
    (fun fl s1 done => ?_) (fun e s1 he => he))
  · obtain ⟨a, B, sI, _, τ, G, cls, d, rfl, J0, ground, ups, sky0, na, eos, gens, hm, rfl, keep⟩ := air
    have J : Inv X pins τ G sI := J0.ofTry OK
    rw [show (X.tr (X.pn ++ pins) _).stack = X.env :: X.outer from hs] at sky0
    show wpAny (model X.prog X.w) X.A (noteFrame (.ref a) X.env) _ _ _
    refine Sky.land Zc.steady frames hf sky0 fun h3 F3 U3 => ?_
    have J3 := J.landed (s' := { s' with heap := h3 }) ground F3.1 (ups.trans U3) eos gens
    obtain ⟨o3, v3, g3, z3, d3⟩ := F3.there
    have noFrame : a ∉ frs (X.env :: X.outer) := fun q => by
      obtain ⟨_, oq, eq, hq⟩ := F3.2.2.1.mem q
      rw [g3] at eq
      cases eq
      exact hq _ d3
    have aL : a ≠ X.env.locals := fun z => noFrame (List.mem_filterMap.mpr ⟨X.env, List.mem_cons_self, hf.trans (congrArg some z.symm)⟩)
    have aF : a ∉ X.fs := fun q => by
      obtain ⟨en, hen, qen⟩ := List.mem_filterMap.mp q
      exact noFrame (List.mem_filterMap.mpr ⟨en, List.mem_cons_of_mem _ hen, qen⟩)
    have notIn : ∀ b q, sI.heap.get? b = some q → b ∉ frs X.stack → b ≠ a := fun b q e1 e2 e3 => by
      have e4 := ground b q e1 e2
      rw [e3, F3.2.1] at e4
      cases e4
    have a0 : X.s_0.heap.get? a = none := by
      cases q : X.s_0.heap.get? a with
      | none => rfl
      | some oq =>
        obtain ⟨o', e'⟩ := J.base.there a oq q (by rw [hex]; exact List.not_mem_nil)
        exact absurd rfl (notIn a o' e' (by rw [hs]; exact noFrame))
    have aP : ∀ p ∈ X.pn ++ pins, p.1 ≠ a := fun p hp => by
      obtain ⟨q1, q2, q3, q4, _⟩ := J.pin p hp
      refine notIn p.1 p.2 q1 fun q => ?_
      rcases List.mem_cons.mp (J.stkSub p.1 q) with z | z
      · exact q3 z
      · exact q4 z
    have SU := J3.suite g3 d3 na aL aF
    refine wpAny_handleBy_cons (codeAny_handlers_test ?_) (by intro q; cases q)
    have LT : PySem.W.Looks (model X.prog X.w) h3 (typeOf (.ref a)) cls := fun A Q E z k q => wpAny_typeOf_ref (k _ _ g3) (by rw [z3.1]; exact q)
    have LM := PySem.W.exm_one (M := model X.prog X.w) J3.kIn LT hm
    have asks : ∀ {Q : Value → Shared → Prop} {E : Value → Shared → Prop}, Q c { s' with heap := h3 } → wpAny (model X.prog X.w) (X.A.mark (some (.ref a))) (eval (.Name x np) X.env) Q E { s' with heap := h3 } := fun {Q E} q => by
      obtain ⟨w1, w2, w3 | ⟨w3, w4, w5⟩⟩ := hc
      · exact ld_glob (X := X.suite a ((a, o3) :: (X.pn ++ pins))) SU w1 w3 q w2
      · exact ld_blt (X := X.suite a ((a, o3) :: (X.pn ++ pins))) SU w1 w3 w4 q w5 w2
    refine asks (LM.here (codeAny_handlers_suite_as (HandSPX.lands_againZ F3 fun h4 F4 U4 => ?_)))
    have J4 := J.landed (s' := { s' with heap := h4 }) ground F4.1 ((ups.trans U3).trans U4) eos gens
    obtain ⟨o4, v4, g4, z4, d4⟩ := F4.there
    have SV := J4.suite g4 d4 na aL aF
    refine store_ok (X := X.suite a ((a, o4) :: (X.pn ++ pins))) (v := .ref a) SV hN hi (.inl hln) rfl (fun s5 S5 => ?_) (.inr hln)
    refine wpAny_mono ((hsu a o4 cls none (X.pn ++ pins)).run [] s5 _ G _ S5 (keep a na)) (fun fl s6 done => ?_) (fun _ _ z => False.elim z)
    cases fl with
    | next =>
      obtain ⟨τ6, G6, S6, q6⟩ := done
      obtain ⟨p1, p2, _⟩ := S6.pin (a, o4) (List.mem_append_left _ List.mem_cons_self)
      exact gone_ok (track (S6.unsuite OK) p1 d4 p2 a0 aL aP (exA_ok p1 z4 d4)) hN hi hln fun s7 J7 => ⟨_, _, J7, q6 p2⟩
    | brk =>
      obtain ⟨_, _, _, q6⟩ := done
      exact q6.elim
    | cont =>
      obtain ⟨_, _, _, q6⟩ := done
      exact q6.elim
    | ret u =>
      obtain ⟨_, _, _, _, _, q6⟩ := done
      exact q6.elim
  · cases fl with
    | next =>
      obtain ⟨τ, G, J, q⟩ := done
      exact wpAny_execs_nil ⟨τ, G, J.ofTry OK, q⟩
    | brk =>
      obtain ⟨τ, G, J, q⟩ := done
      exact ⟨τ, G, J.ofTry OK, q⟩
    | cont =>
      obtain ⟨τ, G, J, q⟩ := done
      exact ⟨τ, G, J.ofTry OK, q⟩
    | ret u =>
      obtain ⟨v, τ, G, J, r, q⟩ := done
      exact ⟨v, τ, G, J.ofTry OK, r, q⟩
end
/-- in such a body: what a callee lets out, whatever stands in the slots -/
abbrev EL (N : List Str) (W : WX) : XK := fun cls d H => ∀ σ : L2.St, σ.length = N.length → W cls d σ H
theorem passT {X : Cx} {W : WX} {N : List Str} (tk : Takes X W) (hN : X.N = N := by rfl) : Passes (L2.CX X.prog X.w) X (EL N W) := fun _ σ _ _ e s' I t => by
  subst hN
  exact tk e s' (XE.of_call I (fun _ _ _ h => h σ I.len) t)
/-- isinstance of an exception that was kept -/
def rIsX (K : PySem.W.Frag) : List V → Hp → VK → Prop := fun xs H Q => ∃ (a D : Addr) (v : V) (u : Value) (b : Bool), xs = [.ref a, v] ∧ H a = some (ExA (.ref D) a) ∧ ExcC K D ∧ (∀ t, RelV v t → t = u) ∧ PySem.W.kitOne K (.ref D) u = some b ∧ Q (.bl b) H
theorem call_isX {X : Cx} : CallR X (.builtin "isinstance") (rIsX X.K) := by
  intro pins s σ H xs us Q I r h
  obtain ⟨a, D, v, u, b, rfl, ha, C, hv, hk, q⟩ := h
  obtain ⟨u1, u2, rfl, r1, r2⟩ : ∃ u1 u2, us = [u1, u2] ∧ RelV (.ref a) u1 ∧ RelV v u2 := by
    cases r with
    | cons p1 t =>
      cases t with
      | cons p2 t2 =>
        cases t2
        exact ⟨_, _, rfl, p1, p2⟩
  cases (show u1 = Value.ref a from r1)
  have e2 := hv _ r2
  subst e2
  obtain ⟨⟨o, vs, g, z, d⟩, _⟩ := (show ObjOk X.prog X.w H s.heap a (ExA (.ref D) a) from I.hok a _ ha)
  have J : PySem.W.InstAt s.heap a o D none := by
    obtain ⟨o1, o2, o3, o4⟩ := o
    obtain ⟨z1, z2⟩ := z
    dsimp only at z1 z2 d
    subst z1 z2 d
    exact ⟨g, rfl, rfl, trivial⟩
  exact PySem.W.kia_one (PySem.W.handS_kitx_exc C.hg C.hk C.hs C.hd C.ha C.hn C.ht C.hm) I.kIn J hk (fun z => nomatch z) fun tk => ⟨.bl b, H, I.kept (t' := tk) fun _ _ z => z, rfl, q⟩
/-! ### the words of the refusals -/
structure ErrT (K : PySem.W.Frag) (xs : List Str) : Prop where
  c : ∀ x ∈ xs, ExcC K (He.ga K x)
  v : ∀ x ∈ xs, PySem.W.kitOne K (.ref (He.ga K x)) (.type "ValueError") = some true
  m : ∀ x ∈ xs, PySem.W.exmOne K (.ref (He.ga K x)) (.ref (He.ga K "CountError")) = some true
  k : ∀ x ∈ xs, ∀ y ∈ xs, PySem.W.kitOne K (.ref (He.ga K x)) (.ref (He.ga K y)) = some (decide (x = y))
def excB (K : PySem.W.Frag) (D : Addr) : Bool :=
  decide (PySem.W.findIn K (.ref D) "__getattribute__" = some (some (.builtin "BaseException.__getattribute__"))) &&
  (decide (PySem.W.findIn K (.ref D) "__getattr__" = some none) && (decide (PySem.W.subIn K (.ref D) (.type "BaseException") = some true) &&
  (PySem.W.hasDictIn K D && (decide (PySem.W.findIn K (.ref D) "__class__" = some (some (.builtin "object.__class__"))) &&
  (decide (PySem.W.specialIn K (.builtin "object.__class__") "__get__" = some (some (.builtin "getset_descriptor.__get__"))) &&
  (decide (PySem.W.takesIn K (.builtin "object.__class__") = some true) && decide (PySem.W.mroIn K D (.type "object") = some true)))))))
theorem excB_ok {K : PySem.W.Frag} {D : Addr} (h : excB K D = true) : ExcC K D := by
  obtain ⟨h1, h⟩ := He.ba h
  obtain ⟨h2, h⟩ := He.ba h
  obtain ⟨h3, h⟩ := He.ba h
  obtain ⟨h4, h⟩ := He.ba h
  obtain ⟨h5, h⟩ := He.ba h
  obtain ⟨h6, h⟩ := He.ba h
  obtain ⟨h7, h8⟩ := He.ba h
  exact ⟨of_decide_eq_true h1, of_decide_eq_true h2, of_decide_eq_true h3, h4, of_decide_eq_true h5, of_decide_eq_true h6, of_decide_eq_true h7, of_decide_eq_true h8⟩
def errB (K : PySem.W.Frag) (xs : List Str) : Bool := xs.all fun x => excB K (He.ga K x) && (decide (PySem.W.kitOne K (.ref (He.ga K x)) (.type "ValueError") = some true) &&
  (decide (PySem.W.exmOne K (.ref (He.ga K x)) (.ref (He.ga K "CountError")) = some true) && xs.all fun y => decide (PySem.W.kitOne K (.ref (He.ga K x)) (.ref (He.ga K y)) = some (decide (x = y)))))
theorem errB_ok {K : PySem.W.Frag} {xs : List Str} (h : errB K xs = true) : ErrT K xs := by
  have g := fun x hx => He.ba (List.all_eq_true.mp h x hx)
  refine ⟨fun x hx => excB_ok (g x hx).1, fun x hx => ?_, fun x hx => ?_, fun x hx y hy => ?_⟩
  · exact of_decide_eq_true (He.ba (g x hx).2).1
  · exact of_decide_eq_true (He.ba (He.ba (g x hx).2).2).1
  · exact of_decide_eq_true (List.all_eq_true.mp (He.ba (He.ba (g x hx).2).2).2 y hy)
/-- a class (a def) of the module as a value -/
theorem pe_gref {X : Cx} {x : Str} {a : Addr} {pos : Pos} (h : X.mg x = some (.ref a)) (hg : Gl X x := by rfl) (hdb : (x == ("__debug__" : Str)) = false := by decide) :
    PE X (.Name x pos) (tC (.ref a)) := pe_glob hg h rfl hdb
/-- a constant has been read -/
theorem c_ {v : V} {σ : L2.St} {H : Hp} {Q : VK} (h : Q v H) : tC v σ H Q := h
/-! ### a weaker wish of what is raised -/
def spW (sp : Sp) : Sp := fun vs H Q E' => ∃ E : XK, sp vs H Q E ∧ ∀ cls d G, E cls d G → E' cls d G
section
variable {P : Program} {w : World} {K : PySem.W.Frag} {mg : Str → Option Value} {base : Heap} {k : Nat} {f : Addr} {fd : FuncData} {x : Str} {ps : List Str} {dvs : List V} {sp : Sp} {D : Addr}
theorem weak (F : FnOk P w K mg base (CXr P w) k f fd ps sp) : FnOk P w K mg base (CXr P w) k f fd ps (spW sp) := by
  refine ⟨fun vs H Q E ⟨E0, h, _⟩ => F.len vs H Q E0 h, fun A outer s H args us vs Q E hr e0 hb hv ⟨E0, h, hE⟩ => ?_⟩
  refine codeAny_mono (F.run A outer s H args us vs Q E0 hr e0 hb hv h) fun r s' hq => ?_
  cases r with
  | error e =>
    obtain ⟨a, B, G, cls, d, q1, q2, q3, q4, q5, q6, q7, q8⟩ := hq
    exact ⟨a, B, G, cls, d, q1, q2, q3, q4, q5, q6, q7, hE _ _ _ q8⟩
  | ok fl =>
    cases fl with
    | ret u => exact hq
    | next => exact hq
    | brk => exact hq
    | cont => exact hq
theorem weakF (G : FnAt P w K mg base (CXr P w) k x ps dvs sp) : FnAt P w K mg base (CXr P w) k x ps dvs (spW sp) := by
  obtain ⟨f, fd, ds, h1, h2, h3, h4, h5⟩ := G
  exact ⟨f, fd, ds, h1, h2, h3, h4, weak h5⟩
theorem weakM (G : FnMt P w K mg base (CXr P w) k D x ps dvs sp) : FnMt P w K mg base (CXr P w) k D x ps dvs (spW sp) := by
  obtain ⟨f, fd, ds, h1, h3, h4, h5⟩ := G
  exact ⟨f, fd, ds, h1, h3, h4, weak h5⟩
theorem weakK (G : FnMk P w K mg base (CXr P w) k x D ps dvs sp) : FnMk P w K mg base (CXr P w) k x D ps dvs (spW sp) := by
  obtain ⟨f, fd, ds, h1, h2, h3, h4, h5⟩ := G
  exact ⟨f, fd, ds, h1, h2, h3, h4, weak h5⟩
end
/-! ### values that are no number of a range -/
def BadV (st : Addr) (H : Hp) (lo hi : Int) (x : V) : Prop :=
  x = .non ∨ (∃ b, x = .bl b) ∨ (∃ z, x = .str z) ∨ (∃ a xs, x = .ref a ∧ a ≠ st ∧ (H a = some (.lst xs) ∨ H a = some (.tup xs))) ∨ ∃ i, x = .int i ∧ ¬ (lo ≤ i ∧ i ≤ hi)
theorem BadV.keep {st : Addr} {H H1 : Hp} {lo hi : Int} {x : V} (h : BadV st H lo hi x) (d : Kp [st] H H1) : BadV st H1 lo hi x := by
  rcases h with h | h | h | ⟨a, xs, rfl, n, h⟩ | h
  · exact .inl h
  · exact .inr (.inl h)
  · exact .inr (.inr (.inl h))
  · refine .inr (.inr (.inr (.inl ⟨a, xs, rfl, n, ?_⟩)))
    rcases h with h | h
    · exact .inl (d.one h n)
    · exact .inr (d.one h n)
  · exact .inr (.inr (.inr (.inr h)))
theorem BadV.out {K : PySem.W.Frag} {st : Addr} {H : Hp} {lo hi : Int} {x : V} (h : BadV st H lo hi x) : OutN K H lo hi x := by
  rcases h with rfl | ⟨b, rfl⟩ | ⟨z, rfl⟩ | ⟨a, xs, rfl, n, h⟩ | ⟨i, rfl, h⟩
  · exact .inl .non
  · exact .inl .bl
  · exact .inl .str
  · rcases h with h | h
    · exact .inl (.lst h)
    · exact .inl (.tup h)
  · exact .inr ⟨i, rfl, h⟩
theorem badN {st : Addr} {H : Hp} {lo hi : Int} : BadV st H lo hi .non := .inl rfl
theorem badB {st : Addr} {H : Hp} {lo hi : Int} {b : Bool} : BadV st H lo hi (.bl b) := .inr (.inl ⟨b, rfl⟩)
theorem badS {st : Addr} {H : Hp} {lo hi : Int} {z : Str} : BadV st H lo hi (.str z) := .inr (.inr (.inl ⟨z, rfl⟩))
theorem badI {st : Addr} {H : Hp} {lo hi i : Int} (h : ¬ (lo ≤ i ∧ i ≤ hi)) : BadV st H lo hi (.int i) := .inr (.inr (.inr (.inr ⟨i, rfl, h⟩)))
theorem badL {st a : Addr} {H : Hp} {lo hi : Int} {xs : List V} (n : a ≠ st) (h : H a = some (.lst xs)) : BadV st H lo hi (.ref a) := .inr (.inr (.inr (.inl ⟨a, xs, rfl, n, .inl h⟩)))
theorem badT {st a : Addr} {H : Hp} {lo hi : Int} {xs : List V} (n : a ≠ st) (h : H a = some (.tup xs)) : BadV st H lo hi (.ref a) := .inr (.inr (.inr (.inl ⟨a, xs, rfl, n, .inr h⟩)))
end Lz
namespace Lz
open PySem PySem.Spec PyProof.Rows L2
/-! ### a call of what an expression gives -/
/-- the function that the module's name x holds -/
def tGlo (mg : Str → Option Value) (x : Str) : TE := fun _ H Q => ∀ f : Addr, mg x = some (.ref f) → Q (.ref f) H
def tCallF (tf : TE) (A : Addr → Sp → Prop) (E : XK) (t : TA) : TE := fun σ H Q => tf σ H fun v H1 => ∃ (f : Addr) (sp : Sp), v = .ref f ∧ A f sp ∧ t σ H1 fun vs H2 => sp vs H2 Q E
section
variable {X : Cx} {C : CXT} {k : Nat} {x : Str} {ps : List Str} {dvs : List V} {sp : Sp} {E : XK} {pos : Pos} {e func : Expr} {es : List Expr} {t : TA} {tf : TE} {A : Addr → Sp → Prop}
theorem pe_fnv {mg : Str → Option Value} (G : FnAt X.prog X.w X.K X.mg X.base C k x ps dvs sp) (hm : X.mg = mg := by rfl) (hg : Gl X x := by rfl) (hdb : (x == ("__debug__" : Str)) = false := by decide) :
    PE X (.Name x pos) (tGlo mg x) := by
  subst hm
  obtain ⟨f, _, _, h1, _⟩ := G
  exact ⟨fun pins s σ H Q I h => (pe_gref h1 hg hdb).run pins s σ H Q I (h f h1)⟩
theorem pe_callF (hA : ∀ f sp, A f sp → ∃ fd ps, FnOk X.prog X.w X.K X.mg X.base C k f fd ps sp ∧ PySem.W.keepIn X.K (.ref f) = true ∧ Binds X.K fd ps []) (hr : Room k X.A) (hx : Passes C X E)
    (hf : PE X func tf) (ha : PA X (e :: es) t)
    (hc : eval (.Call func (e :: es) [] pos) X.env = (do callWith pos (← eval func X.env) [] (backTo pos (starEach (e :: es) X.env)) (backToKw pos (keywordEach [] X.env))) := by rfl)
    (he : starEach (e :: es) X.env = (false, eval e X.env) :: starEach es X.env := by rfl) (hpl : (backTo pos (starEach es X.env)).any (·.1) = false := by rfl) :
    PE X (.Call func (e :: es) [] pos) (tCallF tf A E t) := by
  refine ⟨fun pins s σ H Q I h => ?_⟩
  refine Call_ (thn (hf.run pins s σ H _ I h) fun u s1 ⟨v, H1, I1, r1, f, sp, ev, hs, q1⟩ => ?_) hc
  subst ev
  cases r1
  obtain ⟨fd, ps, F, hk, hb⟩ := hA f sp hs
  refine PySem.W.callWith_K (h₀ := X.base) I.ok.mod.kin hk (thn (ha.run pos pins s1 σ H1 _ I1 q1) fun us s2 ⟨vs, H2, I2, r2, q2⟩ => ⟨I2.kIn, ?_⟩) he hpl
  exact run_fn F hr hb .nil hx I2 r2 (by rw [List.append_nil]; exact q2)
end
theorem FnAt.by {P : Program} {w : World} {K : PySem.W.Frag} {mg : Str → Option Value} {base : Heap} {C : CXT} {j k : Nat} {x : Str} {ps : List Str} {sp : Sp} {f : Addr} (G : FnAt P w K mg base C j x ps [] sp) (h : mg x = some (.ref f)) (hj : j ≤ k) :
    ∃ fd ps, FnOk P w K mg base C k f fd ps sp ∧ PySem.W.keepIn K (.ref f) = true ∧ Binds K fd ps [] := by
  obtain ⟨g, fd, ds, h1, h2, h3, h4, h5⟩ := G
  rw [h1] at h
  cases h
  cases h4
  exact ⟨fd, ps, h5.mono hj, h2, h3⟩
theorem indexK {X : Cx} {K : PySem.W.Frag} (e : X.K = K := by rfl) : MtR X "list.index" (rIndex K) := by
  subst e
  exact mt_index
theorem pe_bmK {X : Cx} {K : PySem.W.Frag} {ex : Expr} {T : String} {r : V → List V → Hp → VK → Prop} {u : TE} {t : TA} (e : X.K = K) (h : PE X ex (tBM X.K T r u t)) : PE X ex (tBM K T r u t) := by
  subst e
  exact h
/-! ### two lists of lists, alike -/
theorem neD_two {K : PySem.W.Frag} {H : Hp} {p q a b c d : Addr} {xs ys : List V} {Q : VK} (hp : SqL K H p [.ref a, .ref b]) (hq : SqL K H q [.ref c, .ref d]) (ha : SqL K H a xs) (hb : SqL K H b ys) (hc : SqL K H c xs) (hd : SqL K H d ys)
    (fx : xs.all isS = true) (fy : ys.all isS = true) (k : Q (.bl false) H) : rNeD K (.ref p) (.ref q) H Q := by
  have lay : PyData.canLay0 (.list [.list (xs.map PD), .list (ys.map PD)]) = true := by
    simp [PyData.canLay0, PyData.canLayAll0, (PD_lay fx).1, (PD_lay fy).1]
  have sh : SeqAt.shaped (.list [.list (xs.map PD), .list (ys.map PD)]) = true := by
    unfold SeqAt.shaped
    rw [Bool.and_eq_true]
    refine ⟨lay, ?_⟩
    simp [PyData.depth, PyData.depthAll, (PD_lay fx).2, (PD_lay fy).2]
  have e : PyData.eqv (.list [.list (xs.map PD), .list (ys.map PD)]) (.list [.list (xs.map PD), .list (ys.map PD)]) = true := SeqAt.eqv_refl _ lay
  refine ⟨_, _, .lst hp (.cons (.lst ha (PD_all fx)) (.cons (.lst hb (PD_all fy)) .nil)), .lst hq (.cons (.lst hc (PD_all fx)) (.cons (.lst hd (PD_all fy)) .nil)), sh, sh, ?_⟩
  rw [e]
  exact k
end Lz
namespace Lz
open PySem PySem.Spec PyProof.Rows L2
theorem ixN_nat {n p : Nat} (h : p < n) : ixN n (p : Int) = some p := by
  unfold ixN
  rw [if_pos (by omega), if_pos (by omega)]
  rfl
theorem isS_int {xs : List V} (h : ∀ v ∈ xs, ∃ i : Int, v = .int i) : xs.all isS = true := by
  rw [List.all_eq_true]
  intro v hv
  obtain ⟨i, rfl⟩ := h v hv
  rfl
theorem ordV_int {s n b : Nat} : ∀ v ∈ ordV s n b, ∃ i : Int, v = .int i := by
  intro v hv
  have h1 := (Jo.out_perm (s - 1) (Jo.rotL (rgV 0 n) b)).mem_iff.mp hv
  have h2 := (Jo.rotL_perm (rgV 0 n) b).mem_iff.mp h1
  unfold rgV at h2
  obtain ⟨i, _, e⟩ := List.mem_map.mp h2
  exact ⟨_, e.symm⟩
theorem rg_turn {n b : Nat} (hb : b < n) : ((b : Int) % ((rgV 0 n).length : Int)).toNat = b := by
  rw [rgV_len, emod_nat n (by omega), Nat.mod_eq_of_lt (show (b : Int).toNat < n by omega)]
  omega
theorem rg_ne {n : Nat} (h : 1 ≤ n) : rgV 0 n ≠ [] := by
  intro e
  have := rgV_len n
  rw [e] at this
  simp at this
  omega
theorem ordV_zero (s n : Nat) : Jo.out (s - 1) (rgV 0 n) = ordV s n 0 := by
  show _ = Jo.out (s - 1) (Jo.rotL (rgV 0 n) 0)
  rw [Jo.rotL_zero]
/-- a number from lo to the second, or the class's refusal -/
def spNeed (K : PySem.W.Frag) (C : Addr) (lo : Int) : Sp := fun vs H Q E => ∃ x m, vs = [x, .int m] ∧
  ((∃ i, x = .int i ∧ lo ≤ i ∧ i ≤ m ∧ Q .non H) ∨ (OutN K H lo m x ∧ E (.ref C) none H))
end Lz
namespace Lz
open PySem PySem.Spec PyProof.Rows L2
/-! ### set(xs) of a list of texts: how many of them differ -/
def difs (xs : List Str) : Nat → Nat
  | 0 => 0
  | i + 1 => if (xs.take i).any (· == xs.getD i Str.empty) then difs xs i else difs xs i + 1
theorem difs_le (xs : List Str) : ∀ i, difs xs i ≤ i
  | 0 => Nat.le_refl 0
  | i + 1 => by
    have ih := difs_le xs i
    unfold difs
    split <;> omega
theorem difs_all {xs : List Str} : ∀ i, i ≤ xs.length → (difs xs i = i ↔ (xs.take i).Nodup)
  | 0, _ => by simp [difs]
  | i + 1, h => by
    have ih := difs_all i (Nat.le_of_lt h)
    have le := difs_le xs i
    have ex : xs[i]? = some xs[i] := List.getElem?_eq_getElem h
    have eg : xs.getD i Str.empty = xs[i] := by simp [List.getD, ex]
    have et : xs.take (i + 1) = xs.take i ++ [xs[i]] := by rw [List.take_add_one, ex]; rfl
    rw [et, List.nodup_append]
    unfold difs
    rw [eg]
    by_cases hm : xs[i] ∈ xs.take i
    · have ha : (xs.take i).any (· == xs[i]) = true := List.any_eq_true.mpr ⟨_, hm, beq_self_eq_true _⟩
      rw [if_pos ha]
      constructor
      · intro q
        omega
      · intro ⟨_, _, q⟩
        exact absurd rfl (q _ hm _ (List.mem_singleton.mpr rfl))
    · have ha : ¬ (xs.take i).any (· == xs[i]) = true := fun q => by
        obtain ⟨y, hy, e⟩ := List.any_eq_true.mp q
        rw [eq_of_beq e] at hy
        exact hm hy
      rw [if_neg ha]
      constructor
      · intro q
        refine ⟨ih.mp (by omega), List.pairwise_singleton _ _, fun a ha b hb e => ?_⟩
        rw [List.mem_singleton.mp hb] at e
        rw [e] at ha
        exact hm ha
      · intro ⟨q, _, _⟩
        have := ih.mpr q
        omega
theorem text_at {us : List Value} {xs : List Str} (r : StrsAre us xs) : ∀ (i : Nat) (v : Value), us[i]? = some v → ∃ t, v = .str (xs.getD i Str.empty) t := by
  induction r with
  | nil => exact fun i v h => nomatch h
  | cons y t r ih =>
    intro i v h
    cases i with
    | zero => exact ⟨t, (Option.some.inj h).symm⟩
    | succ i =>
      rw [List.getElem?_cons_succ] at h
      obtain ⟨t2, e⟩ := ih i v h
      exact ⟨t2, e⟩
abbrev freshS (led : Bool) : Obj := { cls := .type "set", dict := none, data := .set #[] 0 (.fresh 0 0 led) }
abbrev HasS (P : Program) (w : World) (h : Heap) (S : Addr) (xs : List Str) (i : Nat) : Prop := h.SetOf (PySem.strKind P w) S (fun z => (xs.take i).any (· == z)) (difs xs i)
theorem hasS_at {P : Program} {w : World} {h g : Heap} {S : Addr} {xs : List Str} {i : Nat} (x : HasS P w h S xs i) (k : ∀ o, h.get? S = some o → g.get? S = some o) : HasS P w g S xs i := by
  obtain ⟨o, es, ep, t, ho, r⟩ := x
  exact ⟨o, es, ep, t, k o ho, r⟩
section
variable {P : Program} {w : World} {A : Around} {E : Value → Shared → Prop}
theorem set_texts {I : Addr} {fp wr : List Addr} {G : Array GenState → Array GenState → Prop} {n : Nat} {Pv : Nat → Value → Prop} {St : Nat → Shared → Prop} {R : Result → Shared → Prop}
    (W : WalksS P w A.in1 I fp wr G n Pv St) {S : Addr} (nS : S ∉ fp) {xs : List Str} (en : xs.length = n) (room : n + 1 < scanBound)
    (vals : ∀ i v, Pv i v → ∃ t, v = .str (xs.getD i Str.empty) t) : ∀ (m i : Nat) (s : Shared), n - i = m → i ≤ n → St i s → HasS P w s.heap S xs i →
      (∀ u, Moved (S :: wr) G s u → HasS P w u.heap S xs n → R (.ok (.ret .none)) u) → codeAny (model P w) A (.builtin "set.update.loop" ⟨[.ref S, .ref I], []⟩) R s := by
  have nw : S ∉ wr := fun q => nS (W.sub _ q)
  have more : ∀ b ∈ wr, b ∈ S :: wr := fun b q => .tail _ q
  intro m
  induction m with
  | zero =>
    intro i s hm hi st has hR
    obtain rfl : i = n := by omega
    refine codeAny_builtin PyProof.Rows.F.entry_set_update_loop ?_
    rw [Around.under_plainId PyProof.Rows.F.plain_set_update_loop _]
    refine wpAny_bind (m := pyNext (.ref I)) (W.done s _ _ st fun u mv => ?_)
    show wpAny _ A.in1 (ret Value.none) _ _ u
    exact wpAny_pure (hR u (mv.mono more) (hasS_at has fun o q => mv.heap S o nw q))
  | succ m ih =>
    intro i s hm hi st has hR
    have hlt : i < n := by omega
    refine codeAny_builtin PyProof.Rows.F.entry_set_update_loop ?_
    rw [Around.under_plainId PyProof.Rows.F.plain_set_update_loop _]
    refine wpAny_bind (m := pyNext (.ref I)) (W.item i s _ _ hlt st fun v u hv st2 mv => ?_)
    obtain ⟨t, rfl⟩ := vals i v hv
    generalize hz : xs.getD i Str.empty = z
    have ez : xs[i]? = some z := by
      rw [← hz, List.getD_eq_getElem?_getD, List.getElem?_eq_getElem (by omega)]
      rfl
    have has2 : HasS P w u.heap S xs i := hasS_at has fun o q => mv.heap S o nw q
    refine wpAny_bind (m := holding [Value.str z t] (setAdd S (.str z t))) (wpAny_holding ?_)
    unfold setAdd
    refine wpAny_holding (wpAny_bind ((PySem.strKind P w).pyHash (k := z) (PySem.strKind_is P w z t) ?_))
    refine wpAny_setAddHashed_of (knd := PySem.strKind P w) (s := { u with toks := u.toks + 1 }) (PySem.strKind_is P w z t) rfl has2 (by have := difs_le xs i; omega) fun g sb has3 => ?_
    have has4 : HasS P w g S xs (i + 1) := by
      refine SetOf_congr has3 (fun y => ?_) ?_
      · rw [List.take_add_one, ez, List.any_append]
        congr 1
        show decide (y = z) = (z == y || false)
        rw [Bool.or_false]
        by_cases q : y = z
        · subst q
          simp
        · have q2 : (z == y) = false := beq_eq_false_iff_ne.mpr fun e => q e.symm
          rw [q2]
          exact decide_eq_false q
      · show _ = if (xs.take i).any (· == xs.getD i Str.empty) then difs xs i else difs xs i + 1
        rw [hz]
    have back : ∀ b, b ∉ S :: wr → ∀ o, u.heap.get? b = some o → g.get? b = some o := fun b nb o q => by
      rw [sb.2 b fun e => nb (by rw [e]; exact .head _)]
      exact q
    refine wpAny_pure ⟨plainId_quiet PyProof.Rows.F.plain_set_update_loop _, ih (i + 1) _ (by omega) hlt (W.frame _ u _ _ st2 (Nat.le_succ _) fun b hb o q => ?_) has4 fun u2 mv2 has5 => hR u2 ?_ has5⟩
    · rw [sb.2 b fun e => nS (by rw [← e]; exact hb)]
      exact q
    · exact Moved.trans W.gtrans ((mv.mono more).then_heap (Nat.le_succ _) fun b o nb q => back b nb o q) mv2
set_option maxHeartbeats 3200000 in
theorem call_setT {s : Shared} {l : Addr} {vs : Array Value} {xs : List Str} {Q : Value → Shared → Prop} (hh : A.handled = none) (hl : s.heap.IsList l vs) (hi : PyProof.Rows.StrsAre vs.toList xs) (room : xs.length + 1 < scanBound)
    (h : ∀ (g : Heap) (tk : Nat), HasS P w g s.heap.objs.size xs xs.length → (∀ b o, b < s.heap.objs.size → s.heap.get? b = some o → g.get? b = some o) → Q (.ref s.heap.objs.size) { s with heap := g, toks := tk }) :
    wpAny (model P w) A (call (.type "set") [.ref l]) Q E s := by
  obtain ⟨c, tl, hmro⟩ := PySem.F.called_set.mro
  have y1 := PySem.F.called_set.made
  have y2 := PySem.F.called_set.sub
  have y3 := PySem.F.called_set.notType
  have y4 := PySem.F.called_set.canCreate
  have y5 := PySem.F.typeCall_set_1 (.ref l)
  have len : xs.length = vs.size := by rw [← StrsAre.len_eq hi, Array.length_toList]
  refine wpAny_call (codeAny_of_tree (show wpAny _ _ (callAny (.type "set") _) _ _ _ from ?_))
  refine wpAny_pure ⟨Code.quiet_builtin _ (by decide +kernel), codeAny_builtin PySem.F.entry_type_call ?_⟩
  rw [Around.under_plain (weight_type_call_type "set" [.ref l] []) rfl]
  repeat (any_goals (first | assumption | wp_step))
  generalize hS0 : s.heap.objs.size = S at h ⊢
  refine codeAny_mono (code_set_new_1 (.ref l) (E := E) (Q₁ := fun x u => ∃ led, x = .ref S ∧ u = { s with heap := s.heap.push (freshS led) }) fun led => ⟨led, by rw [hS0], rfl⟩) fun r u hr => ?_
  match r, hr with
  | .error e, hr => exact hr
  | .ok (.ret x), hr =>
    obtain ⟨led, rfl, rfl⟩ := hr
    have gS : (s.heap.push (freshS led)).get? S = some (freshS led) := by
      rw [← hS0]
      exact Heap.get?_push_size _ rfl
    have tS : Shared.TypeIs { s with heap := s.heap.push (freshS led) } (.ref S) "set" := ⟨_, gS, rfl⟩
    have z1 := PySem.F.called_set.init.lookup
    have z2 := PySem.F.called_set.init.bind (.ref S)
    repeat (any_goals (first | assumption | wp_step))
    refine codeAny_mono (codeAny_call_builtin (R := wants (fun x u => x = .none ∧ ∃ g tk, u = { s with heap := g, toks := tk } ∧ HasS P w g S xs xs.length ∧ ∀ b o, b < S → s.heap.get? b = some o → g.get? b = some o) E)
      PySem.F.called_set.init.plain PySem.F.entry_set_init (check_set_init_1 tS ?_)) fun r2 u2 hr2 => ?_
    · obtain ⟨ol, hol, hcl, nl, hdl⟩ := hl
      obtain ⟨oc, od, odt, osl⟩ := ol
      dsimp only at hcl hdl
      subst hcl
      subst hdl
      have go : (s.heap.push (freshS led)).get? l = some { cls := .type "list", dict := od, data := .seq vs nl, slots := osl } := Heap.get?_push_of_some _ hol
      have gl : (s.heap.push (freshS led)).IsList l vs := ⟨_, go, rfl, nl, rfl⟩
      have q1 := PySem.F.sub_list_set
      have q2 := PySem.F.sub_list_frozenset
      have q3 : (Value.type "list" == Value.type "dict") = false := by decide
      unfold Builtin.«set.__init__» noKeywords Builtin.Frozenset.updateFrom
      generalize hPI : pyIter = PI
      wp_walk
      subst hPI
      refine wpAny_pyIter_list gl (wpAny_bind (wpAny_runValue ?_))
      have lS : l < S := by
        rw [← hS0]
        exact Heap.lt_size hol
      have eI : (s.heap.push (freshS led)).objs.size = S + 1 := by rw [Heap.size_push, hS0]
      have hA : A.in1.in1.in1.handled = none := by simp [hh]
      have nI : l ≠ (s.heap.push (freshS led)).objs.size := by
        rw [eI]
        exact Nat.ne_of_lt (Nat.lt_succ_of_lt lS)
      have nS : S ∉ [(s.heap.push (freshS led)).objs.size, l] := by
        rw [eI]
        simp only [List.mem_cons, List.not_mem_nil, or_false, not_or]
        exact ⟨Nat.ne_of_lt (Nat.lt_succ_self _), Nat.ne_of_gt lS⟩
      refine set_texts ((Walks.list hA _ l nI vs).toS) nS len (by omega) (fun i v hv => text_at hi i v (by rw [Array.getElem?_toList]; exact hv)) vs.size 0 _ rfl (Nat.zero_le _)
        ⟨⟨_, Heap.get?_push_size _ rfl, rfl, rfl⟩, gl.push _⟩ ?start ?back
      case start => exact SetOf_congr ((PyProof.Rows.setObjOf_fresh (knd := PySem.strKind P w) led).setOf (Heap.get?_push_of_some _ gS) (by unfold scanBound; omega)) (fun _ => rfl) rfl
      case back =>
        intro u mv has
        obtain ⟨g, ge, dr, tk, os⟩ := u
        obtain rfl : ge = s.gens := mv.gens
        obtain rfl : dr = s.drawn := mv.drawn
        obtain rfl : os = s.os := mv.os
        refine wpAny_pure (show wpAny _ _ (ret Value.none) _ _ _ from wpAny_pure ⟨rfl, g, tk, rfl, ?_, fun b o hb q => ?_⟩)
        · rw [len]
          exact has
        · refine mv.heap b o ?_ (Heap.get?_push_of_some _ (Heap.get?_push_of_some _ q))
          rw [eI]
          simp only [List.mem_cons, List.not_mem_nil, or_false, not_or]
          exact ⟨Nat.ne_of_lt hb, Nat.ne_of_lt (Nat.lt_succ_of_lt hb)⟩
    · match r2, hr2 with
      | .error e, hr2 => exact hr2
      | .ok (.ret y), hr2 =>
        obtain ⟨rfl, g, tk, rfl, has, kp⟩ := hr2
        repeat (any_goals (first | assumption | wp_step))
        exact h g tk has kp
      | .ok .next, hr2 => exact hr2.elim
      | .ok .brk, hr2 => exact hr2.elim
      | .ok .cont, hr2 => exact hr2.elim
  | .ok .next, hr => exact hr.elim
  | .ok .brk, hr => exact hr.elim
  | .ok .cont, hr => exact hr.elim
end
/-- a set of texts, of which only the number is known -/
def SetT (P : Program) (w : World) (a : Addr) (zs : List Str) : HO := .ext fun h => HasS P w h a zs zs.length
def rSetT (P : Program) (w : World) (K : PySem.W.Frag) : List V → Hp → VK → Prop := fun xs H Q => ∃ (p : Addr) (zs : List Str), xs = [.ref p] ∧ SqL K H p (zs.map V.str) ∧ zs.length ≤ 1000 ∧
  ∀ q, H q = none → Q (.ref q) (upd H q (SetT P w q zs))
def rLenT (P : Program) (w : World) : List V → Hp → VK → Prop := fun xs H Q => ∃ (a : Addr) (zs : List Str), xs = [.ref a] ∧ H a = some (SetT P w a zs) ∧ zs.length ≤ 1000 ∧ Q (.int (difs zs zs.length)) H
theorem cr_setT {X : Cx} {P : Program} {w : World} {K : PySem.W.Frag} (hc : X.calm = true) (e1 : X.prog = P := by rfl) (e2 : X.w = w := by rfl) (e3 : X.K = K := by rfl) : CallR X (.type "set") (rSetT P w K) := by
  subst e1 e2 e3
  intro pins s σ H xs us Q I r h
  obtain ⟨p, zs, rfl, hS, hl, q⟩ := h
  obtain ⟨its, rv, pl, hz⟩ := I.list hS
  rw [Vals.ref1 r]
  refine call_setT (I.ok.hd hc) pl.isList (by rw [List.toList_toArray]; exact rv.strs) (by unfold scanBound; omega) fun g tk has kp => ?_
  refine ⟨.ref _, upd H s.heap.objs.size (SetT X.prog X.w s.heap.objs.size zs), I.laid (t' := tk) (fun b u e => kp b u (Heap.lt_size e) e) (Nat.le_refl _) ⟨has, ?_, fun h1 h2 x k => hasS_at x k⟩, rfl, q _ (I.hok.fresh (Nat.le_refl _))⟩
  obtain ⟨o, _, _, _, ho, _⟩ := has
  exact ⟨o, ho⟩
theorem call_lenT {X : Cx} {P : Program} {w : World} (e1 : X.prog = P := by rfl) (e2 : X.w = w := by rfl) : CallR X (.builtin "len") (rLenT P w) := by
  subst e1 e2
  intro pins s σ H xs us Q I r h
  obtain ⟨a, zs, rfl, ha, hl, q⟩ := h
  rw [Vals.ref1 r]
  obtain ⟨o, es, ep, t, ho, hex, hd, _, _, _, hf, hn⟩ := (show HasS X.prog X.w s.heap a zs zs.length from (I.hok a _ ha).1)
  have le := difs_le zs zs.length
  refine PySem.call_len_set ho hex hd hf ?_ ⟨.int _, H, I.tok _, ⟨_, by rw [hn]⟩, q⟩
  have : ((es.size : Nat) : Int) < 4096 := by omega
  exact Int.lt_of_lt_of_le this (by decide)
end Lz
namespace Lz
open PySem PySem.Spec PyProof.Rows L2
/-! ### methods and makers by their names -/
section
variable {X : Cx} {C : CXT} {k : Nat} {x m : Str} {D : Addr} {ps : List Str} {dvs : List V} {sp : Sp} {E : XK} {p pos apos : Pos} {e o : Expr} {es : List Expr} {t : TA} {ta : TE}
theorem pe_mth {pl : Sem Bool} (G : FnMt X.prog X.w X.K X.mg X.base C k D m ps dvs sp) (c : Cls X.K D) (hr : Room k X.A) (hx : Passes C X E) (he : PE X o ta) (ha : PA X (e :: es) t)
    (hst : starEach (e :: es) X.env = (false, eval e X.env) :: starEach es X.env := by rfl) (hpl : (backTo pos (starEach es X.env)).any (·.1) = false := by rfl)
    (ht : eval (.Call (.Attribute o m apos) (e :: es) [] pos) X.env = (do let v ← eval o X.env; standAt apos.atName; let (f, first) ← holding [v] (getMethod v m pl); callWith pos f first (backTo pos (starEach (e :: es) X.env)) (backToKw pos (keywordEach [] X.env))) := by rfl) :
    PE X (.Call (.Attribute o m apos) (e :: es) [] pos) (tMeth D m sp dvs E ta t) := by
  obtain ⟨f, fd, ds, h1, h2, h3, h4⟩ := G
  exact pe_meth (pl := pl) he c h1 h4 hr h2 h3 hx ha hst hpl ht
theorem pe_mth0 {pl : Sem Bool} (G : FnMt X.prog X.w X.K X.mg X.base C k D m ps dvs sp) (c : Cls X.K D) (hr : Room k X.A) (hx : Passes C X E) (he : PE X o ta)
    (ht : eval (.Call (.Attribute o m apos) [] [] pos) X.env = (do let v ← eval o X.env; standAt apos.atName; let (f, first) ← holding [v] (getMethod v m pl); callWith pos f first (backTo pos (starEach [] X.env)) (backToKw pos (keywordEach [] X.env))) := by rfl) :
    PE X (.Call (.Attribute o m apos) [] [] pos) (tMeth D m sp dvs E ta tNil) := by
  obtain ⟨f, fd, ds, h1, h2, h3, h4⟩ := G
  exact pe_meth0 (pl := pl) he c h1 h4 hr h2 h3 hx ht
theorem pe_mkr (G : FnMk X.prog X.w X.K X.mg X.base C k x D ps dvs sp) (hr : Room (k + 1) X.A) (hx : Passes C X E) (ha : PA X (e :: es) t)
    (hg : Gl X x := by rfl) (hdb : (x == ("__debug__" : Str)) = false := by decide) (he : starEach (e :: es) X.env = (false, eval e X.env) :: starEach es X.env := by rfl)
    (hpl : (backTo pos (starEach es X.env)).any (·.1) = false := by rfl) : PE X (.Call (.Name x p) (e :: es) [] pos) (tMake D sp dvs E t) := by
  obtain ⟨f, fd, ds, h1, h2, h3, h4, h5⟩ := G
  exact pe_make h1 h5 hr hg h2 h3 h4 hx ha hdb he hpl
end
/-- o.f as a target within others -/
def gFld (K : PySem.W.Frag) (ta : TE) (f : Str) : TG := fun v σ H Q => ta σ H fun x H2 => ∃ a C dx fs, x = .ref a ∧ H2 a = some (.ins C dx fs) ∧ Cls K C ∧ NoAttr K C f ∧ fs.length < 1000 ∧ Q σ (upd H2 a (.ins C dx (putF f v fs)))
theorem pg_fld {X : Cx} {o : Expr} {f : Str} {pos : Pos} {ta : TE} (ha : PE X o ta)
    (hw : ∀ v, assign (.Attribute o f pos) X.env v = (do let z ← holding [v] (eval o X.env); standAt pos.atName; holding [v, z] (setAttr z f v); release [v, z] []) := by intro _; rfl) :
    PG X (.Attribute o f pos) (gFld X.K ta f) := by
  refine ⟨fun pins s σ H v u Q I r h => ?_⟩
  rw [hw]
  refine wpAny_bind (wpAny_holding (thn (ha.run pins s σ H _ I h) fun ov s1 ⟨x, H2, I2, rx, a, C, dx, fs, ex, ea, c, n, l, q⟩ => ?_))
  subst ex
  obtain rfl : ov = Value.ref a := rx
  refine wpAny_bind (wpAny_standAt (wpAny_bind (wpAny_holding (setattr_ok I2 ea c n l r fun s3 I3 => ?_))))
  exact wpAny_release ⟨σ, _, I3, q⟩
/-! ### what is a text -/
def isT : V → Bool
  | .str _ => true
  | _ => false
/-- no text, and so it stays -/
def NotTxt (K : PySem.W.Frag) (H : Hp) (v : V) : Prop := ∃ t : String, (∀ H', Kp [] H H' → TyX K H' v (.type t)) ∧ t ∈ ["NoneType", "bool", "int", "list", "tuple", "dict"]
theorem NotTxt.keep {K : PySem.W.Frag} {H H1 : Hp} {v : V} (h : NotTxt K H v) (k : Kp [] H H1) : NotTxt K H1 v := by
  obtain ⟨t, h1, h2⟩ := h
  exact ⟨t, fun H' k' => h1 H' (k.trans k'), h2⟩
theorem NotTxt.non {K : PySem.W.Frag} {H : Hp} : NotTxt K H .non := ⟨_, fun _ _ => .base .non, by simp⟩
theorem NotTxt.bl {K : PySem.W.Frag} {H : Hp} {b : Bool} : NotTxt K H (.bl b) := ⟨_, fun _ _ => .base (.bl b), by simp⟩
theorem NotTxt.int {K : PySem.W.Frag} {H : Hp} {i : Int} : NotTxt K H (.int i) := ⟨_, fun _ _ => .base (.int i), by simp⟩
theorem NotTxt.lst {K : PySem.W.Frag} {H : Hp} {a : Addr} {xs : List V} (h : H a = some (.lst xs)) : NotTxt K H (.ref a) := ⟨_, fun _ k => .base (.lst (k _ _ h List.not_mem_nil)), by simp⟩
theorem NotTxt.tup {K : PySem.W.Frag} {H : Hp} {a : Addr} {xs : List V} (h : H a = some (.tup xs)) : NotTxt K H (.ref a) := ⟨_, fun _ k => .base (.tup (k _ _ h List.not_mem_nil)), by simp⟩
/-- what a ring may be made of -/
def RowV (H : Hp) (x : V) (zs : List Str) : Prop := ∃ p, x = .ref p ∧ H p = some (.lst (zs.map V.str)) ∧ 1 ≤ zs.length ∧ zs.length ≤ 200
/-- of what none may be made -/
def OddV (K : PySem.W.Frag) (H : Hp) (x : V) : Prop := (∃ t : String, (∀ H', Kp [] H H' → TyX K H' x (.type t)) ∧ t ∈ ["NoneType", "bool", "int", "str", "tuple", "dict"]) ∨
  (∃ (p : Addr) (xs : List V), x = .ref p ∧ H p = some (.lst xs) ∧ (xs.length = 0 ∨ 200 < xs.length ∨ (xs.all isT = false ∧ ∀ v ∈ xs, isT v = true ∨ NotTxt K H v))) ∨
  ∃ zs, RowV H x zs ∧ ¬ zs.Nodup
theorem RowV.keep {H H1 : Hp} {x : V} {zs : List Str} {ws : List Addr} (h : RowV H x zs) (k : Kp ws H H1) (n : ∀ p, x = .ref p → p ∉ ws) : RowV H1 x zs := by
  obtain ⟨p, rfl, e, l1, l2⟩ := h
  exact ⟨p, rfl, k _ _ e (n p rfl), l1, l2⟩
theorem RowV.keep0 {H H1 : Hp} {x : V} {zs : List Str} (h : RowV H x zs) (k : Kp [] H H1) : RowV H1 x zs := h.keep k fun _ _ => List.not_mem_nil
theorem OddV.keep {K : PySem.W.Frag} {H H1 : Hp} {x : V} (h : OddV K H x) (k : Kp [] H H1) : OddV K H1 x := by
  rcases h with ⟨t, h1, h2⟩ | ⟨p, xs, rfl, e, h⟩ | ⟨zs, h, n⟩
  · exact .inl ⟨t, fun H' k' => h1 H' (k.trans k'), h2⟩
  · refine .inr (.inl ⟨p, xs, rfl, k _ _ e List.not_mem_nil, ?_⟩)
    rcases h with h | h | ⟨h1, h2⟩
    · exact .inl h
    · exact .inr (.inl h)
    · refine .inr (.inr ⟨h1, fun v hv => ?_⟩)
      rcases h2 v hv with q | q
      · exact .inl q
      · exact .inr (q.keep k)
  · exact .inr (.inr ⟨zs, h.keep0 k, n⟩)
/-- no number of the range, now and later -/
def OutK (K : PySem.W.Frag) (H : Hp) (lo hi : Int) (x : V) : Prop := ∀ H', Kp [] H H' → OutN K H' lo hi x
theorem OutK.keep {K : PySem.W.Frag} {H H1 : Hp} {lo hi : Int} {x : V} (h : OutK K H lo hi x) (k : Kp [] H H1) : OutK K H1 lo hi x := fun H' k' => h H' (k.trans k')
theorem BadV.outK {K : PySem.W.Frag} {st : Addr} {H : Hp} {lo hi : Int} {x : V} (h : BadV st H lo hi x) : OutK K H lo hi x := fun _ k => (h.keep (k.mono (by simp))).out
theorem isT_map (zs : List Str) : (zs.map V.str).all isT = true := by
  rw [List.all_map, List.all_eq_true]
  intro x _
  rfl
theorem kp_nil {H H' : Hp} {ws : List Addr} (k : Kp ws H H') (h : ∀ w ∈ ws, H w = none) : Kp [] H H' := fun a o e _ => k a o e fun q => by
  rw [h a q] at e
  cases e
end Lz
namespace Jo
/-- who are left, from the next one on, after m turns -/
def after {α : Type} (t : Nat) : Nat → List α → List α
  | 0, xs => xs
  | m + 1, xs => match rotL xs (t % xs.length) with
    | [] => []
    | _ :: r => after t m r
theorem after_step {α : Type} {t m : Nat} {xs : List α} {h : α} {r : List α} (e : rotL xs (t % xs.length) = h :: r) : after t (m + 1) xs = after t m r := by
  show (match rotL xs (t % xs.length) with | [] => [] | _ :: r => after t m r) = _
  rw [e]
theorem out_after {α : Type} (t : Nat) : ∀ (m : Nat) (xs : List α), m ≤ xs.length → (out t xs).take m ++ out t (after t m xs) = out t xs ∧ (after t m xs).length = xs.length - m
  | 0, xs, _ => ⟨rfl, rfl⟩
  | m + 1, xs, h => by
    have hne : xs ≠ [] := fun q => by rw [q] at h; cases h
    obtain ⟨x, r, e, l⟩ := rot_cons t hne
    obtain ⟨h1, h2⟩ := out_after t m r (by omega)
    rw [after_step e, out_step e]
    refine ⟨?_, by omega⟩
    rw [List.take_succ_cons, List.cons_append, h1]
theorem after_more {α : Type} (t : Nat) : ∀ (m : Nat) (xs : List α), m < xs.length → ∃ h, rotL (after t m xs) (t % (after t m xs).length) = h :: after t (m + 1) xs ∧ (out t xs)[m]? = some h
  | 0, xs, h => by
    have hne : xs ≠ [] := fun q => by rw [q] at h; cases h
    obtain ⟨x, r, e, l⟩ := rot_cons t hne
    refine ⟨x, ?_, by rw [out_step e]; rfl⟩
    rw [after_step e]
    exact e
  | m + 1, xs, h => by
    have hne : xs ≠ [] := fun q => by rw [q] at h; cases h
    obtain ⟨x, r, e, l⟩ := rot_cons t hne
    obtain ⟨y, h1, h2⟩ := after_more t m r (by omega)
    refine ⟨y, ?_, by rw [out_step e]; exact h2⟩
    rw [after_step e, after_step e]
    exact h1
theorem after_all {α : Type} (t : Nat) (xs : List α) : after t xs.length xs = [] := by
  have h := (out_after t xs.length xs (Nat.le_refl _)).2
  rw [Nat.sub_self] at h
  exact List.eq_nil_of_length_eq_zero h
theorem after_mem {α : Type} (t : Nat) : ∀ (m : Nat) (xs : List α), ∀ x ∈ after t m xs, x ∈ xs
  | 0, xs, x, h => h
  | m + 1, xs, x, h => by
    by_cases hne : xs = []
    · subst hne
      rw [show after t (m + 1) ([] : List α) = [] by simp [after, rotL]] at h
      exact h
    · obtain ⟨y, r, e, l⟩ := rot_cons t hne
      rw [after_step e] at h
      have h1 := after_mem t m r x h
      exact (rotL_perm xs (t % xs.length)).mem_iff.mp (by rw [e]; exact .tail _ h1)
end Jo
namespace Lz
open PySem PySem.Spec PyProof.Rows L2
/-! ### a ring: x the instance, r the list of those left, o the list of those out -/
structure RingAt (K : PySem.W.Frag) (H : Hp) (x r o : Addr) (s : Nat) (rest out : List Str) : Prop where
  ins : ∃ dx, H x = some (.ins (He.ga K "Ring") dx [("step", .int s), ("rest", .ref r), ("out", .ref o)])
  lr : H r = some (.lst (rest.map V.str))
  lo : H o = some (.lst (out.map V.str))
  ne : r ≠ o
  s1 : 1 ≤ s
  s2 : (s : Int) ≤ 10 ^ 60
  room : rest.length + out.length ≤ 400
section
variable {K : PySem.W.Frag} {H H1 : Hp} {x r o a : Addr} {s : Nat} {rest out : List Str}
theorem RingAt.keep {ws : List Addr} (R : RingAt K H x r o s rest out) (k : Kp ws H H1) (n : x ∉ ws) (nr : r ∉ ws) (no : o ∉ ws) : RingAt K H1 x r o s rest out := by
  obtain ⟨dx, e⟩ := R.ins
  exact ⟨⟨dx, k _ _ e n⟩, k _ _ R.lr nr, k _ _ R.lo no, R.ne, R.s1, R.s2, R.room⟩
theorem RingAt.keep0 (R : RingAt K H x r o s rest out) (k : Kp [] H H1) : RingAt K H1 x r o s rest out := R.keep k List.not_mem_nil List.not_mem_nil List.not_mem_nil
theorem RingAt.xr (R : RingAt K H x r o s rest out) : x ≠ r := fun q => by
  obtain ⟨dx, e⟩ := R.ins
  rw [q, R.lr] at e
  cases e
theorem RingAt.xo (R : RingAt K H x r o s rest out) : x ≠ o := fun q => by
  obtain ⟨dx, e⟩ := R.ins
  rw [q, R.lo] at e
  cases e
theorem RingAt.nx (R : RingAt K H x r o s rest out) {ys : List V} (h : H a = some (.lst ys)) : a ≠ x := fun q => by
  obtain ⟨dx, e⟩ := R.ins
  rw [← q, h] at e
  cases e
end
end Lz
namespace Lz
open PySem PySem.Spec PyProof.Rows L2
/-! ### texts of numbers -/
theorem tl_app (x y : Str) : TL.tl (x ++ y) = TL.tl x ++ TL.tl y := TL.tl_append x y
abbrev numS (n : Nat) : Str := Str.ofString (toString ((n : Nat) : Int))
theorem ok_tl {z : Str} (h : ∀ c ∈ TL.tl z, c < 1114112) : PyData.strOk z = true := by
  show z.cps.all (· < 0x110000) = true
  rw [← Array.all_toList, List.all_eq_true]
  exact fun c hc => decide_eq_true (h c hc)
theorem tl_ok {z : Str} (h : PyData.strOk z = true) : ∀ c ∈ TL.tl z, c < 1114112 := by
  intro c hc
  have h : z.cps.all (· < 0x110000) = true := h
  rw [← Array.all_toList, List.all_eq_true] at h
  exact of_decide_eq_true (h c hc)
theorem ok_app {x y : Str} (hx : PyData.strOk x = true) (hy : PyData.strOk y = true) : PyData.strOk (x ++ y) = true := ok_tl fun c hc => by
  rw [tl_app] at hc
  rcases List.mem_append.mp hc with h | h
  · exact tl_ok hx c h
  · exact tl_ok hy c h
theorem num_ok (n : Nat) : PyData.strOk (numS n) = true := ok_tl fun c hc => by
  rw [TL.tl_num] at hc
  have := TL.numL_digits n c hc
  omega
theorem num_inj {m n : Nat} (h : numS m = numS n) : m = n := by
  have e := congrArg TL.tl h
  rw [TL.tl_num, TL.tl_num] at e
  exact TL.numL_inj e
theorem num_len {n : Nat} (h : n < 100000) : (numS n).length ≤ 5 := by
  have e : (numS n).length = (TL.tl (numS n)).length := TL.len_tl _
  rw [e, TL.tl_num]
  exact TL.numL_len (k := 5) (by decide) (by omega)
theorem app_inj {a x y : Str} (h : a ++ x = a ++ y) : x = y := by
  have e := congrArg TL.tl h
  rw [tl_app, tl_app] at e
  exact TL.ext_tl (List.append_cancel_left e)
theorem app_injR {a x y : Str} (h : x ++ a = y ++ a) : x = y := by
  have e := congrArg TL.tl h
  rw [tl_app, tl_app] at e
  exact TL.ext_tl (List.append_cancel_right e)
theorem nodup_of {α : Type} (f : Nat → α) (n : Nat) (h : ∀ i j, i < n → j < n → f i = f j → i = j) : ((List.range n).map f).Nodup := by
  refine List.pairwise_map.mpr (List.Pairwise.imp_of_mem (fun {i j} hi hj hn e => hn ?_) List.nodup_range)
  exact h i j (List.mem_range.mp hi) (List.mem_range.mp hj) e
theorem isS_texts {zs : List Str} (h : ∀ z ∈ zs, PyData.strOk z = true) : (zs.map V.str).all isS = true := by
  rw [List.all_map, List.all_eq_true]
  exact fun z hz => h z hz
theorem out_get {α : Type} {s n b i : Nat} (f : Nat → α) (hs : 1 ≤ s) (hb : b < n) (hi : i < n) : (Jo.out (s - 1) (Jo.rotL ((List.range n).map f) b))[i]? = some (f ((b + Jo.pos s n ((i + 1) * s)) % n)) := by
  rw [Jo.rotL_map, Jo.rot_range_map hb, List.map_map, Jo.out_map, List.getElem?_map, Jo.out_range hs hi]
  show some (f ((Jo.pos s n ((i + 1) * s) + b) % n)) = _
  rw [Nat.add_comm]
theorem log_num {n : Nat} (h : n < 100000) : ((n : Nat) : Int).natAbs.log2 < 1920 := by
  show n.log2 < 1920
  have e : n.log2 ≤ n := by
    by_cases z : n = 0
    · rw [z]
      decide
    · have := Nat.log2_self_le z
      have q := Nat.lt_two_pow_self (n := n.log2)
      omega
  by_cases z : n = 0
  · rw [z]
    decide
  · have h2 := Nat.log2_self_le z
    have h3 : 2 ^ n.log2 < 2 ^ 17 := by omega
    have := (Nat.pow_lt_pow_iff_right (by decide : 1 < 2)).mp h3
    omega
end Lz
namespace Lz
open PySem PySem.Spec PyProof.Rows L2
theorem flat_texts (zs : List Str) : (zs.map V.str).all flatV = true := by
  rw [List.all_map, List.all_eq_true]
  intro z _
  rfl
theorem inV_text (h : Str) (zs : List Str) : inV (.str h) (zs.map V.str) = decide (h ∈ zs) := by
  unfold inV
  rw [List.any_map]
  have e : ((fun y => eqV y (.str h)) ∘ V.str) = fun z : Str => z == h := funext fun z => rfl
  rw [e, Bool.eq_iff_iff, List.any_eq_true, decide_eq_true_eq]
  constructor
  · rintro ⟨z, hz, q⟩
    rw [← eq_of_beq q]
    exact hz
  · exact fun hz => ⟨h, hz, beq_self_eq_true h⟩
end Lz
namespace Lz
open PySem PySem.Spec PyProof.Rows L2
/-! ### a text, many times -/
def rMulS : R2 := fun x y H Q => ∃ (z : Str) (n : Nat), x = .str z ∧ y = .int (n : Int) ∧ n ≤ 1000 ∧ z.length = 1 ∧ Q (.str (Txt.mul z (n : Int))) H
theorem op_mulS {X : Cx} : OpR X (binaryOp .Mult) rMulS := by
  intro pins s σ H x y v u Q I rx ry h
  obtain ⟨z, n, rfl, rfl, hn, hz, q⟩ := h
  obtain ⟨t, rfl⟩ := rx
  obtain ⟨t', rfl⟩ := ry
  refine PySem.SB.mul ⟨?_, fun h1 _ => ?_, fun _ _ => ?_⟩ fun t2 k => ⟨.str _, H, I.tok _, ⟨_, rfl⟩, q⟩
  · rw [decide_eq_false (show ¬ ((n : Int) < -(2 ^ 63)) by omega), decide_eq_false (show ¬ ((n : Int) ≥ 2 ^ 63) by omega)]
    rfl
  · rw [hz]
    have h2 : (1000 : Int) ≤ (2 ^ 63 - 1) / (n : Int) := (Int.le_ediv_iff_mul_le (by omega)).mpr (by omega)
    omega
  · show decide (z.length * (n : Int).toNat > sizeLine) = false
    rw [hz]
    refine decide_eq_false ?_
    rw [sizeLine_eq]
    omega
theorem tl_mul (c n : Nat) : TL.tl (Txt.mul ⟨#[c]⟩ (n : Int)) = List.replicate n c := mul_one_list c (n : Int)
/-! ### xs[::k], k 1 or -1 -/
def tStep (K : PySem.W.Frag) (te ts : TE) : TE := fun σ H Q => te σ H fun x H1 => ∃ a, x = .ref a ∧ tPart ts σ H1 fun o H2 => ∃ (xs : List V) (c : Int), o = some c ∧ (c = 1 ∨ c = -1) ∧ SqL K H2 a xs ∧
  ∀ p, H2 p = none → Q (.ref p) (upd H2 p (.lst (if c = 1 then xs else xs.reverse)))
theorem pick_one (its : Array Value) : slicePick its none none (some 1) = its := slicePick_all its
theorem pe_stepL {X : Cx} {e st : Expr} {te ts : TE} {p3 pos : Pos} (he : PE X e te) (hs : PE X st ts)
    (hcut : ∀ a b, subscripted (.Slice none none (some st) p3) false a b = operate [a, b] (getItem a b) := by intro _ _; with_unfolding_all rfl) :
    PE X (.Subscript e (.Slice none none (some st) p3) pos) (tStep X.K te ts) := by
  refine ⟨fun pins s σ H Q I h => ?_⟩
  refine Subscript_ (thn (he.run pins s σ H _ I h) fun v s1 ⟨x, H1, I1, r1, a, ex, q1⟩ => ?_)
  subst ex
  cases r1
  refine wpAny_Slice (thn (po_none.run pins s1 σ H1 (fun o G => o = none ∧ G = H1) I1 ⟨rfl, rfl⟩) fun vl s2 ⟨l, H2, I2, pl, el, e2⟩ => ?_)
  subst el e2
  refine thn (po_none.run pins s2 σ H2 (fun o G => o = none ∧ G = H2) I2 ⟨rfl, rfl⟩) fun vu s3 ⟨u, H3, I3, pu, eu, e3⟩ => ?_
  subst eu e3
  refine thn ((po_some hs).run pins s3 σ H3 _ I3 q1) fun vs s4 ⟨o, H4, I4, ps, xs, c, eo, hc, hx, q⟩ => ?_
  subst eo
  have I5 : Inv X pins σ H4 { s4 with heap := s4.heap.push { cls := .type "slice", data := .fields #[vl, vu, vs] } } := I4.kept (t' := s4.toks) fun b u z => Heap.get?_push_of_some _ z
  obtain ⟨its, r, ht, hz⟩ := I5.list hx
  have hlen := r.length
  refine tail_any (ops := [.ref a, .ref s4.heap.objs.size]) ht.isList.typeIs (PySem.slot_list_getitem.lookup) ?_ (hcut _ _)
  refine wpAny_getItem_list_slice ht.isList (Heap.IsSliceOf.new _ vl vu vs) pl pu ps (by rcases hc with rfl | rfl <;> decide) ?_ (by rw [List.size_toArray]; omega)
  rcases hc with rfl | rfl
  · rw [pick_one]
    exact ⟨.ref _, _, I5.laid (t' := s4.toks) (o := .lst xs) (fun b u z => Heap.get?_push_of_some _ z) (Nat.le_refl _) ⟨hz, _, 0, r, Heap.get?_push_size _ rfl⟩, rfl, q _ (I5.hok.fresh (Nat.le_refl _))⟩
  · rw [PySem.W.krv_pick]
    exact ⟨.ref _, _, I5.laid (t' := s4.toks) (o := .lst xs.reverse) (fun b u z => Heap.get?_push_of_some _ z) (Nat.le_refl _) ⟨by rw [List.length_reverse]; exact hz, _, 0, r.reverse, Heap.get?_push_size _ rfl⟩, rfl, q _ (I5.hok.fresh (Nat.le_refl _))⟩
/-! ### is True, is False: the same one -/
def rSameB (r : Bool) : R2 := fun x y H Q => ∃ c : Bool, x = .bl c ∧ y = .bl c ∧ Q (.bl r) H
theorem op_isB {X : Cx} : OpR X (compareOp .Is) (rSameB true) := fun pins s σ H x y v u Q I rx ry ⟨c, ex, ey, q⟩ => by
  subst ex ey
  have e1 : v = Value.bool c := rx
  have e2 : u = Value.bool c := ry
  rw [e1, e2]
  exact wpAny_is_self rfl ⟨.bl true, H, I, rfl, q⟩
theorem op_notB {X : Cx} : OpR X (compareOp .IsNot) (rSameB false) := fun pins s σ H x y v u Q I rx ry ⟨c, ex, ey, q⟩ => by
  subst ex ey
  have e1 : v = Value.bool c := rx
  have e2 : u = Value.bool c := ry
  rw [e1, e2]
  exact wpAny_isNot_self rfl ⟨.bl false, H, I, rfl, q⟩
end Lz
namespace Lz
open PySem PySem.Spec PyProof.Rows L2
theorem kp_new {H H1 H2 : Hp} {ws : List Addr} (k : Kp [] H H1) (k2 : Kp ws H1 H2) (h : ∀ w ∈ ws, H w = none) : Kp [] H H2 := fun a o e _ => k2 a o (k a o e List.not_mem_nil) fun q => by
  rw [h a q] at e
  cases e
theorem two_none {H : Hp} {x o : Addr} (hx : H x = none) (ho : H o = none) : ∀ w ∈ [x, o], H w = none := fun w hw => by
  rcases List.mem_cons.mp hw with q | q
  · rw [q]
    exact hx
  · rw [List.mem_singleton.mp q]
    exact ho
theorem one_none {H : Hp} {x : Addr} (hx : H x = none) : ∀ w ∈ [x], H w = none := fun w hw => by
  rw [List.mem_singleton.mp hw]
  exact hx
/-- a ring and the two lists that a law keeps beside it; all of them are new since H -/
structure Two (K : PySem.W.Frag) (H H1 : Hp) (x r o rw gn : Addr) (s : Nat) (rest out : List Str) : Prop where
  k : Kp [] H H1
  R : RingAt K H1 x r o s rest out
  er : H1 rw = some (.lst (rest.map V.str))
  eg : H1 gn = some (.lst (out.map V.str))
  n1 : rw ≠ r
  n2 : rw ≠ o
  n3 : rw ≠ gn
  n4 : gn ≠ r
  n5 : gn ≠ o
  hx : H x = none
  hr : H r = none
  ho : H o = none
  hw : H rw = none
  hg : H gn = none
  nd : (rest ++ out).Nodup
section
variable {K : PySem.W.Frag} {H H1 H2 : Hp} {x r o rw gn a : Addr} {s : Nat} {rest out : List Str} {u : HO}
theorem Two.keep (W : Two K H H1 x r o rw gn s rest out) (k : Kp [] H1 H2) : Two K H H2 x r o rw gn s rest out :=
  { W with k := W.k.trans k, R := W.R.keep0 k, er := k _ _ W.er List.not_mem_nil, eg := k _ _ W.eg List.not_mem_nil }
theorem Two.room (W : Two K H H1 x r o rw gn s rest out) : rest.length + out.length ≤ 400 := W.R.room
/-- the hands are counted out: where those of the law's own lists went the same way -/
theorem nd_after {t m : Nat} (hm : m ≤ rest.length) (h : (rest ++ out).Nodup) : (Jo.after t m rest ++ (out ++ (Jo.out t rest).take m)).Nodup := by
  have e := (Jo.out_after t m rest hm).1
  have p1 : (Jo.out t (Jo.after t m rest)).Perm (Jo.after t m rest) := Jo.out_perm _ _
  have p2 : (Jo.out t rest).Perm rest := Jo.out_perm _ _
  have p3 : (Jo.after t m rest ++ (out ++ (Jo.out t rest).take m)).Perm (rest ++ out) := by
    have q1 : (Jo.after t m rest ++ (out ++ (Jo.out t rest).take m)).Perm (Jo.after t m rest ++ ((Jo.out t rest).take m ++ out)) := List.Perm.append_left _ List.perm_append_comm
    have q2 : (Jo.after t m rest ++ ((Jo.out t rest).take m ++ out)).Perm ((Jo.after t m rest ++ (Jo.out t rest).take m) ++ out) := by rw [List.append_assoc]
    have q3 : (Jo.after t m rest ++ (Jo.out t rest).take m).Perm rest := by
      refine (List.perm_append_comm.trans (List.Perm.append_left _ p1.symm)).trans ?_
      rw [e]
      exact p2
    exact (q1.trans q2).trans (q3.append_right out)
  exact p3.nodup_iff.mpr h
theorem mem_after {t m : Nat} {z : Str} (hm : m ≤ rest.length) (h : z ∈ Jo.after t m rest ++ (out ++ (Jo.out t rest).take m)) : z ∈ rest ++ out := by
  rcases List.mem_append.mp h with h | h
  · exact List.mem_append_left _ (Jo.after_mem t m rest z h)
  · rcases List.mem_append.mp h with h | h
    · exact List.mem_append_right _ h
    · exact List.mem_append_left _ ((Jo.out_perm t rest).mem_iff.mp (List.mem_of_mem_take h))
/-- the one who goes next is not yet among those gone -/
theorem not_gone {t j : Nat} {h : Str} (hj : (Jo.out t rest)[j]? = some h) (nd : (rest ++ out).Nodup) : h ∉ out ++ (Jo.out t rest).take j := by
  have p : (Jo.out t rest ++ out).Perm (rest ++ out) := (Jo.out_perm t rest).append_right out
  have nd2 := p.nodup_iff.mpr nd
  obtain ⟨n1, n2, n3⟩ := List.nodup_append.mp nd2
  intro q
  rcases List.mem_append.mp q with q | q
  · exact n3 h (List.mem_of_getElem? hj) h q rfl
  · obtain ⟨i, hi, e⟩ := List.mem_iff_getElem.mp q
    rw [List.getElem_take] at e
    rw [List.length_take] at hi
    obtain ⟨l, g⟩ := List.getElem?_eq_some_iff.mp hj
    have := (List.getElem_inj n1).mp (e.trans g.symm)
    omega
theorem nd_come {p : Nat} {h : Str} (h1 : h ∉ rest) (h2 : h ∉ out) (nd : (rest ++ out).Nodup) : ((rest.take p ++ h :: rest.drop p) ++ out).Nodup := by
  have q : ((rest.take p ++ h :: rest.drop p) ++ out).Perm (h :: (rest ++ out)) := by
    have q1 : (rest.take p ++ h :: rest.drop p).Perm (h :: (rest.take p ++ rest.drop p)) := List.perm_middle
    rw [List.take_append_drop] at q1
    exact q1.append_right out
  refine q.nodup_iff.mpr (List.nodup_cons.mpr ⟨fun hm => ?_, nd⟩)
  rcases List.mem_append.mp hm with hm | hm
  · exact h1 hm
  · exact h2 hm
theorem mem_come {p : Nat} {h z : Str} (hz : z ∈ (rest.take p ++ h :: rest.drop p) ++ out) : z = h ∨ z ∈ rest ++ out := by
  rcases List.mem_append.mp hz with hz | hz
  · rcases List.mem_append.mp hz with hz | hz
    · exact .inr (List.mem_append_left _ (List.mem_of_mem_take hz))
    · rcases List.mem_cons.mp hz with hz | hz
      · exact .inl hz
      · exact .inr (List.mem_append_left _ (List.mem_of_mem_drop hz))
  · exact .inr (List.mem_append_right _ hz)
end
end Lz
namespace Lz
open PySem PySem.Spec PyProof.Rows L2
/-- a test's no, from wherever it comes -/
theorem and_no {t u : TT} {σ : L2.St} {H1 : Hp} {Q : Bool → Hp → Prop} (hB : ∀ G, Kp [] H1 G → Q false G) (h : (∀ G, Kp [] H1 G → Q false G) → t σ H1 (fun c G => if c = true then u σ G Q else Q false G)) : tAnd t u σ H1 Q := h hB
theorem ne_nil {zs : List Str} {K : PySem.W.Frag} {H : Hp} {p q : Addr} {Q : VK} (hp : SqL K H p (zs.map V.str)) (hq : SqL K H q []) (ok : ∀ z ∈ zs, PyData.strOk z = true) (h0 : zs = [] → Q (.bl false) H) (h1 : zs ≠ [] → Q (.bl true) H) : rNeD K (.ref p) (.ref q) H Q := by
  refine neD_l hp hq (isS_texts ok) rfl ?_
  by_cases e : zs = []
  · subst e
    exact h0 rfl
  · have n : ¬ zs.map V.str = [] := fun q => e (List.map_eq_nil_iff.mp q)
    rw [decide_eq_false n]
    exact h1 e
end Lz
namespace Lz
open PySem PySem.Spec PyProof.Rows L2
theorem or_any {t u : TT} {σ : L2.St} {H1 : Hp} {Q : Bool → Hp → Prop} (b : Bool) (hB : ∀ G, Kp [] H1 G → Q b G) (h : (∀ G, Kp [] H1 G → Q b G) → t σ H1 (fun c G => if c = true then Q true G else u σ G Q)) : tOr t u σ H1 Q := h hB
theorem mem_cut {xs : List V} {lo hi : Option Int} {v : V} (h : v ∈ cutV xs lo hi) : v ∈ xs := by
  unfold cutV at h
  exact List.mem_of_mem_drop (List.mem_of_mem_take h)
theorem len_cut (xs : List V) (lo hi : Option Int) : (cutV xs lo hi).length ≤ xs.length := by
  unfold cutV
  rw [List.length_take, List.length_drop]
  omega
theorem map_int {ns : List Int} {v : V} (h : v ∈ ns.map V.int) : ∃ i : Int, v = .int i := by
  obtain ⟨i, _, e⟩ := List.mem_map.mp h
  exact ⟨i, e.symm⟩
end Lz
namespace Lz
open PySem PySem.Spec PyProof.Rows L2
/-- the law draws: the state alone is written -/
theorem Two.drew {K : PySem.W.Frag} {H H1 H2 : Hp} {x r o rw gn st : Addr} {s : Nat} {rest out : List Str} (W : Two K H H1 x r o rw gn s rest out) (d : Drew st H1 H2) (ns : H st = none) (nx : x ≠ st) (nr : r ≠ st) (no : o ≠ st) (nw : rw ≠ st) (ng : gn ≠ st) :
    Two K H H2 x r o rw gn s rest out :=
  { W with k := kp_new W.k d.1 (one_none ns), R := W.R.keep d.1 (fun z => nx (List.mem_singleton.mp z)) (fun z => nr (List.mem_singleton.mp z)) (fun z => no (List.mem_singleton.mp z)), er := d.at W.er nw, eg := d.at W.eg ng }
end Lz
namespace Lz
open PySem PySem.Spec PyProof.Rows L2

def top (i : Nat) : Stmt := PySem.Challenge.pw_countout_k08_rings_counted.main.body.getD i (.Pass ⟨0, 0, 0, 0⟩)
abbrev cCountError (K : PySem.W.Frag) : Addr := He.ga K "CountError"
abbrev cNoRing (K : PySem.W.Frag) : Addr := He.ga K "NoRing"
abbrev cNoMany (K : PySem.W.Frag) : Addr := He.ga K "NoMany"
abbrev cNoStep (K : PySem.W.Frag) : Addr := He.ga K "NoStep"
abbrev cNoPlace (K : PySem.W.Frag) : Addr := He.ga K "NoPlace"
abbrev cNoCount (K : PySem.W.Frag) : Addr := He.ga K "NoCount"
abbrev cNoHand (K : PySem.W.Frag) : Addr := He.ga K "NoHand"
abbrev cTwiceTold (K : PySem.W.Frag) : Addr := He.ga K "TwiceTold"
abbrev cTooMany (K : PySem.W.Frag) : Addr := He.ga K "TooMany"
abbrev cRing (K : PySem.W.Frag) : Addr := He.ga K "Ring"
def errNames : List (Str × Str) := [("NoRing", "ring"), ("NoMany", "many"), ("NoStep", "step"), ("NoPlace", "place"), ("NoCount", "count"), ("NoHand", "hand"), ("TwiceTold", "twice"), ("TooMany", "much")]
/-- an own refusal, told by its word -/
def EE (K : PySem.W.Frag) (Q : VK) : XK := fun cls d H => d = none ∧ ∃ x wd : Str, (x, wd) ∈ errNames ∧ cls = .ref (He.ga K x) ∧ ∀ H', Kp [] H H' → Q (.str wd) H'
structure Txt (K : PySem.W.Frag) (mg : Str → Option Value) : Prop where
  b_len : mg "len" = none
  b_range : mg "range" = none
  b_list : mg "list" = none
  b_min : mg "min" = none
  b_max : mg "max" = none
  b_isinstance : mg "isinstance" = none
  b_int : mg "int" = none
  b_bool : mg "bool" = none
  b_str : mg "str" = none
  b_enumerate : mg "enumerate" = none
  b_all : mg "all" = none
  b_set : mg "set" = none
  b_ValueError : mg "ValueError" = none
  c_GREATEST : ∃ t, mg "GREATEST" = some (.int (1000000000000000000000000000000000000000000000000000000000000) t)
  c_MOST_HANDS : ∃ t, mg "MOST_HANDS" = some (.int (200) t)
  c_MOST_COME : ∃ t, mg "MOST_COME" = some (.int (400) t)
  g_CountError : mg "CountError" = some (.ref (cCountError K))
  g_NoRing : mg "NoRing" = some (.ref (cNoRing K))
  g_NoMany : mg "NoMany" = some (.ref (cNoMany K))
  g_NoStep : mg "NoStep" = some (.ref (cNoStep K))
  g_NoPlace : mg "NoPlace" = some (.ref (cNoPlace K))
  g_NoCount : mg "NoCount" = some (.ref (cNoCount K))
  g_NoHand : mg "NoHand" = some (.ref (cNoHand K))
  g_TwiceTold : mg "TwiceTold" = some (.ref (cTwiceTold K))
  g_TooMany : mg "TooMany" = some (.ref (cTooMany K))
  g_Ring : mg "Ring" = some (.ref (cRing K))
  x_CountError : PySem.W.keepIn K (.ref (cCountError K)) = true
  x_NoRing : ExcT K (cNoRing K)
  x_NoMany : ExcT K (cNoMany K)
  x_NoStep : ExcT K (cNoStep K)
  x_NoPlace : ExcT K (cNoPlace K)
  x_NoCount : ExcT K (cNoCount K)
  x_NoHand : ExcT K (cNoHand K)
  x_TwiceTold : ExcT K (cTwiceTold K)
  x_TooMany : ExcT K (cTooMany K)
  err : ErrT K (errNames.map (·.1))
  cl_Ring : Cls K (cRing K)
  n_step : NoAttr K (cRing K) "step"
  n_rest : NoAttr K (cRing K) "rest"
  n_out : NoAttr K (cRing K) "out"
end Lz
namespace Lz
open PySem PySem.Spec PyProof.Rows L2
abbrev s__law_cell_at : Stmt := top 27
def spCell (K : PySem.W.Frag) : Sp := fun vs H Q _ => ∃ (a : Addr) (ns : List Int) (k : Int), vs = [.ref a, .int k] ∧
  SqL K H a (ns.map V.int) ∧ 0 ≤ k ∧ ∀ v : Int, Q (.int v) H
section
variable {P : Program} {w : World} {K : PySem.W.Frag} {mg : Str → Option Value} {base : Heap}
theorem sc__law_cell_at : FnScope ["_law_script", "_law_k"] ["_law_script", "_law_k"] (defScope s__law_cell_at) := ⟨rfl, rfl, rfl, by decide +kernel, rfl, by decide +kernel, by decide +kernel⟩
theorem ok__law_cell_at {f : Addr} {fd : FuncData} (F : FnP K "_law_cell_at" "_law_cell_at" s__law_cell_at [] f fd) (T : Txt K mg)  :
    FnOk P w K mg base CX0 1 f fd ["_law_script", "_law_k"] (spCell K) := by
  have S := sc__law_cell_at
  refine F.ok S (fun vs H Q E h => ?_) (fun cdv A outer s H vs Q E hr h => ?_)
  · obtain ⟨a, ns, k, rfl, _⟩ := h
    rfl
  · obtain ⟨a, ns, k, rfl, hS, h0, hQ⟩ := h
    refine ⟨_, PSs.nox (pss_cons (ps_if (pt_cmpR op_lt (pv 1) (pe_callB call_len_seq (by rfl) T.b_len PySem.boot_len (pa_cons (pv 0) pa_nil)) (nomark _)) (pss_one (ps_ret (pe_ix ix_list (pv 0) (pv 1) (fun _ _ => rfl)))) pss_nil) (pss_one (ps_ret pe_int))), ?_⟩
    refine ⟨_, rfl, _, rfl, a, _, rfl, .inl hS, _, _, rfl, rfl, _, rfl, ite2 (fun c => ?_) (fun c => hQ 0)⟩
    have c1 : k < ((ns.map V.int).length : Int) := of_decide_eq_true c
    rw [List.length_map] at c1
    have c2 : k.toNat < ns.length := by omega
    have e : (ns.map V.int)[k.toNat]? = some (.int ns[k.toNat]) := by
      rw [List.getElem?_map, List.getElem?_eq_getElem c2]
      rfl
    exact ⟨_, rfl, _, rfl, a, _, _, _, rfl, rfl, hS, at_of (j := k.toNat) (by omega) e, hQ _⟩
end
end Lz
namespace Lz
open PySem PySem.Spec PyProof.Rows L2
abbrev s__law_state : Stmt := top 29
def spState (K : PySem.W.Frag) : Sp := fun vs H Q _ => ∃ (a : Addr) (ns : List Int) (k : Int), vs = [.ref a, .int k] ∧
  SqL K H a (ns.map V.int) ∧ 0 ≤ k ∧ ∀ (p : Addr) (H' : Hp), H p = none → Kp [] H H' → StAt H' p → Q (.ref p) H'
section
variable {P : Program} {w : World} {K : PySem.W.Frag} {mg : Str → Option Value} {base : Heap}
theorem sc__law_state : FnScope ["_law_script", "_law_first"] ["_law_script", "_law_first"] (defScope s__law_state) := ⟨rfl, rfl, rfl, by decide +kernel, rfl, by decide +kernel, by decide +kernel⟩
theorem ok__law_state {f : Addr} {fd : FuncData} (F : FnP K "_law_state" "_law_state" s__law_state [] f fd) (T : Txt K mg) (G__law_cell_at : FnAt P w K mg base CX0 1 "_law_cell_at" ["_law_script", "_law_k"] [] (spCell K)) :
    FnOk P w K mg base CX0 2 f fd ["_law_script", "_law_first"] (spState K) := by
  have S := sc__law_state
  refine F.ok S (fun vs H Q E h => ?_) (fun cdv A outer s H vs Q E hr h => ?_)
  · obtain ⟨a, ns, k, rfl, _⟩ := h
    rfl
  · obtain ⟨a, ns, k, rfl, hS, h0, hQ⟩ := h
    refine ⟨_, PSs.nox (pss_one (ps_ret (pe_lst (pa_cons (pe_op op_add (pe_op op_add pe_int (pe_op op_mod (pe_fn G__law_cell_at (hr.mono (by decide)) pass0 (pa_cons (pv 0) (pa_cons (pv 1) pa_nil))) pe_int)) (pe_op op_mod (pe_fn G__law_cell_at (hr.mono (by decide)) pass0 (pa_cons (pv 0) (pa_cons (pe_op op_add (pv 1) pe_int) pa_nil))) pe_int)) pa_nil)))), ?_⟩
    refine ⟨_, rfl, _, rfl, a, ns, k, rfl, hS, h0, fun v => ?_⟩
    refine ⟨_, _, rfl, rfl, (by show (0 : Int) < _; decide), _, _, rfl, rfl, ?_⟩
    refine ⟨_, rfl, _, rfl, _, _, rfl, rfl, a, ns, k + 1, rfl, hS, by omega, fun u => ?_⟩
    refine ⟨_, _, rfl, rfl, (by show (0 : Int) < _; decide), _, _, rfl, rfl, sz 1 (by decide), fun p hp => ?_⟩
    refine hQ p _ hp (Kp.new hp) ⟨_, ⟨?_, ?_⟩, upd_same⟩
    · omega
    · omega
end
end Lz
namespace Lz
open PySem PySem.Spec PyProof.Rows L2
abbrev s__law_turned : Stmt := top 33
def spTurned (K : PySem.W.Frag) : Sp := fun vs H Q _ => ∃ (p : Addr) (m : Int) (xs : List V), vs = [.ref p, .int m] ∧ SqL K H p xs ∧ xs ≠ [] ∧ xs.length ≤ 1000 ∧
  ∀ (q : Addr) (H' : Hp), Kp [] H H' → H q = none → H' q = some (.lst (Jo.rotL xs (m % (xs.length : Int)).toNat)) → Q (.ref q) H'
section
variable {P : Program} {w : World} {K : PySem.W.Frag} {mg : Str → Option Value} {base : Heap}
theorem sc__law_turned : FnScope ["_law_row", "_law_many"] ["_law_row", "_law_many"] (defScope s__law_turned) := ⟨rfl, rfl, rfl, by decide +kernel, rfl, by decide +kernel, by decide +kernel⟩
theorem ok__law_turned {f : Addr} {fd : FuncData} (F : FnP K "_law_turned" "_law_turned" s__law_turned [] f fd) (T : Txt K mg)  :
    FnOk P w K mg base CX0 1 f fd ["_law_row", "_law_many"] (spTurned K) := by
  have S := sc__law_turned
  refine F.ok S (fun vs H Q E h => ?_) (fun cdv A outer s H vs Q E hr h => ?_)
  · obtain ⟨p, m, xs, rfl, _⟩ := h
    rfl
  · obtain ⟨p, m, xs, rfl, hS, hne, hlen, k⟩ := h
    have hl : 0 < xs.length := List.length_pos_iff.mpr hne
    refine ⟨_, PSs.nox (pss_cons (ps_set (i := 1) S.nd rfl (Or.inl rfl) (pe_op op_mod (pv 1) (pe_callB call_len_seq (by rfl) T.b_len PySem.boot_len (pa_cons (pv 0) pa_nil)))) (pss_one (ps_ret (pe_op op_cat (pe_slice sl_list (pv 0) (po_some (pv 1)) po_none) (pe_slice sl_list (pv 0) po_none (po_some (pv 1))))))), ?_⟩
    refine ⟨_, rfl, _, rfl, p, xs, rfl, .inl hS, _, _, rfl, rfl, by omega, ?_⟩
    have m0 := Int.emod_nonneg m (show (xs.length : Int) ≠ 0 by omega)
    have m1 := Int.emod_lt_of_pos m (show 0 < (xs.length : Int) by omega)
    have e : m % (xs.length : Int) = (((m % (xs.length : Int)).toNat : Nat) : Int) := by omega
    refine ⟨_, rfl, _, rfl, ((m % (xs.length : Int)).toNat : Int), congrArg V.int e, p, xs, rfl, hS, fun a ha => ?_⟩
    refine ⟨_, rfl, _, rfl, ((m % (xs.length : Int)).toNat : Int), congrArg V.int e, p, xs, rfl, (Kp.new (ws := []) ha).lst hS (by simp), fun b hb => ?_⟩
    generalize (m % (xs.length : Int)).toNat = j at k ha hb ⊢
    have hab : a ≠ b := ne_of_none upd_same hb
    refine ⟨a, b, _, _, rfl, rfl, by rw [upd_ne hab]; exact upd_same, upd_same, ?_, fun c hc => ?_⟩
    · rw [cut_from, cut_to, List.length_drop, List.length_take]
      exact sz _ (by omega)
    · have hc1 := (Kp.new (ws := []) (o := .lst (cutV xs none (some (j : Int)))) hb).free hc (by simp)
      have hc0 := (Kp.new (ws := []) (o := .lst (cutV xs (some (j : Int)) none)) ha).free hc1 (by simp)
      refine k c _ (((Kp.new ha).trans (Kp.new hb)).trans (Kp.new hc)) hc0 ?_
      rw [upd_same, cut_from, cut_to]
      rfl
end
end Lz
namespace Lz
open PySem PySem.Spec PyProof.Rows L2
abbrev s__law_next_first : Stmt := top 40
/-- what the law writes down of a ring -/
abbrev ownK (rw od hl : Addr) (s t : Nat) : List (Key × V) := [(.inr "row", .ref rw), (.inr "step", .int s), (.inr "at", .int t), (.inr "order", .ref od), (.inr "held", .ref hl)]
section
variable {rw od hl : Addr} {s t u : Nat}
theorem own_row : valV (ownK rw od hl s t) (.inr "row") = some (.ref rw) := rfl
theorem own_step : valV (ownK rw od hl s t) (.inr "step") = some (.int s) := rfl
theorem own_at : valV (ownK rw od hl s t) (.inr "at") = some (.int t) := rfl
theorem own_order : valV (ownK rw od hl s t) (.inr "order") = some (.ref od) := rfl
theorem own_held : valV (ownK rw od hl s t) (.inr "held") = some (.ref hl) := rfl
theorem own_put : putK (ownK rw od hl s t) (.inr "at") (.int u) = ownK rw od hl s u := rfl
end
theorem dget {H : Hp} {a : Addr} {kvs : List (Key × V)} {k : Key} {v : V} (e : H a = some (.dK kvs)) (h : valV kvs k = some v) : DGet H a (kV k) (some v) := by
  rw [← h]
  exact DGet.k e
def spNextFirst (K : PySem.W.Frag) : Sp := fun vs H Q _ => ∃ (d rw od hl : Addr) (s t : Nat) (row : List Str), vs = [.ref d] ∧ H d = some (.dK (ownK rw od hl s t)) ∧ H rw = some (.lst (row.map V.str)) ∧ t ≤ row.length ∧ row.length ≤ 200 ∧ 1 ≤ s ∧
  ∀ (q : Addr) (H' : Hp), Kp [] H H' → H q = none → H' q = some (.lst ((Jo.after (s - 1) t row).map V.str)) → Q (.ref q) H'
section
variable {P : Program} {w : World} {K : PySem.W.Frag} {mg : Str → Option Value} {base : Heap}
theorem sc__law_next_first : FnScope ["_law_own", "_law_left", "_law_turn"] ["_law_own"] (defScope s__law_next_first) := ⟨rfl, rfl, rfl, by decide +kernel, rfl, by decide +kernel, by decide +kernel⟩
theorem ok__law_next_first {f : Addr} {fd : FuncData} (F : FnP K "_law_next_first" "_law_next_first" s__law_next_first [] f fd) (T : Txt K mg) (G__law_turned : FnAt P w K mg base CX0 1 "_law_turned" ["_law_row", "_law_many"] [] (spTurned K)) :
    FnOk P w K mg base CX0 2 f fd ["_law_own"] (spNextFirst K) := by
  have S := sc__law_next_first
  refine F.ok S (fun vs H Q E h => ?_) (fun cdv A outer s H vs Q E hr h => ?_)
  · obtain ⟨d, rw, od, hl, s, t, row, rfl, _⟩ := h
    rfl
  · obtain ⟨d, rw1, od, hl, s', t, row, rfl, ed, er, ht, hrow, s1, k⟩ := h
    refine ⟨_, PSs.nox (pss_cons (ps_set (i := 1) S.nd rfl (Or.inl rfl) (pe_callTy call_list_of (by rfl) T.b_list (by decide +kernel) (pa_cons (pe_dget (hu_of hr) (pv 0) pe_str (fun _ _ => rfl)) pa_nil))) (pss_cons (ps_for PassesOwn.never rfl (pi_range1 (by rfl) T.b_range (pa_cons (pe_dget (hu_of hr) (pv 0) pe_str (fun _ _ => rfl)) pa_nil)) (pg_name (i := 2) S.nd rfl (Or.inl rfl)) (pss_one (ps_set (i := 1) S.nd rfl (Or.inl rfl) (pe_slice sl_list (pe_fn G__law_turned (hr.mono (by decide)) pass0 (pa_cons (pv 1) (pa_cons (pe_op op_sub (pe_dget (hu_of hr) (pv 0) pe_str (fun _ _ => rfl)) pe_int) pa_nil))) (po_some pe_int) po_none)))) (pss_one (ps_ret (pv 1))))), ?_⟩
    refine ⟨_, rfl, d, _, rfl, dget (k := .inr "row") ed own_row, rw1, _, rfl, .inl (SqL.of er), fun l hl0 => ?_⟩
    have k1 : Kp [] H (upd H l (.lst (row.map V.str))) := Kp.new hl0
    refine ⟨_, rfl, d, _, rfl, dget (k := .inr "at") (k1 _ _ ed List.not_mem_nil) own_at, (t : Int), rfl, by omega, by omega, for_range (lo := 0) (n := t)
      (fun i σ H' => ∃ (l : Addr) (v : Option V), σ = [some (.ref d), some (.ref l), v] ∧ Kp [] H H' ∧ H l = none ∧ H' l = some (.lst ((Jo.after (s' - 1) i row).map V.str)))
      ⟨l, _, rfl, k1, hl0, upd_same⟩ ?_ ?_⟩
    · rintro i σ H' hi ⟨l, v, rfl, k2, hl2, el⟩
      obtain ⟨h, eh, _⟩ := Jo.after_more (s' - 1) i row (by omega)
      have la := (Jo.out_after (s' - 1) i row (by omega)).2
      have hne : Jo.after (s' - 1) i row ≠ [] := fun z => by rw [z] at la; simp at la; omega
      refine ⟨_, rfl, _, rfl, d, _, rfl, dget (k := .inr "step") (k2 _ _ ed List.not_mem_nil) own_step, _, _, rfl, rfl, l, (s' : Int) - 1, _, rfl, SqL.of el, (fun z => hne (List.map_eq_nil_iff.mp z)), by rw [List.length_map]; omega, fun qa G kq hqa eq => ?_⟩
      have epass : (((s' : Int) - 1) % ((((Jo.after (s' - 1) i row).map V.str).length : Nat) : Int)).toNat = (s' - 1) % (Jo.after (s' - 1) i row).length := by
        rw [List.length_map]
        have e1 : (s' : Int) - 1 = ((s' - 1 : Nat) : Int) := by omega
        rw [e1]
        rfl
      rw [epass, Jo.rotL_map, eh, List.map_cons] at eq
      refine ⟨1, rfl, qa, _, rfl, SqL.of eq, fun b hb => ?_⟩
      have c1 : cutV (.str h :: (Jo.after (s' - 1) (i + 1) row).map V.str) (some 1) none = (Jo.after (s' - 1) (i + 1) row).map V.str := cut_from (.str h :: (Jo.after (s' - 1) (i + 1) row).map V.str) 1
      rw [c1]
      exact ⟨b, _, rfl, (k2.trans kq).trans (Kp.new hb), (k2.trans kq).free hb List.not_mem_nil, upd_same⟩
    · rintro σ H' ⟨l, v, rfl, k2, hl2, el⟩
      exact ⟨_, rfl, k l H' k2 hl2 el⟩
end
end Lz
namespace Lz
open PySem PySem.Spec PyProof.Rows L2
abbrev s_Ring_left : Stmt := inClass (top 25) 1
def spLeft (K : PySem.W.Frag) : Sp := fun vs H Q _ => ∃ (x r o : Addr) (s : Nat) (rest out : List Str), vs = [.ref x] ∧ RingAt K H x r o s rest out ∧
  ∀ (q : Addr) (H' : Hp), Kp [] H H' → H q = none → H' q = some (.lst (rest.map V.str)) → Q (.ref q) H'
section
variable {P : Program} {w : World} {K : PySem.W.Frag} {mg : Str → Option Value} {base : Heap}
theorem sc_Ring_left : FnScope ["self"] ["self"] (defScope s_Ring_left) := ⟨rfl, rfl, rfl, by decide +kernel, rfl, by decide +kernel, by decide +kernel⟩
theorem ok_Ring_left {f : Addr} {fd : FuncData} (F : FnP K "left" "Ring.left" s_Ring_left [] f fd) (T : Txt K mg)  :
    FnOk P w K mg base CX0 1 f fd ["self"] (spLeft K) := by
  have S := sc_Ring_left
  refine F.ok S (fun vs H Q E h => ?_) (fun cdv A outer s H vs Q E hr h => ?_)
  · obtain ⟨x, r, o, s, rest, out, rfl, _⟩ := h
    rfl
  · obtain ⟨x, r, o, s', rest, out, rfl, R, k⟩ := h
    obtain ⟨dx, e⟩ := R.ins
    refine ⟨_, PSs.nox (pss_one (ps_ret (pe_callTy call_list_of (by rfl) T.b_list (by decide +kernel) (pa_cons (pe_fld (pv 0) rfl) pa_nil)))), ?_⟩
    exact ⟨_, rfl, x, _, dx, _, _, rfl, e, T.cl_Ring, T.n_rest, rfl, r, _, rfl, .inl (SqL.of R.lr), fun l hl => k l _ (Kp.new hl) hl upd_same⟩
end
end Lz
namespace Lz
open PySem PySem.Spec PyProof.Rows L2
abbrev s_Ring_gone : Stmt := inClass (top 25) 2
def spGone (K : PySem.W.Frag) : Sp := fun vs H Q _ => ∃ (x r o : Addr) (s : Nat) (rest out : List Str), vs = [.ref x] ∧ RingAt K H x r o s rest out ∧
  ∀ (q : Addr) (H' : Hp), Kp [] H H' → H q = none → H' q = some (.lst (out.map V.str)) → Q (.ref q) H'
section
variable {P : Program} {w : World} {K : PySem.W.Frag} {mg : Str → Option Value} {base : Heap}
theorem sc_Ring_gone : FnScope ["self"] ["self"] (defScope s_Ring_gone) := ⟨rfl, rfl, rfl, by decide +kernel, rfl, by decide +kernel, by decide +kernel⟩
theorem ok_Ring_gone {f : Addr} {fd : FuncData} (F : FnP K "gone" "Ring.gone" s_Ring_gone [] f fd) (T : Txt K mg)  :
    FnOk P w K mg base CX0 1 f fd ["self"] (spGone K) := by
  have S := sc_Ring_gone
  refine F.ok S (fun vs H Q E h => ?_) (fun cdv A outer s H vs Q E hr h => ?_)
  · obtain ⟨x, r, o, s, rest, out, rfl, _⟩ := h
    rfl
  · obtain ⟨x, r, o, s', rest, out, rfl, R, k⟩ := h
    obtain ⟨dx, e⟩ := R.ins
    refine ⟨_, PSs.nox (pss_one (ps_ret (pe_callTy call_list_of (by rfl) T.b_list (by decide +kernel) (pa_cons (pe_fld (pv 0) rfl) pa_nil)))), ?_⟩
    exact ⟨_, rfl, x, _, dx, _, _, rfl, e, T.cl_Ring, T.n_out, rfl, o, _, rfl, .inl (SqL.of R.lo), fun l hl => k l _ (Kp.new hl) hl upd_same⟩
end
end Lz
namespace Lz
open PySem PySem.Spec PyProof.Rows L2
abbrev s__law_shown : Stmt := top 39
theorem dput {H : Hp} {a : Addr} {kvs kvs' : List (Key × V)} {k : Key} {v : V} (e : H a = some (.dK kvs)) (hl : kvs.length < sizeLine) (h : putK kvs k v = kvs') : DPut H a (kV k) v (upd H a (.dK kvs')) := by
  rw [← h]
  exact DPut.k e hl
theorem eqD_two {K : PySem.W.Frag} {H : Hp} {p q a b c d : Addr} {xs ys : List V} {Q : VK} (hp : SqL K H p [.ref a, .ref b]) (hq : SqL K H q [.ref c, .ref d]) (ha : SqL K H a xs) (hb : SqL K H b ys) (hc : SqL K H c xs) (hd : SqL K H d ys)
    (fx : xs.all isS = true) (fy : ys.all isS = true) (k : Q (.bl true) H) : rEqD K (.ref p) (.ref q) H Q := by
  have lay : PyData.canLay0 (.list [.list (xs.map PD), .list (ys.map PD)]) = true := by
    simp [PyData.canLay0, PyData.canLayAll0, (PD_lay fx).1, (PD_lay fy).1]
  have sh : SeqAt.shaped (.list [.list (xs.map PD), .list (ys.map PD)]) = true := by
    unfold SeqAt.shaped
    rw [Bool.and_eq_true]
    exact ⟨lay, by simp [PyData.depth, PyData.depthAll, (PD_lay fx).2, (PD_lay fy).2]⟩
  refine ⟨_, _, .lst hp (.cons (.lst ha (PD_all fx)) (.cons (.lst hb (PD_all fy)) .nil)), .lst hq (.cons (.lst hc (PD_all fx)) (.cons (.lst hd (PD_all fy)) .nil)), sh, sh, ?_⟩
  rw [SeqAt.eqv_refl _ lay]
  exact k
def spShown (K : PySem.W.Frag) : Sp := fun vs H Q _ => ∃ (x r o d rw od hl : Addr) (s t : Nat) (row : List Str), vs = [.ref x, .ref d] ∧ RingAt K H x r o s (Jo.after (s - 1) t row) ((Jo.out (s - 1) row).take t) ∧ H d = some (.dK (ownK rw od hl s t)) ∧ H rw = some (.lst (row.map V.str)) ∧
  H od = some (.lst ((Jo.out (s - 1) row).map V.str)) ∧ t ≤ row.length ∧ row.length ≤ 200 ∧ (∀ z ∈ row, PyData.strOk z = true) ∧ ∀ H', Kp [] H H' → Q (.bl true) H'
section
variable {P : Program} {w : World} {K : PySem.W.Frag} {mg : Str → Option Value} {base : Heap}
theorem sc__law_shown : FnScope ["_law_ring", "_law_own", "_law_found", "_law_due"] ["_law_ring", "_law_own"] (defScope s__law_shown) := ⟨rfl, rfl, rfl, by decide +kernel, rfl, by decide +kernel, by decide +kernel⟩
theorem ok__law_shown {f : Addr} {fd : FuncData} (F : FnP K "_law_shown" "_law_shown" s__law_shown [] f fd) (T : Txt K mg) (G_Ring_left : FnMt P w K mg base CX0 1 (cRing K) "left" ["self"] [] (spLeft K)) (G_Ring_gone : FnMt P w K mg base CX0 1 (cRing K) "gone" ["self"] [] (spGone K)) (G__law_next_first : FnAt P w K mg base CX0 2 "_law_next_first" ["_law_own"] [] (spNextFirst K)) :
    FnOk P w K mg base CX0 3 f fd ["_law_ring", "_law_own"] (spShown K) := by
  have S := sc__law_shown
  refine F.ok S (fun vs H Q E h => ?_) (fun cdv A outer s H vs Q E hr h => ?_)
  · obtain ⟨x, r, o, d, rw, od, hl, s, t, row, rfl, _⟩ := h
    rfl
  · obtain ⟨x, r, o, d, rw1, od, hl, s', t, row, rfl, R, ed, er, eo, ht, hrow, hok, k⟩ := h
    refine ⟨_, PSs.nox (pss_cons (ps_set (i := 2) S.nd rfl (Or.inl rfl) (pe_lst (pa_cons (pe_mth0 G_Ring_left T.cl_Ring (hr.mono (by decide)) pass0 (pv 0)) (pa_cons (pe_mth0 G_Ring_gone T.cl_Ring (hr.mono (by decide)) pass0 (pv 0)) pa_nil)))) (pss_cons (ps_set (i := 3) S.nd rfl (Or.inl rfl) (pe_lst (pa_cons (pe_fn G__law_next_first (hr.mono (by decide)) pass0 (pa_cons (pv 1) pa_nil)) (pa_cons (pe_slice sl_list (pe_dget (hu_of hr) (pv 1) pe_str (fun _ _ => rfl)) po_none (po_some (pe_dget (hu_of hr) (pv 1) pe_str (fun _ _ => rfl)))) pa_nil)))) (pss_cons (ps_if (PW.pt (pw_or (pt_cmpR (op_neD hr.units) (pv 2) (pv 3) (nomark _)) (pw_or (pt_not (pt_val (pe_callB call_isi (by rfl) T.b_isinstance (by decide +kernel) (pa_cons (pe_ix ix_list (pv 2) pe_int (fun _ _ => rfl)) (pa_cons (pe_bltn (v := .ty "list") (by rfl) T.b_list (by decide +kernel) rfl) pa_nil))))) (pw_or1 (pt_not (pt_val (pe_callB call_isi (by rfl) T.b_isinstance (by decide +kernel) (pa_cons (pe_ix ix_list (pv 2) pe_int (fun _ _ => rfl)) (pa_cons (pe_bltn (v := .ty "list") (by rfl) T.b_list (by decide +kernel) rfl) pa_nil))))))))) (pss_one (ps_ret pe_bl)) pss_nil) (pss_cons (ps_expr (pe_bm PySem.F.plainAttrs_list PySem.F.slot_list_append PySem.F.type_list_append mt_append (pe_ix ix_list (pv 2) pe_int (fun _ _ => rfl)) (pa_cons pe_str pa_nil))) (pss_cons (ps_expr (pe_bm PySem.F.plainAttrs_list PySem.F.slot_list_append PySem.F.type_list_append mt_append (pe_ix ix_list (pv 2) pe_int (fun _ _ => rfl)) (pa_cons pe_str pa_nil))) (pss_one (ps_ret (pe_cmpR (op_eqD hr.units) (pe_lst (pa_cons (pe_mth0 G_Ring_left T.cl_Ring (hr.mono (by decide)) pass0 (pv 0)) (pa_cons (pe_mth0 G_Ring_gone T.cl_Ring (hr.mono (by decide)) pass0 (pv 0)) pa_nil))) (pv 3) (nomark _))))))))), ?_⟩
    have s1 := R.s1
    have room := R.room
    have okA : ∀ z ∈ Jo.after (s' - 1) t row, PyData.strOk z = true := fun z hz => hok z (Jo.after_mem _ _ _ z hz)
    have okB : ∀ z ∈ (Jo.out (s' - 1) row).take t, PyData.strOk z = true := fun z hz => hok z ((Jo.out_perm _ _).mem_iff.mp (List.mem_of_mem_take hz))
    generalize hA : Jo.after (s' - 1) t row = A at R okA
    generalize hB : (Jo.out (s' - 1) row).take t = B at R okB
    obtain ⟨dx0, ei0⟩ := R.ins
    refine ⟨_, rfl, x, _, _, rfl, ei0, rfl, x, r, o, s', _, _, rfl, R, fun p1 G1 k1 h1 e1 => ?_⟩
    have R1 := R.keep0 k1
    obtain ⟨dx1, ei1⟩ := R1.ins
    refine ⟨_, rfl, x, _, _, rfl, ei1, rfl, x, r, o, s', _, _, rfl, R1, fun p2 G2 k2 h2 e2 => ⟨sz 2 (by decide), fun fl h3 => ?_⟩⟩
    have k3 : Kp [] G2 (upd G2 fl (.lst [.ref p1, .ref p2])) := Kp.new h3
    have ef : upd G2 fl (.lst [.ref p1, .ref p2]) fl = some (.lst [.ref p1, .ref p2]) := upd_same
    have n12 : p1 ≠ p2 := ne_of_none e1 h2
    have n1f : p1 ≠ fl := ne_of_none (k2 _ _ e1 List.not_mem_nil) h3
    have n2f : p2 ≠ fl := ne_of_none e2 h3
    have f1 : H p1 = none := h1
    have f2 : H p2 = none := k1.free h2 List.not_mem_nil
    have k13 := (k1.trans k2).trans k3
    have e1 := (k2.trans k3) _ _ e1 List.not_mem_nil
    have e2 := k3 _ _ e2 List.not_mem_nil
    generalize upd G2 fl (.lst [.ref p1, .ref p2]) = G3 at k13 ef e1 e2 ⊢
    -- due
    refine ⟨_, rfl, d, rw1, od, hl, s', t, row, rfl, k13 _ _ ed List.not_mem_nil, k13 _ _ er List.not_mem_nil, ht, hrow, s1, fun p3 G4 k4 h4 e4 => ?_⟩
    rw [hA] at e4
    have kk4 := k13.trans k4
    refine ⟨_, rfl, d, _, rfl, dget (k := .inr "order") (kk4 _ _ ed List.not_mem_nil) own_order, _, rfl, d, _, rfl, dget (k := .inr "at") (kk4 _ _ ed List.not_mem_nil) own_at, (t : Int), rfl, od, _, rfl, SqL.of (kk4 _ _ eo List.not_mem_nil), fun p4 h5 => ?_⟩
    rw [cut_to, ← List.map_take, hB]
    have k5 : Kp [] G4 (upd G4 p4 (.lst (B.map V.str))) := Kp.new h5
    have e5 : upd G4 p4 (.lst (B.map V.str)) p4 = some (.lst (B.map V.str)) := upd_same
    have n35 : p3 ≠ p4 := ne_of_none e4 h5
    have n14 : p1 ≠ p3 := ne_of_none e1 h4
    have n24 : p2 ≠ p3 := ne_of_none e2 h4
    have n15 : p1 ≠ p4 := ne_of_none (k4 _ _ e1 List.not_mem_nil) h5
    have n25 : p2 ≠ p4 := ne_of_none (k4 _ _ e2 List.not_mem_nil) h5
    have e1 := (k4.trans k5) _ _ e1 List.not_mem_nil
    have e2 := (k4.trans k5) _ _ e2 List.not_mem_nil
    have ef := (k4.trans k5) _ _ ef List.not_mem_nil
    have e4 := k5 _ _ e4 List.not_mem_nil
    have kk5 := kk4.trans k5
    generalize upd G4 p4 (.lst (B.map V.str)) = G5 at kk5 e1 e2 e4 e5 ef ⊢
    refine ⟨sz 2 (by decide), fun dl h6 => ?_⟩
    have k6 : Kp [] G5 (upd G5 dl (.lst [.ref p3, .ref p4])) := Kp.new h6
    have e6 : upd G5 dl (.lst [.ref p3, .ref p4]) dl = some (.lst [.ref p3, .ref p4]) := upd_same
    have n16 : p1 ≠ dl := ne_of_none e1 h6
    have n26 : p2 ≠ dl := ne_of_none e2 h6
    have e1 := k6 _ _ e1 List.not_mem_nil
    have e2 := k6 _ _ e2 List.not_mem_nil
    have ef := k6 _ _ ef List.not_mem_nil
    have e4 := k6 _ _ e4 List.not_mem_nil
    have e5 := k6 _ _ e5 List.not_mem_nil
    have kk6 := kk5.trans k6
    generalize upd G5 dl (.lst [.ref p3, .ref p4]) = G6 at kk6 e1 e2 e4 e5 e6 ef ⊢
    refine ⟨_, rfl, _, rfl, neD_two (SqL.of ef) (SqL.of e6) (SqL.of e1) (SqL.of e2) (SqL.of e4) (SqL.of e5) (isS_texts okA) (isS_texts okB) ⟨_, rfl, iteF ?_⟩⟩
    refine ⟨_, rfl, fl, _, _, _, rfl, rfl, SqL.of ef, at_of (j := 0) rfl rfl, _, _, _, _, true, rfl, .ty _, .base (.lst e1), kit_ty (by decide +kernel), _, rfl, iteF ?_⟩
    refine ⟨_, rfl, fl, _, _, _, rfl, rfl, SqL.of ef, at_of (j := 1) rfl rfl, _, _, _, _, true, rfl, .ty _, .base (.lst e2), kit_ty (by decide +kernel), _, rfl, iteF ?_⟩
    have lA : A.length + B.length ≤ 400 := R.room
    -- lists of their own
    refine ⟨_, rfl, fl, _, _, _, rfl, rfl, SqL.of ef, at_of (j := 0) rfl rfl, .inl ⟨rfl, _, SqL.of e1⟩, p1, _, _, rfl, rfl, e1, szl _ (by rw [List.length_map]; omega), ?_⟩
    have w1 : Kp [p1] G6 (upd G6 p1 (.lst (A.map V.str ++ [.str "more"]))) := Kp.put (List.mem_singleton.mpr rfl)
    have e2 := w1.one e2 n12.symm
    have ef := w1.one ef n1f.symm
    have e4 := w1.one e4 n14.symm
    have e5 := w1.one e5 n15.symm
    have e6 := w1.one e6 n16.symm
    have kk7 : Kp [] H (upd G6 p1 (.lst (A.map V.str ++ [.str "more"]))) := kk6.late f1
    generalize upd G6 p1 (.lst (A.map V.str ++ [.str "more"])) = G7 at kk7 e2 ef e4 e5 e6 ⊢
    refine ⟨_, rfl, fl, _, _, _, rfl, rfl, SqL.of ef, at_of (j := 1) rfl rfl, .inl ⟨rfl, _, SqL.of e2⟩, p2, _, _, rfl, rfl, e2, szl _ (by rw [List.length_map]; omega), ?_⟩
    have w2 : Kp [p2] G7 (upd G7 p2 (.lst (B.map V.str ++ [.str "more"]))) := Kp.put (List.mem_singleton.mpr rfl)
    have e4 := w2.one e4 n24.symm
    have e5 := w2.one e5 n25.symm
    have e6 := w2.one e6 n26.symm
    have kk8 : Kp [] H (upd G7 p2 (.lst (B.map V.str ++ [.str "more"]))) := kk7.late f2
    generalize upd G7 p2 (.lst (B.map V.str ++ [.str "more"])) = G8 at kk8 e4 e5 e6 ⊢
    -- again
    have R := R.keep0 kk8
    obtain ⟨dx2, ei2⟩ := R.ins
    refine ⟨_, rfl, x, _, _, rfl, ei2, rfl, x, r, o, s', _, _, rfl, R, fun q1 K1 k9 h9 e9 => ?_⟩
    have R1 := R.keep0 k9
    obtain ⟨dx3, ei3⟩ := R1.ins
    refine ⟨_, rfl, x, _, _, rfl, ei3, rfl, x, r, o, s', _, _, rfl, R1, fun q2 K2 k10 h10 e10 => ⟨sz 2 (by decide), fun ql h11 => ?_⟩⟩
    have k11 : Kp [] K2 (upd K2 ql (.lst [.ref q1, .ref q2])) := Kp.new h11
    have kq := (k9.trans k10).trans k11
    exact ⟨_, rfl, eqD_two (SqL.of upd_same) (SqL.of (kq _ _ e6 List.not_mem_nil)) (SqL.of ((k10.trans k11) _ _ e9 List.not_mem_nil)) (SqL.of (k11 _ _ e10 List.not_mem_nil)) (SqL.of (kq _ _ e4 List.not_mem_nil)) (SqL.of (kq _ _ e5 List.not_mem_nil)) (isS_texts okA) (isS_texts okB) (k _ (kk8.trans kq))⟩
end
end Lz
namespace Lz
open PySem PySem.Spec PyProof.Rows L2
abbrev s_from_place : Stmt := top 21
def spFrom (K : PySem.W.Frag) : Sp := fun vs H Q _ => ∃ (p : Addr) (k : Nat) (xs : List V), vs = [.ref p, .int k] ∧ SqL K H p xs ∧ xs.length ≤ 1000 ∧
  ∀ (q : Addr) (H' : Hp), Kp [] H H' → H q = none → H' q = some (.lst (Jo.rotL xs k)) → Q (.ref q) H'
section
variable {P : Program} {w : World} {K : PySem.W.Frag} {mg : Str → Option Value} {base : Heap}
theorem sc_from_place : FnScope ["hands", "place"] ["hands", "place"] (defScope s_from_place) := ⟨rfl, rfl, rfl, by decide +kernel, rfl, by decide +kernel, by decide +kernel⟩
theorem ok_from_place {f : Addr} {fd : FuncData} (F : FnP K "from_place" "from_place" s_from_place [] f fd) (T : Txt K mg)  :
    FnOk P w K mg base CX0 1 f fd ["hands", "place"] (spFrom K) := by
  have S := sc_from_place
  refine F.ok S (fun vs H Q E h => ?_) (fun cdv A outer s H vs Q E hr h => ?_)
  · obtain ⟨p, k, xs, rfl, _⟩ := h
    rfl
  · obtain ⟨p, j, xs, rfl, hS, hlen, k⟩ := h
    refine ⟨_, PSs.nox (pss_one (ps_ret (pe_op op_cat (pe_slice sl_list (pv 0) (po_some (pv 1)) po_none) (pe_slice sl_list (pv 0) po_none (po_some (pv 1)))))), ?_⟩
    refine ⟨_, rfl, _, rfl, (j : Int), rfl, p, xs, rfl, hS, fun a ha => ?_⟩
    refine ⟨_, rfl, _, rfl, (j : Int), rfl, p, xs, rfl, (Kp.new (ws := []) ha).lst hS (by simp), fun b hb => ?_⟩
    have hab : a ≠ b := ne_of_none upd_same hb
    refine ⟨a, b, _, _, rfl, rfl, by rw [upd_ne hab]; exact upd_same, upd_same, ?_, fun c hc => ?_⟩
    · rw [cut_from, cut_to, List.length_drop, List.length_take]
      exact sz _ (by omega)
    · have hc1 := (Kp.new (ws := []) (o := .lst (cutV xs none (some (j : Int)))) hb).free hc (by simp)
      have hc0 := (Kp.new (ws := []) (o := .lst (cutV xs (some (j : Int)) none)) ha).free hc1 (by simp)
      refine k c _ (((Kp.new ha).trans (Kp.new hb)).trans (Kp.new hc)) hc0 ?_
      rw [upd_same, cut_from, cut_to]
      rfl
end
end Lz
namespace Lz
open PySem PySem.Spec PyProof.Rows L2
abbrev s_behind_count : Stmt := top 22
/-- the one who goes, those that are left from the next one on -/
def spBehind (K : PySem.W.Frag) : Sp := fun vs H Q _ => ∃ (p : Addr) (s : Nat) (xs : List V), vs = [.ref p, .int s] ∧ SqL K H p xs ∧ xs ≠ [] ∧ xs.length ≤ 1000 ∧ 1 ≤ s ∧
  ∀ (x : V) (r : List V) (t q : Addr) (H' : Hp), Jo.rotL xs ((s - 1) % xs.length) = x :: r → Kp [] H H' → H t = none → H' t = some (.tup [x, .ref q]) → H q = none → H' q = some (.lst r) → Q (.ref t) H'
section
variable {P : Program} {w : World} {K : PySem.W.Frag} {mg : Str → Option Value} {base : Heap}
theorem sc_behind_count : FnScope ["hands", "step", "turned"] ["hands", "step"] (defScope s_behind_count) := ⟨rfl, rfl, rfl, by decide +kernel, rfl, by decide +kernel, by decide +kernel⟩
theorem ok_behind_count {f : Addr} {fd : FuncData} (F : FnP K "behind_count" "behind_count" s_behind_count [] f fd) (T : Txt K mg) (G_from_place : FnAt P w K mg base CX0 1 "from_place" ["hands", "place"] [] (spFrom K)) :
    FnOk P w K mg base CX0 2 f fd ["hands", "step"] (spBehind K) := by
  have S := sc_behind_count
  refine F.ok S (fun vs H Q E h => ?_) (fun cdv A outer s H vs Q E hr h => ?_)
  · obtain ⟨p, s, xs, rfl, _⟩ := h
    rfl
  · obtain ⟨p, z, xs, rfl, hS, hne, hlen, hz, k⟩ := h
    have hl : 0 < xs.length := List.length_pos_iff.mpr hne
    refine ⟨_, PSs.nox (pss_cons (ps_set (i := 2) S.nd rfl (Or.inl rfl) (pe_fn G_from_place (hr.mono (by decide)) pass0 (pa_cons (pv 0) (pa_cons (pe_op op_mod (pe_op op_sub (pv 1) pe_int) (pe_callB call_len_seq (by rfl) T.b_len PySem.boot_len (pa_cons (pv 0) pa_nil))) pa_nil)))) (pss_one (ps_ret (pe_tup (pa_cons (pe_ix ix_list (pv 2) pe_int (fun _ _ => rfl)) (pa_cons (pe_slice sl_list (pv 2) (po_some pe_int) po_none) pa_nil)))))), ?_⟩
    have e : ((z : Int) - 1) % (xs.length : Int) = (((z - 1) % xs.length : Nat) : Int) := by
      have e1 : (z : Int) - 1 = ((z - 1 : Nat) : Int) := by omega
      rw [e1]
      rfl
    refine ⟨_, rfl, _, rfl, _, _, rfl, rfl, _, rfl, p, xs, rfl, .inl hS, _, _, rfl, rfl, by show (0 : Int) < (xs.length : Int); omega, ?_⟩
    refine ⟨p, (z - 1) % xs.length, xs, congrArg (fun q => [V.ref p, V.int q]) e, hS, hlen, fun q H1 k1 hq e1 => ?_⟩
    obtain ⟨x, r, er, lr⟩ := Jo.rot_cons (z - 1) hne
    rw [er] at e1
    refine ⟨_, rfl, q, _, _, x, rfl, rfl, SqL.of e1, at_of (j := 0) rfl rfl, _, rfl, 1, rfl, q, _, rfl, SqL.of e1, fun w hw => ?_⟩
    refine ⟨sz 2 (by decide), fun t ht => ?_⟩
    have c1 : cutV (x :: r) (some 1) none = r := cut_from (x :: r) 1
    have hw0 : H w = none := k1.free hw (by simp)
    have ht0 : H t = none := (k1.trans (Kp.new hw)).free ht (by simp)
    refine k x r t w _ er ((k1.trans (Kp.new hw)).trans (Kp.new ht)) ht0 upd_same hw0 ?_
    rw [upd_ne (ne_of_none upd_same ht), upd_same, c1]
end
end Lz
namespace Lz
open PySem PySem.Spec PyProof.Rows L2
abbrev s_Ring_count : Stmt := inClass (top 25) 3
def spCountR (K : PySem.W.Frag) : Sp := fun vs H Q E => ∃ (x r o : Addr) (s : Nat) (rest out : List Str), vs = [.ref x] ∧ RingAt K H x r o s rest out ∧
  ((rest = [] ∧ E (.ref (cNoHand K)) none H) ∨ (rest ≠ [] ∧ ∀ (h : Str) (rest' : List Str) (r' : Addr) (H' : Hp), Jo.rotL rest ((s - 1) % rest.length) = h :: rest' → Kp [x, o] H H' → H r' = none → RingAt K H' x r' o s rest' (out ++ [h]) → Q (.str h) H'))
section
variable {P : Program} {w : World} {K : PySem.W.Frag} {mg : Str → Option Value} {base : Heap}
theorem sc_Ring_count : FnScope ["self", "hand"] ["self"] (defScope s_Ring_count) := ⟨rfl, rfl, rfl, by decide +kernel, rfl, by decide +kernel, by decide +kernel⟩
theorem ok_Ring_count {f : Addr} {fd : FuncData} (F : FnP K "count" "Ring.count" s_Ring_count [] f fd) (T : Txt K mg) (G_behind_count : FnAt P w K mg base CX0 2 "behind_count" ["hands", "step"] [] (spBehind K)) :
    FnOk P w K mg base (CXr P w) 3 f fd ["self"] (spCountR K) := by
  have S := sc_Ring_count
  refine F.ok S (fun vs H Q E h => ?_) (fun cdv A outer s H vs Q E hr h => ?_)
  · obtain ⟨x, r, o, s, rest, out, rfl, _⟩ := h
    rfl
  · obtain ⟨x, r, o, s', rest, out, rfl, R, h⟩ := h
    obtain ⟨dx, e⟩ := R.ins
    have room := R.room
    refine ⟨_, (pss_cons (ps_if (pt_not (pt_truth (pe_fld (pv 0) rfl) (by intro _; rfl))) (pss_one (ps_raise rfl (takes_of rfl rfl rfl rfl) (pmk_t T.x_NoHand T.g_NoHand))) pss_nil) (PSs.nox (pss_cons (ps_asg (pe_fn G_behind_count (hr.mono (by decide)) pass0 (pa_cons (pe_fld (pv 0) rfl) (pa_cons (pe_fld (pv 0) rfl) pa_nil))) (pg_tup rfl (pgs_cons (pg_name (i := 1) S.nd rfl (Or.inl rfl)) (pgs_cons (pg_fld (pv 0)) pgs_nil)))) (pss_cons (ps_expr (pe_bm PySem.F.plainAttrs_list PySem.F.slot_list_append PySem.F.type_list_append mt_append (pe_fld (pv 0) rfl) (pa_cons (pv 1) pa_nil))) (pss_one (ps_ret (pv 1))))))), ?_⟩
    refine ⟨_, rfl, x, _, dx, _, _, rfl, e, T.cl_Ring, T.n_rest, rfl, !(rest.map V.str).isEmpty, .inl ⟨_, SqL.of R.lr, rfl⟩, ?_⟩
    rcases h with ⟨rfl, hE⟩ | ⟨hne, k⟩
    · exact iteT hE
    have hre : (!(rest.map V.str).isEmpty) = true := by
      cases rest with
      | nil => exact absurd rfl hne
      | cons _ _ => rfl
    rw [hre]
    refine iteF ?_
    refine ⟨_, rfl, x, _, dx, _, _, rfl, e, T.cl_Ring, T.n_rest, rfl, _, rfl, x, _, dx, _, _, rfl, e, T.cl_Ring, T.n_step, rfl, ?_⟩
    refine ⟨r, s', rest.map V.str, rfl, SqL.of R.lr, fun q => hne (List.map_eq_nil_iff.mp q), by rw [List.length_map]; omega, R.s1, fun y r2 t q' H3 er k3 ht e3t hq' e3q => ?_⟩
    obtain ⟨h, rest', eh, lh⟩ := Jo.rot_cons (s' - 1) hne
    rw [Jo.rotL_map, List.length_map, eh, List.map_cons] at er
    obtain ⟨rfl, rfl⟩ := List.cons.inj er
    have e3 := k3 _ _ e List.not_mem_nil
    refine ⟨t, _, rfl, SqT.of e3t, rfl, _, _, rfl, _, _, rfl, _, rfl, x, _, dx, _, rfl, e3, T.cl_Ring, T.n_rest, by show (3 : Nat) < 1000; decide, rfl, ?_⟩
    have o3 := k3 _ _ R.lo List.not_mem_nil
    have nxo := R.xo
    have nqo : q' ≠ o := (ne_of_none R.lo hq').symm
    have nqx : q' ≠ x := (ne_of_none e hq').symm
    have ex : upd H3 x (.ins (He.ga K "Ring") dx (putF "rest" (.ref q') [("step", .int s'), ("rest", .ref r), ("out", .ref o)])) x = some (.ins (He.ga K "Ring") dx [("step", .int s'), ("rest", .ref q'), ("out", .ref o)]) := upd_same
    have eo : upd H3 x (.ins (He.ga K "Ring") dx (putF "rest" (.ref q') [("step", .int s'), ("rest", .ref r), ("out", .ref o)])) o = some (.lst (out.map V.str)) := by
      rw [upd_ne nxo.symm]
      exact o3
    have eq2 : upd H3 x (.ins (He.ga K "Ring") dx (putF "rest" (.ref q') [("step", .int s'), ("rest", .ref r), ("out", .ref o)])) q' = some (.lst (rest'.map V.str)) := by
      rw [upd_ne nqx]
      exact e3q
    have k4 : Kp [x, o] H (upd H3 x (.ins (He.ga K "Ring") dx (putF "rest" (.ref q') [("step", .int s'), ("rest", .ref r), ("out", .ref o)]))) := (k3.mono (by simp)).trans (Kp.put (by simp))
    generalize upd H3 x (.ins (He.ga K "Ring") dx (putF "rest" (.ref q') [("step", .int s'), ("rest", .ref r), ("out", .ref o)])) = H4 at ex eo eq2 k4 ⊢
    refine ⟨_, rfl, x, _, dx, _, _, rfl, ex, T.cl_Ring, T.n_out, rfl, .inl ⟨rfl, _, SqL.of eo⟩, _, rfl, o, _, _, rfl, rfl, eo, szl _ (by rw [List.length_map]; omega), ?_⟩
    refine ⟨_, rfl, k h rest' q' _ eh (k4.trans (Kp.put (by simp))) hq' ⟨⟨dx, by rw [upd_ne nxo]; exact ex⟩, by rw [upd_ne nqo]; exact eq2, by rw [List.map_append]; exact upd_same, nqo, R.s1, R.s2, ?_⟩⟩
    rw [List.length_append]
    show rest'.length + (out.length + 1) ≤ 400
    omega
end
end Lz
namespace Lz
open PySem PySem.Spec PyProof.Rows L2
abbrev s_is_number : Stmt := top 13
def spIsNum (K : PySem.W.Frag) : Sp := fun vs H Q _ => ∃ x, vs = [x] ∧ ((∃ i, x = .int i ∧ Q (.bl true) H) ∨ (NotNum K H x ∧ Q (.bl false) H))
section
variable {P : Program} {w : World} {K : PySem.W.Frag} {mg : Str → Option Value} {base : Heap}
theorem sc_is_number : FnScope ["thing"] ["thing"] (defScope s_is_number) := ⟨rfl, rfl, rfl, by decide +kernel, rfl, by decide +kernel, by decide +kernel⟩
theorem ok_is_number {f : Addr} {fd : FuncData} (F : FnP K "is_number" "is_number" s_is_number [] f fd) (T : Txt K mg)  :
    FnOk P w K mg base CX0 1 f fd ["thing"] (spIsNum K) := by
  have S := sc_is_number
  refine F.ok S (fun vs H Q E h => ?_) (fun cdv A outer s H vs Q E hr h => ?_)
  · obtain ⟨x, rfl, _⟩ := h
    rfl
  · obtain ⟨x, rfl, h⟩ := h
    refine ⟨_, PSs.nox (pss_one (ps_ret (pe_and (pe_callB call_isi (by rfl) T.b_isinstance (by decide +kernel) (pa_cons (pv 0) (pa_cons (pe_bltn (v := .ty "int") (by rfl) T.b_int (by decide +kernel) rfl) pa_nil))) (pe_one (pe_not (pe_callB call_isi (by rfl) T.b_isinstance (by decide +kernel) (pa_cons (pv 0) (pa_cons (pe_bltn (v := .ty "bool") (by rfl) T.b_bool (by decide +kernel) rfl) pa_nil)))))))), ?_⟩
    rcases h with ⟨i, rfl, k⟩ | ⟨⟨t, ht, hm⟩, k⟩
    · refine ⟨_, rfl, _, _, _, _, true, rfl, .ty _, .base (.int i), kit_ty (by decide +kernel), _, rfl, ?_⟩
      exact iteT ⟨_, rfl, _, _, _, _, false, rfl, .ty _, .base (.int i), kit_ty (by decide +kernel), _, rfl, k⟩
    · simp only [List.mem_cons, List.not_mem_nil, or_false] at hm
      rcases hm with rfl | rfl | rfl | rfl | rfl | rfl
      · exact ⟨_, rfl, _, _, _, _, false, rfl, .ty _, ht, kit_ty (by decide +kernel), _, rfl, iteF k⟩
      · refine ⟨_, rfl, _, _, _, _, true, rfl, .ty _, ht, kit_ty (by decide +kernel), _, rfl, iteT ?_⟩
        exact ⟨_, rfl, _, _, _, _, true, rfl, .ty _, ht, kit_ty (by decide +kernel), _, rfl, k⟩
      · exact ⟨_, rfl, _, _, _, _, false, rfl, .ty _, ht, kit_ty (by decide +kernel), _, rfl, iteF k⟩
      · exact ⟨_, rfl, _, _, _, _, false, rfl, .ty _, ht, kit_ty (by decide +kernel), _, rfl, iteF k⟩
      · exact ⟨_, rfl, _, _, _, _, false, rfl, .ty _, ht, kit_ty (by decide +kernel), _, rfl, iteF k⟩
      · exact ⟨_, rfl, _, _, _, _, false, rfl, .ty _, ht, kit_ty (by decide +kernel), _, rfl, iteF k⟩
end
end Lz
namespace Lz
open PySem PySem.Spec PyProof.Rows L2
abbrev s_need_count : Stmt := top 16
def spCount (K : PySem.W.Frag) : Sp := fun vs H Q E => ∃ x lo m, vs = [.int lo, x, .int m] ∧
  ((∃ i, x = .int i ∧ lo ≤ i ∧ i ≤ m ∧ Q .non H) ∨ (OutN K H lo m x ∧ E (.ref (cNoCount K)) none H))
section
variable {P : Program} {w : World} {K : PySem.W.Frag} {mg : Str → Option Value} {base : Heap}
theorem sc_need_count : FnScope ["least", "count", "most"] ["least", "count", "most"] (defScope s_need_count) := ⟨rfl, rfl, rfl, by decide +kernel, rfl, by decide +kernel, by decide +kernel⟩
theorem ok_need_count {f : Addr} {fd : FuncData} (F : FnP K "need_count" "need_count" s_need_count [] f fd) (T : Txt K mg) (G_is_number : FnAt P w K mg base CX0 1 "is_number" ["thing"] [] (spIsNum K)) :
    FnOk P w K mg base (CXr P w) 2 f fd ["least", "count", "most"] (spCount K) := by
  have S := sc_need_count
  refine F.ok S (fun vs H Q E h => ?_) (fun cdv A outer s H vs Q E hr h => ?_)
  · obtain ⟨x, lo, m, rfl, _⟩ := h
    rfl
  · obtain ⟨x, lo, m, rfl, h⟩ := h
    refine ⟨_, (pss_one (ps_if (PW.pt (pw_or (pt_not (pt_val (pe_fn G_is_number (hr.mono (by decide)) pass0 (pa_cons (pv 1) pa_nil)))) (pw_or1 (pt_not (pt_chain op_le op_le (pv 0) (pv 1) (pv 2)))))) (pss_one (ps_raise rfl (takes_of rfl rfl rfl rfl) (pmk_t T.x_NoCount T.g_NoCount))) pss_nil)), ?_⟩
    rcases h with ⟨i, rfl, h1, h2, k⟩ | ⟨⟨hn⟩ | ⟨i, rfl, hn⟩, k⟩
    · refine ⟨_, rfl, _, rfl, .inl ⟨i, rfl, _, rfl, iteF ?_⟩⟩
      refine ⟨_, rfl, _, rfl, _, _, rfl, rfl, _, rfl, ?_⟩
      rw [decide_eq_true h1]
      refine iteT ⟨_, rfl, _, _, rfl, rfl, _, rfl, ?_⟩
      rw [decide_eq_true h2]
      exact iteF k
    · exact ⟨_, rfl, _, rfl, .inr ⟨‹_›, _, rfl, iteT (iteT k)⟩⟩
    · refine ⟨_, rfl, _, rfl, .inl ⟨i, rfl, _, rfl, iteF ?_⟩⟩
      refine ⟨_, rfl, _, rfl, _, _, rfl, rfl, _, rfl, ?_⟩
      by_cases h1 : lo ≤ i
      · rw [decide_eq_true h1]
        refine iteT ⟨_, rfl, _, _, rfl, rfl, _, rfl, ?_⟩
        rw [decide_eq_false (by omega)]
        exact iteT k
      · rw [decide_eq_false h1]
        exact iteF ⟨_, rfl, iteT k⟩
end
end Lz
namespace Lz
open PySem PySem.Spec PyProof.Rows L2
abbrev s_Ring_counts : Stmt := inClass (top 25) 4
def spCountsR (K : PySem.W.Frag) : Sp := fun vs H Q E => ∃ (x r o : Addr) (s : Nat) (rest out : List Str) (u : V), vs = [.ref x, u] ∧ RingAt K H x r o s rest out ∧
  ((OutN K H 0 (rest.length : Int) u ∧ E (.ref (cNoCount K)) none H) ∨ ∃ m : Nat, u = .int m ∧ m ≤ rest.length ∧
    ∀ (q r' : Addr) (H' : Hp), Kp [x, o] H H' → H q = none → q ≠ r' → (r' = r ∨ H r' = none) → H' q = some (.lst (((Jo.out (s - 1) rest).take m).map V.str)) → RingAt K H' x r' o s (Jo.after (s - 1) m rest) (out ++ (Jo.out (s - 1) rest).take m) → Q (.ref q) H')
section
variable {P : Program} {w : World} {K : PySem.W.Frag} {mg : Str → Option Value} {base : Heap}
theorem sc_Ring_counts : FnScope ["self", "many", "turn"] ["self", "many"] (defScope s_Ring_counts) := ⟨rfl, rfl, rfl, by decide +kernel, rfl, by decide +kernel, by decide +kernel⟩
theorem ok_Ring_counts {f : Addr} {fd : FuncData} (F : FnP K "counts" "Ring.counts" s_Ring_counts [] f fd) (T : Txt K mg) (G_need_count : FnAt P w K mg base (CXr P w) 2 "need_count" ["least", "count", "most"] [] (spCount K)) (G_Ring_count : FnMt P w K mg base (CXr P w) 3 (cRing K) "count" ["self"] [] (spCountR K)) :
    FnOk P w K mg base (CXr P w) 4 f fd ["self", "many"] (spCountsR K) := by
  have S := sc_Ring_counts
  refine F.ok S (fun vs H Q E h => ?_) (fun cdv A outer s H vs Q E hr h => ?_)
  · obtain ⟨x, r, o, s, rest, out, u, rfl, _⟩ := h
    rfl
  · obtain ⟨x, r, o, s', rest, out, u, rfl, R, h⟩ := h
    obtain ⟨dx, e⟩ := R.ins
    have room := R.room
    refine ⟨_, (pss_cons (ps_expr (pe_fn G_need_count (hr.mono (by decide)) (passes_call (takes_of rfl rfl rfl rfl) (fun _ _ _ _ h => h)) (pa_cons pe_int (pa_cons (pv 1) (pa_cons (pe_callB call_len_seq (by rfl) T.b_len PySem.boot_len (pa_cons (pe_fld (pv 0) rfl) pa_nil)) pa_nil))))) (pss_one (ps_ret (pe_lc (own := [("turn", 2)]) (g := gName 2) (by rfl) S.nd (pi_range1 (by rfl) T.b_range (pa_cons (pv 1) pa_nil)) (blkOk_by (own := [("turn", 2)]) (N := ["self", "many", "turn"]) (sc := defScope s_Ring_counts) (by decide +kernel)) (fun _ _ _ _ _ => pg_name (i := 2) S.nd rfl (Or.inl rfl)) (fun _ _ _ _ _ => pts_nil) (fun _ _ _ _ _ => (pe_mth0 G_Ring_count T.cl_Ring (hr.mono (by decide)) passL (pv 0))))))), ?_⟩
    refine ⟨_, rfl, _, rfl, x, _, dx, _, _, rfl, e, T.cl_Ring, T.n_rest, rfl, r, _, rfl, .inl (SqL.of R.lr), _, _, _, rfl, ?_⟩
    rw [List.length_map]
    rcases h with ⟨ho, hE⟩ | ⟨m, rfl, hm, k⟩
    · exact .inr ⟨ho, hE⟩
    refine .inl ⟨m, rfl, by omega, by omega, ?_⟩
    refine ⟨_, rfl, (m : Int), rfl, by omega, by omega, fun D hD => lc_range (lo := 0) (n := m)
      (fun i H' => ∃ r', RingAt K H' x r' o s' (Jo.after (s' - 1) i rest) (out ++ (Jo.out (s' - 1) rest).take i) ∧ Kp [x, o] H H' ∧ H' D = some (.lst (((Jo.out (s' - 1) rest).take i).map V.str)) ∧ D ≠ r' ∧ (r' = r ∨ H r' = none))
      ⟨r, (by rw [List.take_zero, List.append_nil]; exact R.keep0 (Kp.new hD)), (Kp.new hD), upd_same, (ne_of_none R.lr hD).symm, .inl rfl⟩ ?_ ?_⟩
    · rintro i H' hi ⟨r', R', k', eD, nD, hr'⟩
      refine ⟨rfl, tyes (iteT ?_)⟩
      obtain ⟨h, eh, eo⟩ := Jo.after_more (s' - 1) i rest (by omega)
      obtain ⟨dx', e'⟩ := R'.ins
      have nxD : D ≠ x := R'.nx eD
      have noD : D ≠ o := (ne_of_none R.lo hD).symm
      refine ⟨_, rfl, x, dx', _, rfl, e', rfl, x, r', o, s', _, _, rfl, R', .inr ⟨?_, fun y rest' r2 H2 er k2 hr2 R2 => ?_⟩⟩
      · intro q
        rw [q] at eh
        simp [Jo.rotL] at eh
      rw [eh] at er
      obtain ⟨rfl, rfl⟩ := List.cons.inj er
      have eD2 : H2 D = some (.lst (((Jo.out (s' - 1) rest).take i).map V.str)) := k2 _ _ eD (by simp [nxD, noD])
      have et : (Jo.out (s' - 1) rest).take (i + 1) = (Jo.out (s' - 1) rest).take i ++ [h] := by rw [List.take_add_one, eo]; rfl
      have n2D : D ≠ r2 := ne_of_none eD hr2
      have R3 : RingAt K (upd H2 D (.lst (((Jo.out (s' - 1) rest).take i).map V.str ++ [.str h]))) x r2 o s' (Jo.after (s' - 1) (i + 1) rest) (out ++ (Jo.out (s' - 1) rest).take i ++ [h]) :=
        R2.keep (Kp.put (ws := [D]) (List.mem_singleton.mpr rfl)) (fun q => nxD (List.mem_singleton.mp q).symm) (fun q => n2D (List.mem_singleton.mp q).symm) (fun q => noD (List.mem_singleton.mp q).symm)
      refine ⟨_, eD2, szl _ (by rw [List.length_map, List.length_take]; omega), r2, ?_, ?_, ?_, n2D, ?_⟩
      · rw [et, ← List.append_assoc]
        exact R3
      · exact (k'.trans k2).late hD
      · rw [et, List.map_append]
        exact upd_same
      · cases q : H r2 with
        | none => exact .inr rfl
        | some w =>
          by_cases q1 : r2 ∈ [x, o]
          · have := R'.ins
            rcases List.mem_cons.mp q1 with q2 | q2
            · rw [q2, e'] at hr2
              cases hr2
            · rw [List.mem_singleton.mp q2, R'.lo] at hr2
              cases hr2
          · rw [k' _ _ q q1] at hr2
            cases hr2
    · rintro H' ⟨r', R', k', eD, nD, hr'⟩
      exact k D r' H' k' hD nD hr' eD R'
end
end Lz
namespace Lz
open PySem PySem.Spec PyProof.Rows L2
abbrev s__law_error : Stmt := top 36
def spErr (K : PySem.W.Frag) : Sp := fun vs H Q _ => ∃ (a : Addr) (x wd : Str), vs = [.ref a] ∧ (x, wd) ∈ errNames ∧ H a = some (ExA (.ref (He.ga K x)) a) ∧
  ∀ H', Kp [] H H' → Q (.str wd) H'
section
variable {P : Program} {w : World} {K : PySem.W.Frag} {mg : Str → Option Value} {base : Heap}
theorem sc__law_error : FnScope ["_law_e", "_law_words"] ["_law_e"] (defScope s__law_error) := ⟨rfl, rfl, rfl, by decide +kernel, rfl, by decide +kernel, by decide +kernel⟩
theorem ok__law_error {f : Addr} {fd : FuncData} (F : FnP K "_law_error" "_law_error" s__law_error [] f fd) (T : Txt K mg)  :
    FnOk P w K mg base CX0 1 f fd ["_law_e"] (spErr K) := by
  have S := sc__law_error
  refine F.ok S (fun vs H Q E h => ?_) (fun cdv A outer s H vs Q E hr h => ?_)
  · obtain ⟨a, x, wd, rfl, _⟩ := h
    rfl
  · obtain ⟨a, x, wd, rfl, hm, ha0, k⟩ := h
    refine ⟨_, PSs.nox (pss_cons (ps_set (i := 1) S.nd rfl (Or.inl rfl) (pe_lst pa_nil)) (pss_cons (ps_if (pt_val (pe_callB call_isX (by rfl) T.b_isinstance (by decide +kernel) (pa_cons (pv 0) (pa_cons (pe_gref T.g_NoRing) pa_nil)))) (pss_one (ps_expr (pe_bm PySem.F.plainAttrs_list PySem.F.slot_list_append PySem.F.type_list_append mt_append (pv 1) (pa_cons pe_str pa_nil)))) pss_nil) (pss_cons (ps_if (pt_val (pe_callB call_isX (by rfl) T.b_isinstance (by decide +kernel) (pa_cons (pv 0) (pa_cons (pe_gref T.g_NoMany) pa_nil)))) (pss_one (ps_expr (pe_bm PySem.F.plainAttrs_list PySem.F.slot_list_append PySem.F.type_list_append mt_append (pv 1) (pa_cons pe_str pa_nil)))) pss_nil) (pss_cons (ps_if (pt_val (pe_callB call_isX (by rfl) T.b_isinstance (by decide +kernel) (pa_cons (pv 0) (pa_cons (pe_gref T.g_NoStep) pa_nil)))) (pss_one (ps_expr (pe_bm PySem.F.plainAttrs_list PySem.F.slot_list_append PySem.F.type_list_append mt_append (pv 1) (pa_cons pe_str pa_nil)))) pss_nil) (pss_cons (ps_if (pt_val (pe_callB call_isX (by rfl) T.b_isinstance (by decide +kernel) (pa_cons (pv 0) (pa_cons (pe_gref T.g_NoPlace) pa_nil)))) (pss_one (ps_expr (pe_bm PySem.F.plainAttrs_list PySem.F.slot_list_append PySem.F.type_list_append mt_append (pv 1) (pa_cons pe_str pa_nil)))) pss_nil) (pss_cons (ps_if (pt_val (pe_callB call_isX (by rfl) T.b_isinstance (by decide +kernel) (pa_cons (pv 0) (pa_cons (pe_gref T.g_NoCount) pa_nil)))) (pss_one (ps_expr (pe_bm PySem.F.plainAttrs_list PySem.F.slot_list_append PySem.F.type_list_append mt_append (pv 1) (pa_cons pe_str pa_nil)))) pss_nil) (pss_cons (ps_if (pt_val (pe_callB call_isX (by rfl) T.b_isinstance (by decide +kernel) (pa_cons (pv 0) (pa_cons (pe_gref T.g_NoHand) pa_nil)))) (pss_one (ps_expr (pe_bm PySem.F.plainAttrs_list PySem.F.slot_list_append PySem.F.type_list_append mt_append (pv 1) (pa_cons pe_str pa_nil)))) pss_nil) (pss_cons (ps_if (pt_val (pe_callB call_isX (by rfl) T.b_isinstance (by decide +kernel) (pa_cons (pv 0) (pa_cons (pe_gref T.g_TwiceTold) pa_nil)))) (pss_one (ps_expr (pe_bm PySem.F.plainAttrs_list PySem.F.slot_list_append PySem.F.type_list_append mt_append (pv 1) (pa_cons pe_str pa_nil)))) pss_nil) (pss_cons (ps_if (pt_val (pe_callB call_isX (by rfl) T.b_isinstance (by decide +kernel) (pa_cons (pv 0) (pa_cons (pe_gref T.g_TooMany) pa_nil)))) (pss_one (ps_expr (pe_bm PySem.F.plainAttrs_list PySem.F.slot_list_append PySem.F.type_list_append mt_append (pv 1) (pa_cons pe_str pa_nil)))) pss_nil) (pss_cons (ps_if (PW.pt (pw_or (pt_cmpR op_ne (pe_callB call_len_seq (by rfl) T.b_len PySem.boot_len (pa_cons (pv 1) pa_nil)) pe_int (nomark _)) (pw_or1 (pt_not (pt_val (pe_callB call_isX (by rfl) T.b_isinstance (by decide +kernel) (pa_cons (pv 0) (pa_cons (pe_bltn (v := .ty "ValueError") (by rfl) T.b_ValueError (by decide +kernel) rfl) pa_nil)))))))) (pss_one (ps_ret pe_str)) pss_nil) (pss_one (ps_ret (pe_ix ix_list (pv 1) pe_int (fun _ _ => rfl)))))))))))))), ?_⟩
    refine ⟨Nat.zero_le _, fun l hl => ?_⟩
    have nal : a ≠ l := ne_of_none ha0 hl
    have ha : upd H l (.lst []) a = some (ExA (.ref (He.ga K x)) a) := by rw [upd_ne nal]; exact ha0
    have h0 : upd H l (.lst []) l = some (.lst []) := upd_same
    simp only [errNames, List.mem_cons, List.not_mem_nil, or_false, Prod.mk.injEq] at hm
    rcases hm with ⟨rfl, rfl⟩ | ⟨rfl, rfl⟩ | ⟨rfl, rfl⟩ | ⟨rfl, rfl⟩ | ⟨rfl, rfl⟩ | ⟨rfl, rfl⟩ | ⟨rfl, rfl⟩ | ⟨rfl, rfl⟩
    · have hx : ("NoRing" : Str) ∈ errNames.map (·.1) := by decide
      have hC := T.err.c _ hx
      have kNoRing : PySem.W.kitOne K (.ref (He.ga K "NoRing")) (.ref (He.ga K "NoRing")) = some true := (T.err.k _ hx "NoRing" (by decide)).trans (by decide)
      have kNoMany : PySem.W.kitOne K (.ref (He.ga K "NoRing")) (.ref (He.ga K "NoMany")) = some false := (T.err.k _ hx "NoMany" (by decide)).trans (by decide)
      have kNoStep : PySem.W.kitOne K (.ref (He.ga K "NoRing")) (.ref (He.ga K "NoStep")) = some false := (T.err.k _ hx "NoStep" (by decide)).trans (by decide)
      have kNoPlace : PySem.W.kitOne K (.ref (He.ga K "NoRing")) (.ref (He.ga K "NoPlace")) = some false := (T.err.k _ hx "NoPlace" (by decide)).trans (by decide)
      have kNoCount : PySem.W.kitOne K (.ref (He.ga K "NoRing")) (.ref (He.ga K "NoCount")) = some false := (T.err.k _ hx "NoCount" (by decide)).trans (by decide)
      have kNoHand : PySem.W.kitOne K (.ref (He.ga K "NoRing")) (.ref (He.ga K "NoHand")) = some false := (T.err.k _ hx "NoHand" (by decide)).trans (by decide)
      have kTwiceTold : PySem.W.kitOne K (.ref (He.ga K "NoRing")) (.ref (He.ga K "TwiceTold")) = some false := (T.err.k _ hx "TwiceTold" (by decide)).trans (by decide)
      have kTooMany : PySem.W.kitOne K (.ref (He.ga K "NoRing")) (.ref (He.ga K "TooMany")) = some false := (T.err.k _ hx "TooMany" (by decide)).trans (by decide)
      refine ⟨_, rfl, a, _, _, _, _, rfl, ha, hC, (fun _ z => z), kNoRing, _, rfl, ?_⟩
      refine iteT ⟨_, rfl, .inl ⟨rfl, _, SqL.of h0⟩, l, _, _, rfl, rfl, h0, szl 0 (by decide), ?_⟩
      have ha1 : upd (upd H l (.lst [])) l (.lst ([] ++ [.str "ring"])) a = some (ExA (.ref (He.ga K "NoRing")) a) := by rw [upd_ne nal]; exact ha
      refine ⟨_, rfl, a, _, _, _, _, rfl, ha1, hC, (fun _ z => z), kNoMany, _, rfl, iteF ?_⟩
      refine ⟨_, rfl, a, _, _, _, _, rfl, ha1, hC, (fun _ z => z), kNoStep, _, rfl, iteF ?_⟩
      refine ⟨_, rfl, a, _, _, _, _, rfl, ha1, hC, (fun _ z => z), kNoPlace, _, rfl, iteF ?_⟩
      refine ⟨_, rfl, a, _, _, _, _, rfl, ha1, hC, (fun _ z => z), kNoCount, _, rfl, iteF ?_⟩
      refine ⟨_, rfl, a, _, _, _, _, rfl, ha1, hC, (fun _ z => z), kNoHand, _, rfl, iteF ?_⟩
      refine ⟨_, rfl, a, _, _, _, _, rfl, ha1, hC, (fun _ z => z), kTwiceTold, _, rfl, iteF ?_⟩
      refine ⟨_, rfl, a, _, _, _, _, rfl, ha1, hC, (fun _ z => z), kTooMany, _, rfl, iteF ?_⟩
      refine ⟨_, rfl, l, [.str "ring"], rfl, .inl (SqL.of upd_same), ?_⟩
      refine c_ (ne_same (x := .int 1) rfl ?_)
      refine ⟨_, rfl, iteF ?_⟩
      refine ⟨_, rfl, a, _, _, _, _, rfl, ha1, hC, (fun _ z => z), T.err.v _ hx, _, rfl, iteF ?_⟩
      exact ⟨_, rfl, l, _, _, _, rfl, rfl, SqL.of upd_same, rfl, k _ ((Kp.new hl).late hl)⟩
    · have hx : ("NoMany" : Str) ∈ errNames.map (·.1) := by decide
      have hC := T.err.c _ hx
      have kNoRing : PySem.W.kitOne K (.ref (He.ga K "NoMany")) (.ref (He.ga K "NoRing")) = some false := (T.err.k _ hx "NoRing" (by decide)).trans (by decide)
      have kNoMany : PySem.W.kitOne K (.ref (He.ga K "NoMany")) (.ref (He.ga K "NoMany")) = some true := (T.err.k _ hx "NoMany" (by decide)).trans (by decide)
      have kNoStep : PySem.W.kitOne K (.ref (He.ga K "NoMany")) (.ref (He.ga K "NoStep")) = some false := (T.err.k _ hx "NoStep" (by decide)).trans (by decide)
      have kNoPlace : PySem.W.kitOne K (.ref (He.ga K "NoMany")) (.ref (He.ga K "NoPlace")) = some false := (T.err.k _ hx "NoPlace" (by decide)).trans (by decide)
      have kNoCount : PySem.W.kitOne K (.ref (He.ga K "NoMany")) (.ref (He.ga K "NoCount")) = some false := (T.err.k _ hx "NoCount" (by decide)).trans (by decide)
      have kNoHand : PySem.W.kitOne K (.ref (He.ga K "NoMany")) (.ref (He.ga K "NoHand")) = some false := (T.err.k _ hx "NoHand" (by decide)).trans (by decide)
      have kTwiceTold : PySem.W.kitOne K (.ref (He.ga K "NoMany")) (.ref (He.ga K "TwiceTold")) = some false := (T.err.k _ hx "TwiceTold" (by decide)).trans (by decide)
      have kTooMany : PySem.W.kitOne K (.ref (He.ga K "NoMany")) (.ref (He.ga K "TooMany")) = some false := (T.err.k _ hx "TooMany" (by decide)).trans (by decide)
      refine ⟨_, rfl, a, _, _, _, _, rfl, ha, hC, (fun _ z => z), kNoRing, _, rfl, iteF ?_⟩
      refine ⟨_, rfl, a, _, _, _, _, rfl, ha, hC, (fun _ z => z), kNoMany, _, rfl, ?_⟩
      refine iteT ⟨_, rfl, .inl ⟨rfl, _, SqL.of h0⟩, l, _, _, rfl, rfl, h0, szl 0 (by decide), ?_⟩
      have ha1 : upd (upd H l (.lst [])) l (.lst ([] ++ [.str "many"])) a = some (ExA (.ref (He.ga K "NoMany")) a) := by rw [upd_ne nal]; exact ha
      refine ⟨_, rfl, a, _, _, _, _, rfl, ha1, hC, (fun _ z => z), kNoStep, _, rfl, iteF ?_⟩
      refine ⟨_, rfl, a, _, _, _, _, rfl, ha1, hC, (fun _ z => z), kNoPlace, _, rfl, iteF ?_⟩
      refine ⟨_, rfl, a, _, _, _, _, rfl, ha1, hC, (fun _ z => z), kNoCount, _, rfl, iteF ?_⟩
      refine ⟨_, rfl, a, _, _, _, _, rfl, ha1, hC, (fun _ z => z), kNoHand, _, rfl, iteF ?_⟩
      refine ⟨_, rfl, a, _, _, _, _, rfl, ha1, hC, (fun _ z => z), kTwiceTold, _, rfl, iteF ?_⟩
      refine ⟨_, rfl, a, _, _, _, _, rfl, ha1, hC, (fun _ z => z), kTooMany, _, rfl, iteF ?_⟩
      refine ⟨_, rfl, l, [.str "many"], rfl, .inl (SqL.of upd_same), ?_⟩
      refine c_ (ne_same (x := .int 1) rfl ?_)
      refine ⟨_, rfl, iteF ?_⟩
      refine ⟨_, rfl, a, _, _, _, _, rfl, ha1, hC, (fun _ z => z), T.err.v _ hx, _, rfl, iteF ?_⟩
      exact ⟨_, rfl, l, _, _, _, rfl, rfl, SqL.of upd_same, rfl, k _ ((Kp.new hl).late hl)⟩
    · have hx : ("NoStep" : Str) ∈ errNames.map (·.1) := by decide
      have hC := T.err.c _ hx
      have kNoRing : PySem.W.kitOne K (.ref (He.ga K "NoStep")) (.ref (He.ga K "NoRing")) = some false := (T.err.k _ hx "NoRing" (by decide)).trans (by decide)
      have kNoMany : PySem.W.kitOne K (.ref (He.ga K "NoStep")) (.ref (He.ga K "NoMany")) = some false := (T.err.k _ hx "NoMany" (by decide)).trans (by decide)
      have kNoStep : PySem.W.kitOne K (.ref (He.ga K "NoStep")) (.ref (He.ga K "NoStep")) = some true := (T.err.k _ hx "NoStep" (by decide)).trans (by decide)
      have kNoPlace : PySem.W.kitOne K (.ref (He.ga K "NoStep")) (.ref (He.ga K "NoPlace")) = some false := (T.err.k _ hx "NoPlace" (by decide)).trans (by decide)
      have kNoCount : PySem.W.kitOne K (.ref (He.ga K "NoStep")) (.ref (He.ga K "NoCount")) = some false := (T.err.k _ hx "NoCount" (by decide)).trans (by decide)
      have kNoHand : PySem.W.kitOne K (.ref (He.ga K "NoStep")) (.ref (He.ga K "NoHand")) = some false := (T.err.k _ hx "NoHand" (by decide)).trans (by decide)
      have kTwiceTold : PySem.W.kitOne K (.ref (He.ga K "NoStep")) (.ref (He.ga K "TwiceTold")) = some false := (T.err.k _ hx "TwiceTold" (by decide)).trans (by decide)
      have kTooMany : PySem.W.kitOne K (.ref (He.ga K "NoStep")) (.ref (He.ga K "TooMany")) = some false := (T.err.k _ hx "TooMany" (by decide)).trans (by decide)
      refine ⟨_, rfl, a, _, _, _, _, rfl, ha, hC, (fun _ z => z), kNoRing, _, rfl, iteF ?_⟩
      refine ⟨_, rfl, a, _, _, _, _, rfl, ha, hC, (fun _ z => z), kNoMany, _, rfl, iteF ?_⟩
      refine ⟨_, rfl, a, _, _, _, _, rfl, ha, hC, (fun _ z => z), kNoStep, _, rfl, ?_⟩
      refine iteT ⟨_, rfl, .inl ⟨rfl, _, SqL.of h0⟩, l, _, _, rfl, rfl, h0, szl 0 (by decide), ?_⟩
      have ha1 : upd (upd H l (.lst [])) l (.lst ([] ++ [.str "step"])) a = some (ExA (.ref (He.ga K "NoStep")) a) := by rw [upd_ne nal]; exact ha
      refine ⟨_, rfl, a, _, _, _, _, rfl, ha1, hC, (fun _ z => z), kNoPlace, _, rfl, iteF ?_⟩
      refine ⟨_, rfl, a, _, _, _, _, rfl, ha1, hC, (fun _ z => z), kNoCount, _, rfl, iteF ?_⟩
      refine ⟨_, rfl, a, _, _, _, _, rfl, ha1, hC, (fun _ z => z), kNoHand, _, rfl, iteF ?_⟩
      refine ⟨_, rfl, a, _, _, _, _, rfl, ha1, hC, (fun _ z => z), kTwiceTold, _, rfl, iteF ?_⟩
      refine ⟨_, rfl, a, _, _, _, _, rfl, ha1, hC, (fun _ z => z), kTooMany, _, rfl, iteF ?_⟩
      refine ⟨_, rfl, l, [.str "step"], rfl, .inl (SqL.of upd_same), ?_⟩
      refine c_ (ne_same (x := .int 1) rfl ?_)
      refine ⟨_, rfl, iteF ?_⟩
      refine ⟨_, rfl, a, _, _, _, _, rfl, ha1, hC, (fun _ z => z), T.err.v _ hx, _, rfl, iteF ?_⟩
      exact ⟨_, rfl, l, _, _, _, rfl, rfl, SqL.of upd_same, rfl, k _ ((Kp.new hl).late hl)⟩
    · have hx : ("NoPlace" : Str) ∈ errNames.map (·.1) := by decide
      have hC := T.err.c _ hx
      have kNoRing : PySem.W.kitOne K (.ref (He.ga K "NoPlace")) (.ref (He.ga K "NoRing")) = some false := (T.err.k _ hx "NoRing" (by decide)).trans (by decide)
      have kNoMany : PySem.W.kitOne K (.ref (He.ga K "NoPlace")) (.ref (He.ga K "NoMany")) = some false := (T.err.k _ hx "NoMany" (by decide)).trans (by decide)
      have kNoStep : PySem.W.kitOne K (.ref (He.ga K "NoPlace")) (.ref (He.ga K "NoStep")) = some false := (T.err.k _ hx "NoStep" (by decide)).trans (by decide)
      have kNoPlace : PySem.W.kitOne K (.ref (He.ga K "NoPlace")) (.ref (He.ga K "NoPlace")) = some true := (T.err.k _ hx "NoPlace" (by decide)).trans (by decide)
      have kNoCount : PySem.W.kitOne K (.ref (He.ga K "NoPlace")) (.ref (He.ga K "NoCount")) = some false := (T.err.k _ hx "NoCount" (by decide)).trans (by decide)
      have kNoHand : PySem.W.kitOne K (.ref (He.ga K "NoPlace")) (.ref (He.ga K "NoHand")) = some false := (T.err.k _ hx "NoHand" (by decide)).trans (by decide)
      have kTwiceTold : PySem.W.kitOne K (.ref (He.ga K "NoPlace")) (.ref (He.ga K "TwiceTold")) = some false := (T.err.k _ hx "TwiceTold" (by decide)).trans (by decide)
      have kTooMany : PySem.W.kitOne K (.ref (He.ga K "NoPlace")) (.ref (He.ga K "TooMany")) = some false := (T.err.k _ hx "TooMany" (by decide)).trans (by decide)
      refine ⟨_, rfl, a, _, _, _, _, rfl, ha, hC, (fun _ z => z), kNoRing, _, rfl, iteF ?_⟩
      refine ⟨_, rfl, a, _, _, _, _, rfl, ha, hC, (fun _ z => z), kNoMany, _, rfl, iteF ?_⟩
      refine ⟨_, rfl, a, _, _, _, _, rfl, ha, hC, (fun _ z => z), kNoStep, _, rfl, iteF ?_⟩
      refine ⟨_, rfl, a, _, _, _, _, rfl, ha, hC, (fun _ z => z), kNoPlace, _, rfl, ?_⟩
      refine iteT ⟨_, rfl, .inl ⟨rfl, _, SqL.of h0⟩, l, _, _, rfl, rfl, h0, szl 0 (by decide), ?_⟩
      have ha1 : upd (upd H l (.lst [])) l (.lst ([] ++ [.str "place"])) a = some (ExA (.ref (He.ga K "NoPlace")) a) := by rw [upd_ne nal]; exact ha
      refine ⟨_, rfl, a, _, _, _, _, rfl, ha1, hC, (fun _ z => z), kNoCount, _, rfl, iteF ?_⟩
      refine ⟨_, rfl, a, _, _, _, _, rfl, ha1, hC, (fun _ z => z), kNoHand, _, rfl, iteF ?_⟩
      refine ⟨_, rfl, a, _, _, _, _, rfl, ha1, hC, (fun _ z => z), kTwiceTold, _, rfl, iteF ?_⟩
      refine ⟨_, rfl, a, _, _, _, _, rfl, ha1, hC, (fun _ z => z), kTooMany, _, rfl, iteF ?_⟩
      refine ⟨_, rfl, l, [.str "place"], rfl, .inl (SqL.of upd_same), ?_⟩
      refine c_ (ne_same (x := .int 1) rfl ?_)
      refine ⟨_, rfl, iteF ?_⟩
      refine ⟨_, rfl, a, _, _, _, _, rfl, ha1, hC, (fun _ z => z), T.err.v _ hx, _, rfl, iteF ?_⟩
      exact ⟨_, rfl, l, _, _, _, rfl, rfl, SqL.of upd_same, rfl, k _ ((Kp.new hl).late hl)⟩
    · have hx : ("NoCount" : Str) ∈ errNames.map (·.1) := by decide
      have hC := T.err.c _ hx
      have kNoRing : PySem.W.kitOne K (.ref (He.ga K "NoCount")) (.ref (He.ga K "NoRing")) = some false := (T.err.k _ hx "NoRing" (by decide)).trans (by decide)
      have kNoMany : PySem.W.kitOne K (.ref (He.ga K "NoCount")) (.ref (He.ga K "NoMany")) = some false := (T.err.k _ hx "NoMany" (by decide)).trans (by decide)
      have kNoStep : PySem.W.kitOne K (.ref (He.ga K "NoCount")) (.ref (He.ga K "NoStep")) = some false := (T.err.k _ hx "NoStep" (by decide)).trans (by decide)
      have kNoPlace : PySem.W.kitOne K (.ref (He.ga K "NoCount")) (.ref (He.ga K "NoPlace")) = some false := (T.err.k _ hx "NoPlace" (by decide)).trans (by decide)
      have kNoCount : PySem.W.kitOne K (.ref (He.ga K "NoCount")) (.ref (He.ga K "NoCount")) = some true := (T.err.k _ hx "NoCount" (by decide)).trans (by decide)
      have kNoHand : PySem.W.kitOne K (.ref (He.ga K "NoCount")) (.ref (He.ga K "NoHand")) = some false := (T.err.k _ hx "NoHand" (by decide)).trans (by decide)
      have kTwiceTold : PySem.W.kitOne K (.ref (He.ga K "NoCount")) (.ref (He.ga K "TwiceTold")) = some false := (T.err.k _ hx "TwiceTold" (by decide)).trans (by decide)
      have kTooMany : PySem.W.kitOne K (.ref (He.ga K "NoCount")) (.ref (He.ga K "TooMany")) = some false := (T.err.k _ hx "TooMany" (by decide)).trans (by decide)
      refine ⟨_, rfl, a, _, _, _, _, rfl, ha, hC, (fun _ z => z), kNoRing, _, rfl, iteF ?_⟩
      refine ⟨_, rfl, a, _, _, _, _, rfl, ha, hC, (fun _ z => z), kNoMany, _, rfl, iteF ?_⟩
      refine ⟨_, rfl, a, _, _, _, _, rfl, ha, hC, (fun _ z => z), kNoStep, _, rfl, iteF ?_⟩
      refine ⟨_, rfl, a, _, _, _, _, rfl, ha, hC, (fun _ z => z), kNoPlace, _, rfl, iteF ?_⟩
      refine ⟨_, rfl, a, _, _, _, _, rfl, ha, hC, (fun _ z => z), kNoCount, _, rfl, ?_⟩
      refine iteT ⟨_, rfl, .inl ⟨rfl, _, SqL.of h0⟩, l, _, _, rfl, rfl, h0, szl 0 (by decide), ?_⟩
      have ha1 : upd (upd H l (.lst [])) l (.lst ([] ++ [.str "count"])) a = some (ExA (.ref (He.ga K "NoCount")) a) := by rw [upd_ne nal]; exact ha
      refine ⟨_, rfl, a, _, _, _, _, rfl, ha1, hC, (fun _ z => z), kNoHand, _, rfl, iteF ?_⟩
      refine ⟨_, rfl, a, _, _, _, _, rfl, ha1, hC, (fun _ z => z), kTwiceTold, _, rfl, iteF ?_⟩
      refine ⟨_, rfl, a, _, _, _, _, rfl, ha1, hC, (fun _ z => z), kTooMany, _, rfl, iteF ?_⟩
      refine ⟨_, rfl, l, [.str "count"], rfl, .inl (SqL.of upd_same), ?_⟩
      refine c_ (ne_same (x := .int 1) rfl ?_)
      refine ⟨_, rfl, iteF ?_⟩
      refine ⟨_, rfl, a, _, _, _, _, rfl, ha1, hC, (fun _ z => z), T.err.v _ hx, _, rfl, iteF ?_⟩
      exact ⟨_, rfl, l, _, _, _, rfl, rfl, SqL.of upd_same, rfl, k _ ((Kp.new hl).late hl)⟩
    · have hx : ("NoHand" : Str) ∈ errNames.map (·.1) := by decide
      have hC := T.err.c _ hx
      have kNoRing : PySem.W.kitOne K (.ref (He.ga K "NoHand")) (.ref (He.ga K "NoRing")) = some false := (T.err.k _ hx "NoRing" (by decide)).trans (by decide)
      have kNoMany : PySem.W.kitOne K (.ref (He.ga K "NoHand")) (.ref (He.ga K "NoMany")) = some false := (T.err.k _ hx "NoMany" (by decide)).trans (by decide)
      have kNoStep : PySem.W.kitOne K (.ref (He.ga K "NoHand")) (.ref (He.ga K "NoStep")) = some false := (T.err.k _ hx "NoStep" (by decide)).trans (by decide)
      have kNoPlace : PySem.W.kitOne K (.ref (He.ga K "NoHand")) (.ref (He.ga K "NoPlace")) = some false := (T.err.k _ hx "NoPlace" (by decide)).trans (by decide)
      have kNoCount : PySem.W.kitOne K (.ref (He.ga K "NoHand")) (.ref (He.ga K "NoCount")) = some false := (T.err.k _ hx "NoCount" (by decide)).trans (by decide)
      have kNoHand : PySem.W.kitOne K (.ref (He.ga K "NoHand")) (.ref (He.ga K "NoHand")) = some true := (T.err.k _ hx "NoHand" (by decide)).trans (by decide)
      have kTwiceTold : PySem.W.kitOne K (.ref (He.ga K "NoHand")) (.ref (He.ga K "TwiceTold")) = some false := (T.err.k _ hx "TwiceTold" (by decide)).trans (by decide)
      have kTooMany : PySem.W.kitOne K (.ref (He.ga K "NoHand")) (.ref (He.ga K "TooMany")) = some false := (T.err.k _ hx "TooMany" (by decide)).trans (by decide)
      refine ⟨_, rfl, a, _, _, _, _, rfl, ha, hC, (fun _ z => z), kNoRing, _, rfl, iteF ?_⟩
      refine ⟨_, rfl, a, _, _, _, _, rfl, ha, hC, (fun _ z => z), kNoMany, _, rfl, iteF ?_⟩
      refine ⟨_, rfl, a, _, _, _, _, rfl, ha, hC, (fun _ z => z), kNoStep, _, rfl, iteF ?_⟩
      refine ⟨_, rfl, a, _, _, _, _, rfl, ha, hC, (fun _ z => z), kNoPlace, _, rfl, iteF ?_⟩
      refine ⟨_, rfl, a, _, _, _, _, rfl, ha, hC, (fun _ z => z), kNoCount, _, rfl, iteF ?_⟩
      refine ⟨_, rfl, a, _, _, _, _, rfl, ha, hC, (fun _ z => z), kNoHand, _, rfl, ?_⟩
      refine iteT ⟨_, rfl, .inl ⟨rfl, _, SqL.of h0⟩, l, _, _, rfl, rfl, h0, szl 0 (by decide), ?_⟩
      have ha1 : upd (upd H l (.lst [])) l (.lst ([] ++ [.str "hand"])) a = some (ExA (.ref (He.ga K "NoHand")) a) := by rw [upd_ne nal]; exact ha
      refine ⟨_, rfl, a, _, _, _, _, rfl, ha1, hC, (fun _ z => z), kTwiceTold, _, rfl, iteF ?_⟩
      refine ⟨_, rfl, a, _, _, _, _, rfl, ha1, hC, (fun _ z => z), kTooMany, _, rfl, iteF ?_⟩
      refine ⟨_, rfl, l, [.str "hand"], rfl, .inl (SqL.of upd_same), ?_⟩
      refine c_ (ne_same (x := .int 1) rfl ?_)
      refine ⟨_, rfl, iteF ?_⟩
      refine ⟨_, rfl, a, _, _, _, _, rfl, ha1, hC, (fun _ z => z), T.err.v _ hx, _, rfl, iteF ?_⟩
      exact ⟨_, rfl, l, _, _, _, rfl, rfl, SqL.of upd_same, rfl, k _ ((Kp.new hl).late hl)⟩
    · have hx : ("TwiceTold" : Str) ∈ errNames.map (·.1) := by decide
      have hC := T.err.c _ hx
      have kNoRing : PySem.W.kitOne K (.ref (He.ga K "TwiceTold")) (.ref (He.ga K "NoRing")) = some false := (T.err.k _ hx "NoRing" (by decide)).trans (by decide)
      have kNoMany : PySem.W.kitOne K (.ref (He.ga K "TwiceTold")) (.ref (He.ga K "NoMany")) = some false := (T.err.k _ hx "NoMany" (by decide)).trans (by decide)
      have kNoStep : PySem.W.kitOne K (.ref (He.ga K "TwiceTold")) (.ref (He.ga K "NoStep")) = some false := (T.err.k _ hx "NoStep" (by decide)).trans (by decide)
      have kNoPlace : PySem.W.kitOne K (.ref (He.ga K "TwiceTold")) (.ref (He.ga K "NoPlace")) = some false := (T.err.k _ hx "NoPlace" (by decide)).trans (by decide)
      have kNoCount : PySem.W.kitOne K (.ref (He.ga K "TwiceTold")) (.ref (He.ga K "NoCount")) = some false := (T.err.k _ hx "NoCount" (by decide)).trans (by decide)
      have kNoHand : PySem.W.kitOne K (.ref (He.ga K "TwiceTold")) (.ref (He.ga K "NoHand")) = some false := (T.err.k _ hx "NoHand" (by decide)).trans (by decide)
      have kTwiceTold : PySem.W.kitOne K (.ref (He.ga K "TwiceTold")) (.ref (He.ga K "TwiceTold")) = some true := (T.err.k _ hx "TwiceTold" (by decide)).trans (by decide)
      have kTooMany : PySem.W.kitOne K (.ref (He.ga K "TwiceTold")) (.ref (He.ga K "TooMany")) = some false := (T.err.k _ hx "TooMany" (by decide)).trans (by decide)
      refine ⟨_, rfl, a, _, _, _, _, rfl, ha, hC, (fun _ z => z), kNoRing, _, rfl, iteF ?_⟩
      refine ⟨_, rfl, a, _, _, _, _, rfl, ha, hC, (fun _ z => z), kNoMany, _, rfl, iteF ?_⟩
      refine ⟨_, rfl, a, _, _, _, _, rfl, ha, hC, (fun _ z => z), kNoStep, _, rfl, iteF ?_⟩
      refine ⟨_, rfl, a, _, _, _, _, rfl, ha, hC, (fun _ z => z), kNoPlace, _, rfl, iteF ?_⟩
      refine ⟨_, rfl, a, _, _, _, _, rfl, ha, hC, (fun _ z => z), kNoCount, _, rfl, iteF ?_⟩
      refine ⟨_, rfl, a, _, _, _, _, rfl, ha, hC, (fun _ z => z), kNoHand, _, rfl, iteF ?_⟩
      refine ⟨_, rfl, a, _, _, _, _, rfl, ha, hC, (fun _ z => z), kTwiceTold, _, rfl, ?_⟩
      refine iteT ⟨_, rfl, .inl ⟨rfl, _, SqL.of h0⟩, l, _, _, rfl, rfl, h0, szl 0 (by decide), ?_⟩
      have ha1 : upd (upd H l (.lst [])) l (.lst ([] ++ [.str "twice"])) a = some (ExA (.ref (He.ga K "TwiceTold")) a) := by rw [upd_ne nal]; exact ha
      refine ⟨_, rfl, a, _, _, _, _, rfl, ha1, hC, (fun _ z => z), kTooMany, _, rfl, iteF ?_⟩
      refine ⟨_, rfl, l, [.str "twice"], rfl, .inl (SqL.of upd_same), ?_⟩
      refine c_ (ne_same (x := .int 1) rfl ?_)
      refine ⟨_, rfl, iteF ?_⟩
      refine ⟨_, rfl, a, _, _, _, _, rfl, ha1, hC, (fun _ z => z), T.err.v _ hx, _, rfl, iteF ?_⟩
      exact ⟨_, rfl, l, _, _, _, rfl, rfl, SqL.of upd_same, rfl, k _ ((Kp.new hl).late hl)⟩
    · have hx : ("TooMany" : Str) ∈ errNames.map (·.1) := by decide
      have hC := T.err.c _ hx
      have kNoRing : PySem.W.kitOne K (.ref (He.ga K "TooMany")) (.ref (He.ga K "NoRing")) = some false := (T.err.k _ hx "NoRing" (by decide)).trans (by decide)
      have kNoMany : PySem.W.kitOne K (.ref (He.ga K "TooMany")) (.ref (He.ga K "NoMany")) = some false := (T.err.k _ hx "NoMany" (by decide)).trans (by decide)
      have kNoStep : PySem.W.kitOne K (.ref (He.ga K "TooMany")) (.ref (He.ga K "NoStep")) = some false := (T.err.k _ hx "NoStep" (by decide)).trans (by decide)
      have kNoPlace : PySem.W.kitOne K (.ref (He.ga K "TooMany")) (.ref (He.ga K "NoPlace")) = some false := (T.err.k _ hx "NoPlace" (by decide)).trans (by decide)
      have kNoCount : PySem.W.kitOne K (.ref (He.ga K "TooMany")) (.ref (He.ga K "NoCount")) = some false := (T.err.k _ hx "NoCount" (by decide)).trans (by decide)
      have kNoHand : PySem.W.kitOne K (.ref (He.ga K "TooMany")) (.ref (He.ga K "NoHand")) = some false := (T.err.k _ hx "NoHand" (by decide)).trans (by decide)
      have kTwiceTold : PySem.W.kitOne K (.ref (He.ga K "TooMany")) (.ref (He.ga K "TwiceTold")) = some false := (T.err.k _ hx "TwiceTold" (by decide)).trans (by decide)
      have kTooMany : PySem.W.kitOne K (.ref (He.ga K "TooMany")) (.ref (He.ga K "TooMany")) = some true := (T.err.k _ hx "TooMany" (by decide)).trans (by decide)
      refine ⟨_, rfl, a, _, _, _, _, rfl, ha, hC, (fun _ z => z), kNoRing, _, rfl, iteF ?_⟩
      refine ⟨_, rfl, a, _, _, _, _, rfl, ha, hC, (fun _ z => z), kNoMany, _, rfl, iteF ?_⟩
      refine ⟨_, rfl, a, _, _, _, _, rfl, ha, hC, (fun _ z => z), kNoStep, _, rfl, iteF ?_⟩
      refine ⟨_, rfl, a, _, _, _, _, rfl, ha, hC, (fun _ z => z), kNoPlace, _, rfl, iteF ?_⟩
      refine ⟨_, rfl, a, _, _, _, _, rfl, ha, hC, (fun _ z => z), kNoCount, _, rfl, iteF ?_⟩
      refine ⟨_, rfl, a, _, _, _, _, rfl, ha, hC, (fun _ z => z), kNoHand, _, rfl, iteF ?_⟩
      refine ⟨_, rfl, a, _, _, _, _, rfl, ha, hC, (fun _ z => z), kTwiceTold, _, rfl, iteF ?_⟩
      refine ⟨_, rfl, a, _, _, _, _, rfl, ha, hC, (fun _ z => z), kTooMany, _, rfl, ?_⟩
      refine iteT ⟨_, rfl, .inl ⟨rfl, _, SqL.of h0⟩, l, _, _, rfl, rfl, h0, szl 0 (by decide), ?_⟩
      have ha1 : upd (upd H l (.lst [])) l (.lst ([] ++ [.str "much"])) a = some (ExA (.ref (He.ga K "TooMany")) a) := by rw [upd_ne nal]; exact ha
      refine ⟨_, rfl, l, [.str "much"], rfl, .inl (SqL.of upd_same), ?_⟩
      refine c_ (ne_same (x := .int 1) rfl ?_)
      refine ⟨_, rfl, iteF ?_⟩
      refine ⟨_, rfl, a, _, _, _, _, rfl, ha1, hC, (fun _ z => z), T.err.v _ hx, _, rfl, iteF ?_⟩
      exact ⟨_, rfl, l, _, _, _, rfl, rfl, SqL.of upd_same, rfl, k _ ((Kp.new hl).late hl)⟩
end
end Lz
namespace Lz
open PySem PySem.Spec PyProof.Rows L2
abbrev s__law_tried : Stmt := top 37
/-- as EE, the word in a tuple -/
def ET (K : PySem.W.Frag) (Q : VK) : XK := fun cls d H => d = none ∧ ∃ x wd : Str, (x, wd) ∈ errNames ∧ cls = .ref (He.ga K x) ∧ ∀ (t : Addr) (H' : Hp), Kp [] H H' → H t = none → H' t = some (.tup [.str wd]) → Q (.ref t) H'
def spTried (K : PySem.W.Frag) : Sp := fun vs H Q _ => ∃ (x r o : Addr) (s : Nat) (rest out : List Str) (w : Int) (u : V), vs = [.ref x, .int w, u] ∧ RingAt K H x r o s rest out ∧
  ((w = 0 ∧ ((rest = [] ∧ ∀ (t : Addr) (H' : Hp), Kp [] H H' → H t = none → H' t = some (.tup [.str "hand"]) → Q (.ref t) H') ∨
    (rest ≠ [] ∧ ∀ (h : Str) (rest' : List Str) (r' : Addr) (H' : Hp), Jo.rotL rest ((s - 1) % rest.length) = h :: rest' → Kp [x, o] H H' → H r' = none → RingAt K H' x r' o s rest' (out ++ [h]) → Q (.str h) H'))) ∨
   (w = 1 ∧ ((OutN K H 0 (rest.length : Int) u ∧ ∀ (t : Addr) (H' : Hp), Kp [] H H' → H t = none → H' t = some (.tup [.str "count"]) → Q (.ref t) H') ∨
    ∃ m : Nat, u = .int m ∧ m ≤ rest.length ∧ ∀ (q r' : Addr) (H' : Hp), Kp [x, o] H H' → H q = none → q ≠ r' → (r' = r ∨ H r' = none) → H' q = some (.lst (((Jo.out (s - 1) rest).take m).map V.str)) → RingAt K H' x r' o s (Jo.after (s - 1) m rest) (out ++ (Jo.out (s - 1) rest).take m) → Q (.ref q) H')))
section
variable {P : Program} {w : World} {K : PySem.W.Frag} {mg : Str → Option Value} {base : Heap}
theorem sc__law_tried : FnScope ["_law_ring", "_law_way", "_law_many", "_law_e", "_law_error_here"] ["_law_ring", "_law_way", "_law_many"] (defScope s__law_tried) := ⟨rfl, rfl, rfl, by decide +kernel, rfl, by decide +kernel, by decide +kernel⟩
theorem ok__law_tried {f : Addr} {fd : FuncData} (F : FnP K "_law_tried" "_law_tried" s__law_tried [] f fd) (T : Txt K mg) (G_Ring_count : FnMt P w K mg base (CXr P w) 3 (cRing K) "count" ["self"] [] (spCountR K)) (G_Ring_counts : FnMt P w K mg base (CXr P w) 4 (cRing K) "counts" ["self", "many"] [] (spCountsR K)) (G__law_error : FnAt P w K mg base CX0 1 "_law_error" ["_law_e"] [] (spErr K)) :
    FnOk P w K mg base CX0 5 f fd ["_law_ring", "_law_way", "_law_many"] (spTried K) := by
  have S := sc__law_tried
  refine F.ok S (fun vs H Q E h => ?_) (fun cdv A outer s H vs Q E hr h => ?_)
  · obtain ⟨x, r, o, s, rest, out, w, u, rfl, _⟩ := h
    rfl
  · obtain ⟨x, r, o, s', rest, out, w, u, rfl, R, h⟩ := h
    refine ⟨_, PSs.nox (pss_cons (ps_try_keep (i := 3) rfl rfl rfl S.nd rfl rfl ⟨rfl, by decide, .inl T.g_CountError⟩ (fun W pn xe tk => (pss_cons (ps_if (pt_cmpR op_eq (pv 1) pe_int (nomark _)) (pss_one (ps_ret (pe_mth0 (weakM G_Ring_count) T.cl_Ring (hr.mono (by decide)) (passT (N := ["_law_ring", "_law_way", "_law_many", "_law_e", "_law_error_here"]) tk) (pv 0)))) pss_nil) (pss_one (ps_ret (pe_mth (weakM G_Ring_counts) T.cl_Ring (hr.mono (by decide)) (passT (N := ["_law_ring", "_law_way", "_law_many", "_law_e", "_law_error_here"]) tk) (pv 0) (pa_cons (pv 2) pa_nil)))))) (fun a oe cls d pn => (pss_one (ps_set (i := 4) S.nd rfl (Or.inl rfl) (pv 3))))) (pss_one (ps_ret (pe_tup (pa_cons (pe_fn G__law_error (hr.mono (by decide)) pass0 (pa_cons (pv 4) pa_nil)) pa_nil))))), ?_⟩
    obtain ⟨dx, ei⟩ := R.ins
    rcases h with ⟨rfl, h⟩ | ⟨rfl, h⟩
    · refine ⟨_, rfl, c_ (eq_same (x := .int 0) rfl ⟨_, rfl, iteT ?_⟩)⟩
      refine ⟨_, rfl, x, dx, _, rfl, ei, rfl, ET K Q, ⟨x, r, o, s', rest, out, rfl, R, ?_⟩, fun cls d G he σ hσ => ?_⟩
      · rcases h with ⟨h0, hk⟩ | ⟨hne, hk⟩
        · exact .inl ⟨h0, rfl, "NoHand", "hand", by simp [errNames], rfl, hk⟩
        · exact .inr ⟨hne, hk⟩
      obtain ⟨rfl, w1, wd, hm, rfl, kk⟩ := he
      refine ⟨T.err.m w1 (List.mem_map.mpr ⟨_, hm, rfl⟩), rfl, fun a ha => ?_⟩
      match σ, hσ with
      | [_, _, _, _, _], _ => exact ⟨_, rfl, fun ha' => ⟨_, rfl, a, w1, wd, rfl, hm, upd_same, fun H2 k2 => ⟨sz 1 (by decide), fun t ht => kk t _ (((Kp.new ha').trans k2).trans (Kp.new ht)) (((Kp.new (ws := []) ha').trans k2).free ht List.not_mem_nil) upd_same⟩⟩⟩
    · refine ⟨_, rfl, c_ (eq_no (x := .int 1) (y := .int 0) (by decide) rfl ⟨_, rfl, iteF ?_⟩)⟩
      refine ⟨_, rfl, x, dx, _, rfl, ei, rfl, _, rfl, ET K Q, ⟨x, r, o, s', rest, out, u, rfl, R, ?_⟩, fun cls d G he σ hσ => ?_⟩
      · rcases h with ⟨h0, hk⟩ | ⟨m, hu, hm, hk⟩
        · exact .inl ⟨h0, rfl, "NoCount", "count", by simp [errNames], rfl, hk⟩
        · exact .inr ⟨m, hu, hm, hk⟩
      obtain ⟨rfl, w1, wd, hm, rfl, kk⟩ := he
      refine ⟨T.err.m w1 (List.mem_map.mpr ⟨_, hm, rfl⟩), rfl, fun a ha => ?_⟩
      match σ, hσ with
      | [_, _, _, _, _], _ => exact ⟨_, rfl, fun ha' => ⟨_, rfl, a, w1, wd, rfl, hm, upd_same, fun H2 k2 => ⟨sz 1 (by decide), fun t ht => kk t _ (((Kp.new ha').trans k2).trans (Kp.new ht)) (((Kp.new (ws := []) ha').trans k2).free ht List.not_mem_nil) upd_same⟩⟩⟩
end
end Lz
namespace Lz
open PySem PySem.Spec PyProof.Rows L2
abbrev s__law_done : Stmt := top 41
theorem eqD_tup1 {K : PySem.W.Frag} {H : Hp} {p q : Addr} {z : Str} {Q : VK} (ok : PyData.strOk z = true) (hp : SqT K H p [.str z]) (hq : SqT K H q [.str z]) (k : Q (.bl true) H) : rEqD K (.ref p) (.ref q) H Q := by
  have lay : PyData.canLay0 (.tuple [.str z]) = true := by simp [PyData.canLay0, PyData.canLayAll0, ok]
  have sh : SeqAt.shaped (.tuple [.str z]) = true := by
    unfold SeqAt.shaped
    rw [Bool.and_eq_true]
    exact ⟨lay, by simp [PyData.depth, PyData.depthAll]⟩
  refine ⟨_, _, .tup hp (.cons (.str _) .nil), .tup hq (.cons (.str _) .nil), sh, sh, ?_⟩
  rw [SeqAt.eqv_refl _ lay]
  exact k
theorem eqD_str {K : PySem.W.Frag} {H : Hp} {z : Str} {Q : VK} (ok : PyData.strOk z = true) (k : Q (.bl true) H) : rEqD K (.str z) (.str z) H Q := by
  have lay : PyData.canLay0 (.str z) = true := by simp [PyData.canLay0, ok]
  have sh : SeqAt.shaped (.str z) = true := by
    unfold SeqAt.shaped
    rw [Bool.and_eq_true]
    exact ⟨lay, by simp [PyData.depth]⟩
  refine ⟨_, _, .str z, .str z, sh, sh, ?_⟩
  rw [SeqAt.eqv_refl _ lay]
  exact k
theorem cut_mid (xs : List V) (a m : Nat) (h : a + m ≤ xs.length) : cutV xs (some (a : Int)) (some ((a : Int) + (m : Int))) = (xs.drop a).take m := by
  have e : (a : Int) + (m : Int) = ((a + m : Nat) : Int) := by omega
  rw [e]
  have h1 : min (a + m) xs.length = a + m := Nat.min_eq_left h
  have h2 : min a xs.length = a := Nat.min_eq_left (by omega)
  unfold cutV
  rw [HT.sIx_nat, HT.sIx_nat, h1, h2, Nat.add_sub_cancel_left]
theorem after_add {α : Type} (t : Nat) : ∀ (a m : Nat) (xs : List α), Jo.after t m (Jo.after t a xs) = Jo.after t (a + m) xs
  | 0, m, xs => by rw [Nat.zero_add]; rfl
  | a + 1, m, xs => by
    by_cases hne : xs = []
    · subst hne
      have z : ∀ k, Jo.after t k ([] : List α) = [] := fun k => by
        cases k with
        | zero => rfl
        | succ k => simp [Jo.after, Jo.rotL]
      rw [z, z, z]
    · obtain ⟨y, r, e, l⟩ := Jo.rot_cons t hne
      have q : a + 1 + m = a + m + 1 := by omega
      rw [Jo.after_step e, q, Jo.after_step e, after_add t a m r]
theorem out_drop {α : Type} (t a : Nat) (xs : List α) (h : a ≤ xs.length) : Jo.out t (Jo.after t a xs) = (Jo.out t xs).drop a := by
  have e := (Jo.out_after t a xs h).1
  have l : ((Jo.out t xs).take a).length = a := by rw [List.length_take, Jo.out_length]; omega
  have d := congrArg (List.drop a) e
  rw [List.drop_append, List.drop_of_length_le (by omega), List.nil_append, l, Nat.sub_self, List.drop_zero] at d
  exact d
def spDone (K : PySem.W.Frag) : Sp := fun vs H Q _ => ∃ (x r o d rw od hl : Addr) (s t : Nat) (row : List Str) (hv : List V) (c : Int), vs = [.ref x, .ref d, .int c] ∧ RingAt K H x r o s (Jo.after (s - 1) t row) ((Jo.out (s - 1) row).take t) ∧ H d = some (.dK (ownK rw od hl s t)) ∧
  H od = some (.lst ((Jo.out (s - 1) row).map V.str)) ∧ H hl = some (.lst hv) ∧ hv.length ≤ 1000 ∧ t ≤ row.length ∧ row.length ≤ 200 ∧ (∀ z ∈ row, PyData.strOk z = true) ∧ hl ≠ r ∧ hl ≠ o ∧ od ≠ o ∧
  ∀ (t' : Nat) (r' : Addr) (hv' : List V) (H' : Hp), t' ≤ row.length → Kp [x, o, d, hl] H H' → (r' = r ∨ H r' = none) → RingAt K H' x r' o s (Jo.after (s - 1) t' row) ((Jo.out (s - 1) row).take t') → H' d = some (.dK (ownK rw od hl s t')) → H' hl = some (.lst hv') →
    (hv' = hv ∨ ∃ (T f u : Addr) (zs : List Str), hv' = hv ++ [.ref T] ∧ H T = none ∧ H f = none ∧ H u = none ∧ f ≠ u ∧ f ≠ r' ∧ u ≠ r' ∧ H' T = some (.tup [.ref f, .ref u]) ∧ H' f = some (.lst (zs.map V.str)) ∧ H' u = some (.lst (zs.map V.str)) ∧ zs.length ≤ 200 ∧ ∀ z ∈ zs, PyData.strOk z = true) → Q (.bl true) H'
section
variable {P : Program} {w : World} {K : PySem.W.Frag} {mg : Str → Option Value} {base : Heap}
theorem sc__law_done : FnScope ["_law_ring", "_law_own", "_law_cell", "_law_rest", "_law_many", "_law_due", "_law_found"] ["_law_ring", "_law_own", "_law_cell"] (defScope s__law_done) := ⟨rfl, rfl, rfl, by decide +kernel, rfl, by decide +kernel, by decide +kernel⟩
theorem ok__law_done {f : Addr} {fd : FuncData} (F : FnP K "_law_done" "_law_done" s__law_done [] f fd) (T : Txt K mg) (G__law_tried : FnAt P w K mg base CX0 5 "_law_tried" ["_law_ring", "_law_way", "_law_many"] [] (spTried K)) :
    FnOk P w K mg base CX0 6 f fd ["_law_ring", "_law_own", "_law_cell"] (spDone K) := by
  have S := sc__law_done
  refine F.ok S (fun vs H Q E h => ?_) (fun cdv A outer s H vs Q E hr h => ?_)
  · obtain ⟨x, r, o, d, rw, od, hl, s, t, row, hv, c, rfl, _⟩ := h
    rfl
  · obtain ⟨x, r, o, d, rw1, od, hl, s', t, row, hv, c, rfl, R, ed, eo, eh, lhv, ht, hrow, hok, nhr, nho, noo, k⟩ := h
    refine ⟨_, PSs.nox (pss_cons (ps_set (i := 3) S.nd rfl (Or.inl rfl) (pe_op op_sub (pe_callB call_len_seq (by rfl) T.b_len PySem.boot_len (pa_cons (pe_dget (hu_of hr) (pv 1) pe_str (fun _ _ => rfl)) pa_nil)) (pe_dget (hu_of hr) (pv 1) pe_str (fun _ _ => rfl)))) (pss_cons (ps_set (i := 4) S.nd rfl (Or.inl rfl) (pe_op op_mod (pe_op op_fdiv (pv 2) pe_int) pe_int)) (pss_cons (ps_if (PW.pt (pw_and (pt_cmpR op_eq (pe_op op_mod (pv 2) pe_int) pe_int (nomark _)) (pw_and1 (pt_cmpR op_gt (pv 4) (pv 3) (nomark _))))) (pss_one (ps_ret (pe_cmpR (op_eqD hr.units) (pe_fn G__law_tried (hr.mono (by decide)) pass0 (pa_cons (pv 0) (pa_cons pe_int (pa_cons (pv 4) pa_nil)))) (pe_tup (pa_cons pe_str pa_nil)) (nomark _)))) pss_nil) (pss_cons (ps_if (pt_cmpR op_eq (pe_op op_mod (pv 2) pe_int) pe_int (nomark _)) (pss_cons (ps_set (i := 5) S.nd rfl (Or.inl rfl) (pe_slice sl_list (pe_dget (hu_of hr) (pv 1) pe_str (fun _ _ => rfl)) (po_some (pe_dget (hu_of hr) (pv 1) pe_str (fun _ _ => rfl))) (po_some (pe_op op_add (pe_dget (hu_of hr) (pv 1) pe_str (fun _ _ => rfl)) (pv 4))))) (pss_cons (ps_dput (hu_of hr) (pv 1) pe_str (pe_op op_add (pe_dget (hu_of hr) (pv 1) pe_str (fun _ _ => rfl)) (pv 4)) rfl) (pss_cons (ps_set (i := 6) S.nd rfl (Or.inl rfl) (pe_fn G__law_tried (hr.mono (by decide)) pass0 (pa_cons (pv 0) (pa_cons pe_int (pa_cons (pv 4) pa_nil))))) (pss_cons (ps_expr (pe_bm PySem.F.plainAttrs_list PySem.F.slot_list_append PySem.F.type_list_append mt_append (pe_dget (hu_of hr) (pv 1) pe_str (fun _ _ => rfl)) (pa_cons (pe_tup (pa_cons (pv 6) (pa_cons (pv 5) pa_nil))) pa_nil))) (pss_one (ps_ret (pe_cmpR (op_eqD hr.units) (pv 6) (pv 5) (nomark _)))))))) pss_nil) (pss_cons (ps_if (pt_cmpR op_eq (pe_op op_mod (pv 2) pe_int) pe_int (nomark _)) (pss_one (ps_ret (pe_cmpR (op_eqD hr.units) (pe_fn G__law_tried (hr.mono (by decide)) pass0 (pa_cons (pv 0) (pa_cons pe_int (pa_cons (pe_ix ix_list (pe_lst (pa_cons (pe_un un_neg pe_int) (pa_cons (pe_op op_add (pv 3) pe_int) (pa_cons pe_non (pa_cons pe_bl (pa_cons pe_str pa_nil)))))) (pv 4) (fun _ _ => rfl)) pa_nil)))) (pe_tup (pa_cons pe_str pa_nil)) (nomark _)))) pss_nil) (pss_cons (ps_set (i := 5) S.nd rfl (Or.inl rfl) (pe_ix ix_list (pe_op op_cat (pe_dget (hu_of hr) (pv 1) pe_str (fun _ _ => rfl)) (pe_lst (pa_cons (pe_tup (pa_cons pe_str pa_nil)) pa_nil))) (pe_dget (hu_of hr) (pv 1) pe_str (fun _ _ => rfl)) (fun _ _ => rfl))) (pss_cons (ps_dput (hu_of hr) (pv 1) pe_str (pe_callB (call_min2 rfl) (by rfl) T.b_min (by decide +kernel) (pa_cons (pe_op op_add (pe_dget (hu_of hr) (pv 1) pe_str (fun _ _ => rfl)) pe_int) (pa_cons (pe_callB call_len_seq (by rfl) T.b_len PySem.boot_len (pa_cons (pe_dget (hu_of hr) (pv 1) pe_str (fun _ _ => rfl)) pa_nil)) pa_nil))) rfl) (pss_one (ps_ret (pe_cmpR (op_eqD hr.units) (pe_fn G__law_tried (hr.mono (by decide)) pass0 (pa_cons (pv 0) (pa_cons pe_int (pa_cons pe_int pa_nil)))) (pv 5) (nomark _))))))))))), ?_⟩
    have lO : (Jo.out (s' - 1) row).length = row.length := Jo.out_length _ _
    have okO : ∀ z ∈ Jo.out (s' - 1) row, PyData.strOk z = true := fun z hz => hok z ((Jo.out_perm _ _).mem_iff.mp hz)
    have la := (Jo.out_after (s' - 1) t row ht).2
    obtain ⟨dx, ei⟩ := R.ins
    have ndx : d ≠ x := fun z => by rw [z, ei] at ed; cases ed
    have ndo : d ≠ o := fun z => by rw [z, R.lo] at ed; cases ed
    have ndl : d ≠ hl := fun z => by rw [z, eh] at ed; cases ed
    have nlx : hl ≠ x := R.nx eh
    -- rest, many
    refine ⟨_, rfl, d, _, rfl, dget (k := .inr "order") ed own_order, od, _, rfl, .inl (SqL.of eo), _, rfl, d, _, rfl, dget (k := .inr "at") ed own_at, _, _, rfl, rfl, set_eq (y := .int ((row.length - t : Nat) : Int)) (vint (by rw [List.length_map, lO]; omega)) ?_⟩
    obtain ⟨m, em⟩ := Int.eq_ofNat_of_zero_le (show 0 ≤ c / 4 % 5 by omega)
    refine ⟨_, rfl, _, _, rfl, rfl, ⟨by decide, by decide⟩, _, _, rfl, rfl, by show (0 : Int) < _; decide, set_eq (y := .int m) (congrArg V.int em) ?_⟩
    have same : ∀ G, Kp [] H G → Q (.bl true) G := fun G kG => k t r hv G ht (kG.mono (by simp)) (.inl rfl) (R.keep0 kG) (kG _ _ ed List.not_mem_nil) (kG _ _ eh List.not_mem_nil) (.inl rfl)
    by_cases c0 : c % 4 = 0
    · refine ⟨_, rfl, _, _, rfl, rfl, by show (0 : Int) < _; decide, c_ (eq_yes (vint c0) rfl ⟨_, rfl, iteT ?_⟩)⟩
      refine ⟨_, rfl, _, rfl, _, _, rfl, rfl, _, rfl, ?_⟩
      by_cases hm : row.length - t < m
      · -- more than are left
        rw [decide_eq_true (by omega)]
        refine iteT ⟨_, rfl, _, rfl, x, r, o, s', _, _, 1, _, rfl, R, .inr ⟨rfl, .inl ⟨.inr ⟨_, rfl, by omega⟩, fun p1 G k1 h1 e1 => ?_⟩⟩⟩
        refine ⟨sz 1 (by decide), fun p2 h2 => eqD_tup1 (z := "count") (by decide +kernel) (SqT.of ?_) (SqT.of upd_same) (same _ (k1.trans (Kp.new h2)))⟩
        rw [upd_ne (ne_of_none e1 h2)]
        exact e1
      · rw [decide_eq_false (by omega)]
        refine iteF ?_
        refine ⟨_, rfl, _, _, rfl, rfl, by show (0 : Int) < _; decide, c_ (eq_yes (vint c0) rfl ⟨_, rfl, iteT ?_⟩)⟩
        -- due
        refine ⟨_, rfl, d, _, rfl, dget (k := .inr "order") ed own_order, _, rfl, d, _, rfl, dget (k := .inr "at") ed own_at, (t : Int), rfl, _, rfl, d, _, rfl, dget (k := .inr "at") ed own_at, _, rfl, _, _, rfl, rfl, (t : Int) + (m : Int), rfl, od, _, rfl, SqL.of eo, fun u hu => ?_⟩
        have cm : cutV ((Jo.out (s' - 1) row).map V.str) (some (t : Int)) (some ((t : Int) + (m : Int))) = (((Jo.out (s' - 1) row).drop t).take m).map V.str := by
          rw [cut_mid _ t m (by rw [List.length_map, lO]; omega), List.map_take, List.map_drop]
        rw [cm]
        have ku : Kp [] H (upd H u (.lst ((((Jo.out (s' - 1) row).drop t).take m).map V.str))) := Kp.new hu
        have eu : upd H u (.lst ((((Jo.out (s' - 1) row).drop t).take m).map V.str)) u = some (.lst ((((Jo.out (s' - 1) row).drop t).take m).map V.str)) := upd_same
        have nux : u ≠ x := (ne_of_none ei hu).symm
        have nuo : u ≠ o := (ne_of_none R.lo hu).symm
        have nud : u ≠ d := (ne_of_none ed hu).symm
        have nul : u ≠ hl := (ne_of_none eh hu).symm
        generalize upd H u (.lst ((((Jo.out (s' - 1) row).drop t).take m).map V.str)) = G1 at ku eu ⊢
        have R1 := R.keep0 ku
        have ed1 := ku _ _ ed List.not_mem_nil
        have eh1 := ku _ _ eh List.not_mem_nil
        -- at
        refine ⟨_, rfl, d, _, rfl, dget (k := .inr "at") ed1 own_at, _, rfl, _, _, rfl, rfl, _, rfl, d, _, rfl, dput (k := .inr "at") (kvs' := ownK rw1 od hl s' (t + m)) ed1 (szl 5 (by decide)) (own_put (u := t + m)), ?_⟩
        have kd : Kp [d] G1 (upd G1 d (.dK (ownK rw1 od hl s' (t + m)))) := Kp.put (List.mem_singleton.mpr rfl)
        have ed2 : upd G1 d (.dK (ownK rw1 od hl s' (t + m))) d = some (.dK (ownK rw1 od hl s' (t + m))) := upd_same
        have ndr : r ≠ d := fun z => by rw [← z, R.lr] at ed; cases ed
        have R2 := R1.keep kd (fun z => ndx (List.mem_singleton.mp z).symm) (fun z => ndr (List.mem_singleton.mp z)) (fun z => ndo (List.mem_singleton.mp z).symm)
        have eh2 := kd.one eh1 ndl.symm
        have eu2 := kd.one eu nud
        have k2 : Kp [x, o, d, hl] H (upd G1 d (.dK (ownK rw1 od hl s' (t + m)))) := (ku.mono (by simp)).trans (kd.mono (by simp))
        have fresh2 : ∀ p, upd G1 d (.dK (ownK rw1 od hl s' (t + m))) p = none → H p = none := fun p hp => by
          refine ku.free (p := p) ?_ List.not_mem_nil
          by_cases z : p = d
          · rw [z, upd_same] at hp
            cases hp
          · rw [upd_ne z] at hp
            exact hp
        generalize upd G1 d (.dK (ownK rw1 od hl s' (t + m))) = G2 at ed2 R2 eh2 eu2 k2 fresh2 ⊢
        -- found
        refine ⟨_, rfl, _, rfl, x, r, o, s', _, _, 1, _, rfl, R2, .inr ⟨rfl, .inr ⟨m, rfl, by omega, fun f r2 G3 k3 hf nfr hr2 ef R3 => ?_⟩⟩⟩
        rw [out_drop _ _ _ ht] at ef R3
        rw [after_add, ← List.take_add] at R3
        have kk : ∀ {p : Addr} {u : HO}, G2 p = some u → p ≠ x → p ≠ o → G3 p = some u := fun e n1 n2 => k3 _ _ e (by simp [n1, n2])
        have ed3 := kk ed2 ndx ndo
        have eh3 := kk eh2 nlx nho
        have eu3 := kk eu2 nux nuo
        have nfu : f ≠ u := (ne_of_none eu2 hf).symm
        have nfl : f ≠ hl := (ne_of_none eh2 hf).symm
        refine ⟨_, rfl, d, _, rfl, dget (k := .inr "held") ed3 own_held, .inl ⟨rfl, _, SqL.of eh3⟩, _, rfl, _, rfl, sz 2 (by decide), fun T hT => ?_⟩
        have kT : Kp [] G3 (upd G3 T (.tup [.ref f, .ref u])) := Kp.new hT
        have eT : upd G3 T (.tup [.ref f, .ref u]) T = some (.tup [.ref f, .ref u]) := upd_same
        have ntl : T ≠ hl := (ne_of_none eh3 hT).symm
        have ef4 := kT _ _ ef List.not_mem_nil
        have eu4 := kT _ _ eu3 List.not_mem_nil
        have eh4 := kT _ _ eh3 List.not_mem_nil
        have ed4 := kT _ _ ed3 List.not_mem_nil
        have R4 := R3.keep0 kT
        have hT2 : G2 T = none := k3.free hT (fun z => by
          rcases List.mem_cons.mp z with q | q
          · obtain ⟨dx3, ei3⟩ := R3.ins
            rw [q, ei3] at hT
            cases hT
          · rw [List.mem_singleton.mp q, R3.lo] at hT
            cases hT)
        generalize upd G3 T (.tup [.ref f, .ref u]) = G4 at kT eT ef4 eu4 eh4 ed4 R4 ⊢
        refine ⟨hl, _, _, rfl, rfl, eh4, szl _ (by omega), ?_⟩
        have kl : Kp [hl] G4 (upd G4 hl (.lst (hv ++ [.ref T]))) := Kp.put (List.mem_singleton.mpr rfl)
        have r2l : r2 ≠ hl := by
          rcases hr2 with q | q
          · rw [q]
            exact nhr.symm
          · exact (ne_of_none eh2 q).symm
        have nur : u ≠ r2 := by
          rcases hr2 with q | q
          · rw [q]
            exact (ne_of_none R.lr hu).symm
          · exact ne_of_none eu2 q
        have R5 := R4.keep kl (fun z => nlx (List.mem_singleton.mp z).symm) (fun z => r2l (List.mem_singleton.mp z)) (fun z => nho (List.mem_singleton.mp z).symm)
        have ef5 := kl.one ef4 nfl
        have eu5 := kl.one eu4 nul
        refine ⟨_, rfl, _, rfl, eqD_same (SqL.of ef5) (SqL.of eu5) (isS_texts fun z hz => okO z (List.mem_of_mem_drop (List.mem_of_mem_take hz))) ?_⟩
        refine k (t + m) r2 (hv ++ [.ref T]) _ (by omega) ((k2.trans ((k3.mono (by simp)).trans (kT.mono (by simp)))).trans (kl.mono (by simp))) ?_ R5 (kl.one ed4 ndl) upd_same (.inr ⟨T, f, u, _, rfl, fresh2 T hT2, fresh2 f hf, hu, nfu, nfr, nur, kl.one eT ntl, ef5, eu5, (by rw [List.length_take, List.length_drop, lO]; omega), fun z hz => okO z (List.mem_of_mem_drop (List.mem_of_mem_take hz))⟩)
        rcases hr2 with q | q
        · exact .inl q
        · exact .inr (fresh2 r2 q)
    · refine ⟨_, rfl, _, _, rfl, rfl, by show (0 : Int) < _; decide, c_ (eq_no (vint_ne c0) rfl ⟨_, rfl, iteF (iteF ?_)⟩)⟩
      refine ⟨_, rfl, _, _, rfl, rfl, by show (0 : Int) < _; decide, c_ (eq_no (vint_ne c0) rfl ⟨_, rfl, iteF ?_⟩)⟩
      by_cases c1 : c % 4 = 1
      · refine ⟨_, rfl, _, _, rfl, rfl, by show (0 : Int) < _; decide, c_ (eq_yes (vint c1) rfl ⟨_, rfl, iteT ?_⟩)⟩
        refine ⟨_, rfl, _, rfl, _, rfl, _, _, rfl, rfl, sz 5 (by decide), fun l hl5 => ?_⟩
        have kl : Kp [] H (upd H l (.lst [.int (-1), .int (((row.length - t : Nat) : Int) + 1), .non, .bl true, .str "1"])) := Kp.new hl5
        have hj : m < ([.int (-1), .int (((row.length - t : Nat) : Int) + 1), .non, .bl true, .str "1"] : List V).length := by show _ < 5; omega
        refine ⟨_, rfl, l, _, _, _, rfl, rfl, SqL.of upd_same, at_of (j := m) rfl (List.getElem?_eq_getElem hj), ?_⟩
        have hv2 : ([.int (-1), .int (((row.length - t : Nat) : Int) + 1), .non, .bl true, .str "1"] : List V)[m] ∈ ([.int (-1), .int (((row.length - t : Nat) : Int) + 1), .non, .bl true, .str "1"] : List V) := List.getElem_mem hj
        generalize ([.int (-1), .int (((row.length - t : Nat) : Int) + 1), .non, .bl true, .str "1"] : List V)[m] = bad at hv2 ⊢
        generalize upd H l (.lst [.int (-1), .int (((row.length - t : Nat) : Int) + 1), .non, .bl true, .str "1"]) = G0 at kl ⊢
        have hb : OutN K G0 0 ((Jo.after (s' - 1) t row).length : Int) bad := by
          simp only [List.mem_cons, List.not_mem_nil, or_false] at hv2
          rcases hv2 with rfl | rfl | rfl | rfl | rfl
          · exact .inr ⟨_, rfl, by omega⟩
          · exact .inr ⟨_, rfl, by omega⟩
          · exact .inl .non
          · exact .inl .bl
          · exact .inl .str
        refine ⟨x, r, o, s', _, _, 1, _, rfl, R.keep0 kl, .inr ⟨rfl, .inl ⟨hb, fun p1 G k1 h1 e1 => ?_⟩⟩⟩
        refine ⟨sz 1 (by decide), fun p2 h2 => eqD_tup1 (z := "count") (by decide +kernel) (SqT.of ?_) (SqT.of upd_same) (same _ ((kl.trans k1).trans (Kp.new h2)))⟩
        rw [upd_ne (ne_of_none e1 h2)]
        exact e1
      · refine ⟨_, rfl, _, _, rfl, rfl, by show (0 : Int) < _; decide, c_ (eq_no (vint_ne c1) rfl ⟨_, rfl, iteF ?_⟩)⟩
        refine ⟨_, rfl, d, _, rfl, dget (k := .inr "order") ed own_order, sz 1 (by decide), fun t1 h1 => ⟨sz 1 (by decide), fun l1 h2 => ?_⟩⟩
        have k1 : Kp [] H (upd H t1 (.tup [.str "hand"])) := Kp.new h1
        have k2 : Kp [] (upd H t1 (.tup [.str "hand"])) (upd (upd H t1 (.tup [.str "hand"])) l1 (.lst [.ref t1])) := Kp.new h2
        refine ⟨od, l1, _, _, rfl, rfl, (k1.trans k2) _ _ eo List.not_mem_nil, upd_same, sz _ (by rw [List.length_map, lO]; show _ + 1 ≤ _; omega), fun l2 h3 => ?_⟩
        have k3 : Kp [] H (upd (upd (upd H t1 (.tup [.str "hand"])) l1 (.lst [.ref t1])) l2 (.lst ((Jo.out (s' - 1) row).map V.str ++ [.ref t1]))) := (k1.trans k2).trans (Kp.new h3)
        have et : upd (upd (upd H t1 (.tup [.str "hand"])) l1 (.lst [.ref t1])) l2 (.lst ((Jo.out (s' - 1) row).map V.str ++ [.ref t1])) t1 = some (.tup [.str "hand"]) := (k2.trans (Kp.new h3)) _ _ upd_same List.not_mem_nil
        have el : upd (upd (upd H t1 (.tup [.str "hand"])) l1 (.lst [.ref t1])) l2 (.lst ((Jo.out (s' - 1) row).map V.str ++ [.ref t1])) l2 = some (.lst ((Jo.out (s' - 1) row).map V.str ++ [.ref t1])) := upd_same
        generalize upd (upd (upd H t1 (.tup [.str "hand"])) l1 (.lst [.ref t1])) l2 (.lst ((Jo.out (s' - 1) row).map V.str ++ [.ref t1])) = G1 at k3 et el ⊢
        have ed1 := k3 _ _ ed List.not_mem_nil
        have eo1 := k3 _ _ eo List.not_mem_nil
        have eh1 := k3 _ _ eh List.not_mem_nil
        have R1 := R.keep0 k3
        have ndt : t1 ≠ d := (ne_of_none ed h1).symm
        have ndr : r ≠ d := fun z => by rw [← z, R.lr] at ed; cases ed
        -- the count's step
        have put : ∀ (t' : Nat), Kp [d] G1 (upd G1 d (.dK (ownK rw1 od hl s' t'))) ∧ RingAt K (upd G1 d (.dK (ownK rw1 od hl s' t'))) x r o s' (Jo.after (s' - 1) t row) ((Jo.out (s' - 1) row).take t) ∧ upd G1 d (.dK (ownK rw1 od hl s' t')) hl = some (.lst hv) ∧ upd G1 d (.dK (ownK rw1 od hl s' t')) t1 = some (.tup [.str "hand"]) ∧
            Kp [x, o, d, hl] H (upd G1 d (.dK (ownK rw1 od hl s' t'))) ∧ ∀ p, upd G1 d (.dK (ownK rw1 od hl s' t')) p = none → H p = none := fun t' => by
          have kd : Kp [d] G1 (upd G1 d (.dK (ownK rw1 od hl s' t'))) := Kp.put (List.mem_singleton.mpr rfl)
          refine ⟨kd, R1.keep kd (fun z => ndx (List.mem_singleton.mp z).symm) (fun z => ndr (List.mem_singleton.mp z)) (fun z => ndo (List.mem_singleton.mp z).symm), kd.one eh1 ndl.symm, kd.one et ndt, (k3.mono (by simp)).trans (kd.mono (by simp)), fun p hp => ?_⟩
          refine k3.free (p := p) ?_ List.not_mem_nil
          by_cases z : p = d
          · rw [z, upd_same] at hp
            cases hp
          · rw [upd_ne z] at hp
            exact hp
        by_cases tl : t < row.length
        · obtain ⟨h, eh2, eo2⟩ := Jo.after_more (s' - 1) t row tl
          refine ⟨_, rfl, d, _, rfl, dget (k := .inr "at") ed1 own_at, l2, _, _, .str h, rfl, rfl, SqL.of el, at_of (j := t) rfl (by rw [List.getElem?_append_left (by rw [List.length_map, lO]; exact tl), List.getElem?_map, eo2]; rfl), ?_⟩
          have ev : V.int (if (((Jo.out (s' - 1) row).map V.str).length : Int) < (t : Int) + 1 then (((Jo.out (s' - 1) row).map V.str).length : Int) else (t : Int) + 1) = V.int ((t + 1 : Nat) : Int) := by
            rw [List.length_map, lO, if_neg (by omega)]
            rfl
          refine ⟨_, rfl, d, _, rfl, dget (k := .inr "at") ed1 own_at, _, _, rfl, rfl, _, rfl, d, _, rfl, dget (k := .inr "order") ed1 own_order, od, _, rfl, .inl (SqL.of eo1), _, _, rfl, _, rfl, d, _, rfl, dput (k := .inr "at") (kvs' := ownK rw1 od hl s' (t + 1)) ed1 (szl 5 (by decide)) ((congrArg (putK _ _) ev).trans own_put), ?_⟩
          obtain ⟨kd, R2, eh3, et2, k4, fr⟩ := put (t + 1)
          have ed2 : upd G1 d (.dK (ownK rw1 od hl s' (t + 1))) d = some (.dK (ownK rw1 od hl s' (t + 1))) := upd_same
          generalize upd G1 d (.dK (ownK rw1 od hl s' (t + 1))) = G2 at kd R2 eh3 et2 k4 fr ed2 ⊢
          have hne : Jo.after (s' - 1) t row ≠ [] := fun z => by rw [z] at la; simp at la; omega
          refine ⟨_, rfl, x, r, o, s', _, _, 0, _, rfl, R2, .inl ⟨rfl, .inr ⟨hne, fun h' rest' r2 G3 er k5 hr2 R3 => ?_⟩⟩⟩
          rw [eh2] at er
          obtain ⟨rfl, rfl⟩ := List.cons.inj er
          have et1 : (Jo.out (s' - 1) row).take (t + 1) = (Jo.out (s' - 1) row).take t ++ [h] := by rw [List.take_add_one, eo2]; rfl
          refine ⟨_, rfl, eqD_str (okO h (List.mem_of_getElem? eo2)) (k (t + 1) r2 hv G3 (by omega) (k4.trans (k5.mono (by simp))) (.inr (fr r2 hr2)) (by rw [et1]; exact R3) (k5 _ _ ed2 (by simp [ndx, ndo])) (k5 _ _ eh3 (by simp [nlx, nho])) (.inl rfl))⟩
        · have tE : t = row.length := by omega
          refine ⟨_, rfl, d, _, rfl, dget (k := .inr "at") ed1 own_at, l2, _, _, .ref t1, rfl, rfl, SqL.of el, at_of (j := t) rfl (by rw [List.getElem?_append_right (by rw [List.length_map, lO]; omega), List.length_map, lO, tE, Nat.sub_self]; rfl), ?_⟩
          have ev : V.int (if (((Jo.out (s' - 1) row).map V.str).length : Int) < (t : Int) + 1 then (((Jo.out (s' - 1) row).map V.str).length : Int) else (t : Int) + 1) = V.int ((t : Nat) : Int) := by
            rw [List.length_map, lO, if_pos (by omega), tE]
          refine ⟨_, rfl, d, _, rfl, dget (k := .inr "at") ed1 own_at, _, _, rfl, rfl, _, rfl, d, _, rfl, dget (k := .inr "order") ed1 own_order, od, _, rfl, .inl (SqL.of eo1), _, _, rfl, _, rfl, d, _, rfl, dput (k := .inr "at") (kvs' := ownK rw1 od hl s' t) ed1 (szl 5 (by decide)) ((congrArg (putK _ _) ev).trans own_put), ?_⟩
          obtain ⟨kd, R2, eh3, et2, k4, fr⟩ := put t
          have ed2 : upd G1 d (.dK (ownK rw1 od hl s' t)) d = some (.dK (ownK rw1 od hl s' t)) := upd_same
          generalize upd G1 d (.dK (ownK rw1 od hl s' t)) = G2 at kd R2 eh3 et2 k4 fr ed2 ⊢
          have h0 : Jo.after (s' - 1) t row = [] := List.eq_nil_of_length_eq_zero (by omega)
          refine ⟨_, rfl, x, r, o, s', _, _, 0, _, rfl, R2, .inl ⟨rfl, .inl ⟨h0, fun p1 G3 k5 h5 e5 => ?_⟩⟩⟩
          refine ⟨_, rfl, eqD_tup1 (z := "hand") (by decide +kernel) (SqT.of e5) (SqT.of (k5 _ _ et2 List.not_mem_nil)) (k t r hv G3 ht (k4.trans (k5.mono (by simp))) (.inl rfl) (R2.keep0 k5) (k5 _ _ ed2 List.not_mem_nil) (k5 _ _ eh3 List.not_mem_nil) (.inl rfl))⟩
end
end Lz
namespace Lz
open PySem PySem.Spec PyProof.Rows L2
abbrev s__law_next : Stmt := top 28
def spNext : Sp := fun vs H Q _ => ∃ st : Addr, vs = [.ref st] ∧ StAt H st ∧
  ∀ (H' : Hp) (r : Int), Drew st H H' → 0 ≤ r → r < 2147483648 → Q (.int r) H'
section
variable {P : Program} {w : World} {K : PySem.W.Frag} {mg : Str → Option Value} {base : Heap}
theorem sc__law_next : FnScope ["_law_state_here"] ["_law_state_here"] (defScope s__law_next) := ⟨rfl, rfl, rfl, by decide +kernel, rfl, by decide +kernel, by decide +kernel⟩
theorem ok__law_next {f : Addr} {fd : FuncData} (F : FnP K "_law_next" "_law_next" s__law_next [] f fd) (T : Txt K mg)  :
    FnOk P w K mg base CX0 1 f fd ["_law_state_here"] spNext := by
  have S := sc__law_next
  refine F.ok S (fun vs H Q E h => ?_) (fun cdv A outer s H vs Q E hr h => ?_)
  · obtain ⟨st, rfl, _⟩ := h
    rfl
  · obtain ⟨st, rfl, ⟨s, hs, h⟩, k⟩ := h
    refine ⟨_, PSs.nox (pss_cons (ps_asg (pe_op op_mod (pe_op op_add (pe_op op_mul (pe_ix ix_list (pv 0) pe_int (fun _ _ => rfl)) pe_int) pe_int) pe_int) (pg_sub (pv 0) pe_int set_list)) (pss_one (ps_ret (pe_op op_fdiv (pe_op op_mod (pe_op op_mul (pe_ix ix_list (pv 0) pe_int (fun _ _ => rfl)) (pe_ix ix_list (pv 0) pe_int (fun _ _ => rfl))) pe_int) pe_int)))), ?_⟩
    refine ⟨_, rfl, _, _, _, _, rfl, rfl, SqL.of h, rfl, _, _, rfl, rfl, .inr ⟨by decide, by decide⟩, _, _, rfl, rfl, _, _, rfl, rfl, (by show (0 : Int) < _; decide),
      _, rfl, _, _, _, 0, rfl, rfl, h, rfl, ?_⟩
    refine ⟨_, rfl, _, _, _, _, rfl, rfl, SqL.of upd_same, rfl, _, rfl, _, _, _, _, rfl, rfl, SqL.of upd_same, rfl, _, _, rfl, rfl, ?_, _, _, rfl, rfl, (by show (0 : Int) < _; decide),
      _, _, rfl, rfl, ⟨by decide, by decide⟩, ?_⟩
    · refine .inl ⟨?_, ?_⟩
      · show -(2 ^ 64) < (s * 48271 + 11) % 2147483647
        omega
      · show (s * 48271 + 11) % 2147483647 < 2 ^ 64
        omega
    · generalize (s * 48271 + 11) % 2147483647 * ((s * 48271 + 11) % 2147483647) = z
      refine k _ _ ⟨Kp.put (List.mem_singleton.mpr rfl), (s * 48271 + 11) % 2147483647, ⟨by omega, by omega⟩, upd_same⟩ ?_ ?_
      · show 0 ≤ z % 2147483629 / 7
        omega
      · show z % 2147483629 / 7 < 2147483648
        omega
end
end Lz
namespace Lz
open PySem PySem.Spec PyProof.Rows L2
abbrev s__law_of : Stmt := top 30
/-- one of the items of a list, one of the signs of a text -/
def spOf (K : PySem.W.Frag) : Sp := fun vs H Q _ => ∃ (st : Addr) (x : V), vs = [.ref st, x] ∧ StAt H st ∧
  ((∃ (p : Addr) (xs : List V), x = .ref p ∧ SqL K H p xs ∧ xs ≠ [] ∧ p ≠ st ∧ ∀ (H' : Hp) (v : V), v ∈ xs → Drew st H H' → Q v H') ∨
   (∃ z : Str, x = .str z ∧ 0 < z.length ∧ z.length ≤ 1000 ∧ ∀ (H' : Hp) (c : Nat), c ∈ z.cps.toList → Drew st H H' → Q (.str ⟨#[c]⟩) H'))
section
variable {P : Program} {w : World} {K : PySem.W.Frag} {mg : Str → Option Value} {base : Heap}
theorem sc__law_of : FnScope ["_law_state_here", "_law_some"] ["_law_state_here", "_law_some"] (defScope s__law_of) := ⟨rfl, rfl, rfl, by decide +kernel, rfl, by decide +kernel, by decide +kernel⟩
theorem ok__law_of {f : Addr} {fd : FuncData} (F : FnP K "_law_of" "_law_of" s__law_of [] f fd) (T : Txt K mg) (G__law_next : FnAt P w K mg base CX0 1 "_law_next" ["_law_state_here"] [] spNext) :
    FnOk P w K mg base CX0 2 f fd ["_law_state_here", "_law_some"] (spOf K) := by
  have S := sc__law_of
  refine F.ok S (fun vs H Q E h => ?_) (fun cdv A outer s H vs Q E hr h => ?_)
  · obtain ⟨st, x, rfl, _⟩ := h
    rfl
  · obtain ⟨st, x, rfl, hst, h⟩ := h
    refine ⟨_, PSs.nox (pss_one (ps_ret (pe_ix ix_seq (pv 1) (pe_op op_mod (pe_fn G__law_next (hr.mono (by decide)) pass0 (pa_cons (pv 0) pa_nil)) (pe_callB call_len (by rfl) T.b_len PySem.boot_len (pa_cons (pv 1) pa_nil))) (fun _ _ => rfl)))), ?_⟩
    refine ⟨_, rfl, _, rfl, st, rfl, hst, fun H1 r d r0 r1 => ?_⟩
    rcases h with ⟨p, xs, rfl, hS, hne, n, k⟩ | ⟨z, rfl, z0, z1, k⟩
    · have hl : 0 < xs.length := List.length_pos_iff.mpr hne
      refine ⟨_, rfl, _, xs.length, rfl, .inl ⟨_, d.lst hS n, rfl⟩, _, _, rfl, rfl, by omega, ?_⟩
      have m0 := Int.emod_nonneg r (show (xs.length : Int) ≠ 0 by omega)
      have m1 := Int.emod_lt_of_pos r (show 0 < (xs.length : Int) by omega)
      have hi : (r % (xs.length : Int)).toNat < xs.length := by omega
      exact .inl ⟨p, xs, _, _, rfl, rfl, d.lst hS n, at_of (j := (r % (xs.length : Int)).toNat) (by omega) (List.getElem?_eq_getElem hi), k _ _ (List.getElem_mem hi) d⟩
    · refine ⟨_, rfl, _, z.length, rfl, ⟨sz _ (by omega), rfl⟩, _, _, rfl, rfl, by omega, ?_⟩
      have m0 := Int.emod_nonneg r (show (z.length : Int) ≠ 0 by omega)
      have m1 := Int.emod_lt_of_pos r (show 0 < (z.length : Int) by omega)
      have hi : (r % (z.length : Int)).toNat < z.cps.toList.length := by
        show (r % (z.length : Int)).toNat < z.length
        omega
      have e : atI z.cps.toList (r % (z.length : Int)) = some z.cps.toList[(r % (z.length : Int)).toNat] := by
        have e1 : r % (z.length : Int) = (((r % (z.length : Int)).toNat : Nat) : Int) := by omega
        have e2 := atI_nat (List.getElem?_eq_getElem hi)
        rw [← e1] at e2
        exact e2
      exact .inr (.inr ⟨z, _, _, rfl, rfl, sz _ (by omega), e, k _ _ (List.getElem_mem hi) d⟩)
end
end Lz
namespace Lz
open PySem PySem.Spec PyProof.Rows L2
abbrev s__law_hands : Stmt := top 32
/-- signs of the hands' texts -/
def Good (z : Str) : Prop := ∀ c ∈ TL.tl z, c < 128 ∧ c ≠ 101
theorem Good.ok {z : Str} (h : Good z) : PyData.strOk z = true := ok_tl fun c hc => by have := (h c hc).1; omega
theorem Good.app {x y : Str} (hx : Good x) (hy : Good y) : Good (x ++ y) := fun c hc => by
  rw [tl_app] at hc
  rcases List.mem_append.mp hc with h | h
  · exact hx c h
  · exact hy c h
theorem num_good (n : Nat) : Good (numS n) := fun c hc => by
  rw [TL.tl_num] at hc
  have := TL.numL_digits n c hc
  omega
theorem join_tl : ∀ ys : List Str, TL.tl (Txt.join Str.empty ys) = (ys.map TL.tl).flatten
  | [] => by rw [TL.join_eq]; rfl
  | [y] => by rw [TL.join_eq, TL.tl_join]; simp [TL.joinL]
  | y :: z :: r => by
    have ih := join_tl (z :: r)
    rw [TL.join_eq, TL.tl_join] at ih ⊢
    show TL.tl y ++ (TL.tl Str.empty ++ TL.joinL (TL.tl Str.empty) ((z :: r).map TL.tl)) = _
    rw [ih]
    rfl
def nm (way : Nat) (base : Str) (k : Nat) : Str := if way = 0 then base ++ numS k else if way = 1 then numS k ++ base else Txt.mul "a" (k : Int) ++ base
theorem mul_a (k : Nat) : TL.tl (Txt.mul "a" (k : Int)) = List.replicate k 97 := tl_mul 97 k
theorem nm_inj {way : Nat} {base : Str} {i j : Nat} (h : nm way base i = nm way base j) : i = j := by
  unfold nm at h
  by_cases h0 : way = 0
  · rw [if_pos h0, if_pos h0] at h
    exact num_inj (app_inj h)
  · rw [if_neg h0, if_neg h0] at h
    by_cases h1 : way = 1
    · rw [if_pos h1, if_pos h1] at h
      exact num_inj (app_injR h)
    · rw [if_neg h1, if_neg h1] at h
      have e := congrArg TL.tl (app_injR h)
      rw [mul_a, mul_a] at e
      have := congrArg List.length e
      rw [List.length_replicate, List.length_replicate] at this
      exact this
theorem nm_good {way : Nat} {base : Str} (hb : Good base) (k : Nat) : Good (nm way base k) := by
  unfold nm
  split
  · exact hb.app (num_good k)
  · split
    · exact (num_good k).app hb
    · refine Good.app (fun c hc => ?_) hb
      rw [mul_a] at hc
      have := (List.mem_replicate.mp hc).2
      omega
def spHands (K : PySem.W.Frag) : Sp := fun vs H Q _ => ∃ (st : Addr) (n : Nat), vs = [.ref st, .int n] ∧ StAt H st ∧ 1 ≤ n ∧ n ≤ 200 ∧
  ∀ (p : Addr) (zs : List Str) (H' : Hp), zs.length = n → zs.Nodup → (∀ z ∈ zs, Good z) → Drew st H H' → H p = none → H' p = some (.lst (zs.map V.str)) → Q (.ref p) H'
section
variable {P : Program} {w : World} {K : PySem.W.Frag} {mg : Str → Option Value} {base : Heap}
theorem sc__law_hands : FnScope ["_law_state_here", "_law_many", "_law_way", "_law_base", "_law_k", "_law_found"] ["_law_state_here", "_law_many"] (defScope s__law_hands) := ⟨rfl, rfl, rfl, by decide +kernel, rfl, by decide +kernel, by decide +kernel⟩
theorem ok__law_hands {f : Addr} {fd : FuncData} (F : FnP K "_law_hands" "_law_hands" s__law_hands [] f fd) (T : Txt K mg) (G__law_next : FnAt P w K mg base CX0 1 "_law_next" ["_law_state_here"] [] spNext) (G__law_of : FnAt P w K mg base CX0 2 "_law_of" ["_law_state_here", "_law_some"] [] (spOf K)) :
    FnOk P w K mg base CX0 3 f fd ["_law_state_here", "_law_many"] (spHands K) := by
  have S := sc__law_hands
  refine F.ok S (fun vs H Q E h => ?_) (fun cdv A outer s H vs Q E hr h => ?_)
  · obtain ⟨st, n, rfl, _⟩ := h
    rfl
  · obtain ⟨st, n, rfl, hst, n1, n2, k⟩ := h
    refine ⟨_, PSs.nox (pss_cons (ps_set (i := 2) S.nd rfl (Or.inl rfl) (pe_op op_mod (pe_fn G__law_next (hr.mono (by decide)) pass0 (pa_cons (pv 0) pa_nil)) pe_int)) (pss_cons (ps_set (i := 3) S.nd rfl (Or.inl rfl) (pe_join pe_str (pe_lc (own := [("_law_k", 4)]) (g := gName 4) (by rfl) S.nd (pi_range1 (by rfl) T.b_range (pa_cons (pe_op op_mod (pe_fn G__law_next (hr.mono (by decide)) pass0 (pa_cons (pv 0) pa_nil)) pe_int) pa_nil)) (blkOk_by (own := [("_law_k", 4)]) (N := ["_law_state_here", "_law_many", "_law_way", "_law_base", "_law_k", "_law_found"]) (sc := defScope s__law_hands) (by decide +kernel)) (fun _ _ _ _ _ => pg_name (i := 4) S.nd rfl (Or.inl rfl)) (fun _ _ _ _ _ => pts_nil) (fun _ _ _ _ _ => (pe_fn G__law_of (hr.mono (by decide)) pass0 (pa_cons (pv 0) (pa_cons pe_str pa_nil))))))) (pss_cons (ps_set (i := 5) S.nd rfl (Or.inl rfl) (pe_lst pa_nil)) (pss_cons (ps_for PassesOwn.never rfl (pi_range1 (by rfl) T.b_range (pa_cons (pv 1) pa_nil)) (pg_name (i := 4) S.nd rfl (Or.inl rfl)) (pss_one (ps_expr (pe_bm PySem.F.plainAttrs_list PySem.F.slot_list_append PySem.F.type_list_append mt_append (pv 5) (pa_cons (pe_ix ix_list (pe_lst (pa_cons (pe_op op_add_str (pv 3) (pe_callTy call_str_int (by rfl) T.b_str (by decide +kernel) (pa_cons (pv 4) pa_nil))) (pa_cons (pe_op op_add_str (pe_callTy call_str_int (by rfl) T.b_str (by decide +kernel) (pa_cons (pv 4) pa_nil)) (pv 3)) (pa_cons (pe_op op_add_str (pe_op op_mulS pe_str (pv 4)) (pv 3)) pa_nil)))) (pv 2) (fun _ _ => rfl)) pa_nil))))) (pss_one (ps_ret (pe_stepL (pv 5) (pe_ix ix_list (pe_lst (pa_cons pe_int (pa_cons (pe_un un_neg pe_int) pa_nil))) (pe_op op_mod (pe_fn G__law_next (hr.mono (by decide)) pass0 (pa_cons (pv 0) pa_nil)) pe_int) (fun _ _ => rfl))))))))), ?_⟩
    refine ⟨_, rfl, st, rfl, hst, fun H1 r1 d1 _ _ => ?_⟩
    obtain ⟨w, ew⟩ := Int.eq_ofNat_of_zero_le (show 0 ≤ r1 % 3 by omega)
    have hw : w = 0 ∨ w = 1 ∨ w = 2 := by omega
    refine ⟨_, _, rfl, rfl, by show (0 : Int) < _; decide, set_eq (y := .int w) (congrArg V.int ew) ?_⟩
    -- base
    refine ⟨⟨_, rfl⟩, _, rfl, st, rfl, d1.2, fun H2 r2 d2 _ _ => ?_⟩
    refine ⟨_, _, rfl, rfl, by show (0 : Int) < _; decide, ?_⟩
    obtain ⟨m, em⟩ := Int.eq_ofNat_of_zero_le (show 0 ≤ r2 % 6 by omega)
    refine ⟨(m : Int), congrArg (fun z => [V.int z]) em, by omega, by omega, fun D hD => lc_range (lo := 0) (n := m)
      (fun i H' => Drew st H2 H' ∧ ∃ ys : List Str, H' D = some (.lst (ys.map V.str)) ∧ ys.length = i ∧ ∀ y ∈ ys, Good y ∧ y.length = 1) ⟨(Drew.refl d2.2).new hD, [], upd_same, rfl, fun y hy => absurd hy List.not_mem_nil⟩ ?_ ?_⟩
    · rintro i H' hi ⟨d3, ys, e3, l3, g3⟩
      refine ⟨rfl, tyes (iteT ?_)⟩
      refine ⟨_, rfl, st, _, rfl, d3.2, .inr ⟨"abcxyz 019", rfl, by decide, by decide, fun H4 c hc d4 => ?_⟩⟩
      have nD : D ≠ st := d2.2.fresh hD
      have e4 := d4.at e3 nD
      have gc : Good ⟨#[c]⟩ := fun x hx => by
        have ec : x = c := List.mem_singleton.mp hx
        have all : (("abcxyz 019" : Str).cps.toList).all (fun c => decide (c < 128) && decide (c ≠ 101)) = true := by decide +kernel
        have h := List.all_eq_true.mp all c hc
        rw [Bool.and_eq_true, decide_eq_true_eq, decide_eq_true_eq] at h
        rw [ec]
        exact h
      refine ⟨_, e4, szl _ (by rw [List.length_map]; omega), ?_, ys ++ [⟨#[c]⟩], by rw [List.map_append]; exact upd_same, by rw [List.length_append, l3]; rfl, fun y hy => ?_⟩
      · refine ⟨(d3.trans d4).1.late hD, (d4.2).keep (Kp.put (ws := [D]) (List.mem_singleton.mpr rfl)) fun q => nD (List.mem_singleton.mp q).symm⟩
      · rcases List.mem_append.mp hy with h | h
        · exact g3 y h
        · rw [List.mem_singleton.mp h]
          exact ⟨gc, rfl⟩
    rintro H3 ⟨d3, ys, e3, l3, g3⟩
    have sum : (ys.map (·.length)).sum ≤ ys.length := by
      have : ∀ zs : List Str, (∀ y ∈ zs, y.length = 1) → (zs.map (·.length)).sum = zs.length := by
        intro zs
        induction zs with
        | nil => intro _; rfl
        | cons z zs ih =>
          intro h
          rw [List.map_cons, List.sum_cons, h z (.head _), ih fun y hy => h y (.tail _ hy), List.length_cons]
          omega
      rw [this ys fun y hy => (g3 y hy).2]
      exact Nat.le_refl _
    refine ⟨Str.empty, D, ys, rfl, rfl, .inl (SqL.of e3), ?_, ?_⟩
    · show _ + ys.length * 0 ≤ _
      omega
    have gb : Good (Txt.join Str.empty ys) := fun c hc => by
      rw [join_tl] at hc
      obtain ⟨l, hl, hcl⟩ := List.mem_flatten.mp hc
      obtain ⟨y, hy, rfl⟩ := List.mem_map.mp hl
      exact (g3 y hy).1 c hcl
    have lb : (Txt.join Str.empty ys).length ≤ 5 := by
      rw [TL.len_tl, join_tl, List.length_flatten, List.map_map]
      have e : (ys.map (List.length ∘ TL.tl)) = ys.map (·.length) := List.map_congr_left fun y _ => (TL.len_tl y).symm
      rw [e]
      omega
    generalize Txt.join Str.empty ys = base at gb lb
    -- found
    refine ⟨Nat.zero_le _, fun f hf => ?_⟩
    have D1 := ((d1.trans d2).trans d3).new (o := .lst []) hf
    have nf : f ≠ st := d3.2.fresh hf
    refine ⟨_, rfl, (n : Int), rfl, by omega, by omega, for_range (lo := 0) (n := n)
      (fun i σ H' => ∃ v, σ = [some (.ref st), some (.int n), some (.int w), some (.str base), v, some (.ref f)] ∧ Drew st H3 H' ∧ H' f = some (.lst (((List.range i).map (nm w base)).map V.str)))
      ⟨_, rfl, (Drew.refl d3.2).new hf, upd_same⟩ ?_ ?_⟩
    · rintro i σ H' hi ⟨v, rfl, d4, e4⟩
      have ei : (0 : Int) + (i : Int) = ((i : Nat) : Int) := Int.zero_add _
      rw [ei]
      have ln := num_len (n := i) (by omega)
      have two : ∀ y : Str, y.length ≤ 1000 → ∀ z : Str, z.length ≤ 1000 → y.length + z.length ≤ sizeLine := fun y hy z hz => sz _ (by omega)
      have lm : (Txt.mul "a" (i : Int)).length ≤ 1000 := by
        rw [TL.len_tl, mul_a, List.length_replicate]
        omega
      refine ⟨_, rfl, .inl ⟨rfl, _, SqL.of e4⟩, ?_⟩
      refine ⟨_, rfl, _, rfl, _, rfl, log_num (by omega), _, _, rfl, rfl, two base (by omega) (numS i) (by omega), ?_⟩
      refine ⟨_, rfl, _, rfl, log_num (by omega), _, rfl, _, _, rfl, rfl, two (numS i) (by omega) base (by omega), ?_⟩
      refine ⟨_, rfl, "a", i, rfl, rfl, by omega, rfl, _, rfl, _, _, rfl, rfl, two _ lm _ (by omega), sz 3 (by decide), fun l hl => ?_⟩
      refine ⟨_, rfl, l, _, _, .str (nm w base i), rfl, rfl, SqL.of upd_same, at_of (j := w) rfl ?_, ?_⟩
      · rcases hw with rfl | rfl | rfl <;> rfl
      have nfl := ne_of_none e4 hl
      refine ⟨f, _, _, rfl, rfl, by rw [upd_ne nfl]; exact e4, szl _ (by rw [List.length_map, List.length_map, List.length_range]; omega), ?_⟩
      have d5 := d4.new (o := .lst [.str (base ++ numS i), .str (numS i ++ base), .str (Txt.mul "a" (i : Int) ++ base)]) hl
      refine ⟨_, rfl, ⟨d5.1.late hf, d5.2.keep (Kp.put (ws := [f]) (List.mem_singleton.mpr rfl)) fun q => nf (List.mem_singleton.mp q).symm⟩, ?_⟩
      rw [List.range_succ, List.map_append, List.map_append]
      exact upd_same
    · rintro σ H' ⟨v, rfl, d4, e4⟩
      refine ⟨_, rfl, f, rfl, _, rfl, sz 2 (by decide), fun l hl => ?_⟩
      have d5 := d4.new (o := .lst [.int 1, .int (-1)]) hl
      refine ⟨_, rfl, st, rfl, d5.2, fun H5 r5 d6 _ _ => ?_⟩
      have nl : l ≠ st := d4.2.fresh hl
      have el := d6.at (upd_same (H := H') (a := l) (o := .lst [.int 1, .int (-1)])) nl
      have ef := d6.at (show upd H' l (.lst [.int 1, .int (-1)]) f = some _ by rw [upd_ne (ne_of_none e4 hl)]; exact e4) nf
      have DD := ((d1.trans d2).trans d3).trans (d5.trans d6)
      obtain ⟨c, hc, ec⟩ : ∃ c : Int, (c = 1 ∨ c = -1) ∧ [V.int 1, V.int (-1)][(r5 % 2).toNat]? = some (.int c) := by
        rcases (show r5 % 2 = 0 ∨ r5 % 2 = 1 by omega) with q | q
        · exact ⟨1, .inl rfl, by rw [q]; rfl⟩
        · exact ⟨-1, .inr rfl, by rw [q]; rfl⟩
      refine ⟨_, _, rfl, rfl, by show (0 : Int) < _; decide, l, _, _, .int c, rfl, rfl, SqL.of el, at_of (j := (r5 % 2).toNat) (by omega) ec, c, rfl, _, c, rfl, hc, SqL.of ef, fun p hp => ?_⟩
      have hp0 : H p = none := DD.free hp
      have good : ∀ z ∈ (List.range n).map (nm w base), Good z := fun z hz => by
        obtain ⟨k, _, rfl⟩ := List.mem_map.mp hz
        exact nm_good gb k
      have nd : ((List.range n).map (nm w base)).Nodup := nodup_of _ n fun _ _ _ _ e => nm_inj e
      have len : ((List.range n).map (nm w base)).length = n := by rw [List.length_map, List.length_range]
      rcases hc with rfl | rfl
      · exact k p _ _ len nd good (DD.new hp) hp0 upd_same
      · refine k p ((List.range n).map (nm w base)).reverse _ (by rw [List.length_reverse]; exact len) ((List.reverse_perm _).nodup_iff.mpr nd) (fun z hz => good z (List.mem_reverse.mp hz)) (DD.new hp) hp0 ?_
        rw [List.map_reverse]
        exact upd_same
end
end Lz
namespace Lz
open PySem PySem.Spec PyProof.Rows L2
abbrev s__law_step : Stmt := top 35
def spStep (K : PySem.W.Frag) : Sp := fun vs H Q _ => ∃ (st : Addr) (m : Int), vs = [.ref st, .int m] ∧ StAt H st ∧ 12 ≤ m ∧
  ∀ (H' : Hp) (r : Int), Drew st H H' → 1 ≤ r → r ≤ m → Q (.int r) H'
section
variable {P : Program} {w : World} {K : PySem.W.Frag} {mg : Str → Option Value} {base : Heap}
theorem sc__law_step : FnScope ["_law_state_here", "_law_most"] ["_law_state_here", "_law_most"] (defScope s__law_step) := ⟨rfl, rfl, rfl, by decide +kernel, rfl, by decide +kernel, by decide +kernel⟩
theorem ok__law_step {f : Addr} {fd : FuncData} (F : FnP K "_law_step" "_law_step" s__law_step [] f fd) (T : Txt K mg) (G__law_of : FnAt P w K mg base CX0 2 "_law_of" ["_law_state_here", "_law_some"] [] (spOf K)) (G__law_next : FnAt P w K mg base CX0 1 "_law_next" ["_law_state_here"] [] spNext) :
    FnOk P w K mg base CX0 3 f fd ["_law_state_here", "_law_most"] (spStep K) := by
  have S := sc__law_step
  refine F.ok S (fun vs H Q E h => ?_) (fun cdv A outer s H vs Q E hr h => ?_)
  · obtain ⟨st, m, rfl, _⟩ := h
    rfl
  · obtain ⟨st, m, rfl, hst, hm, k⟩ := h
    refine ⟨_, PSs.nox (pss_one (ps_ret (pe_fn G__law_of (hr.mono (by decide)) pass0 (pa_cons (pv 0) (pa_cons (pe_lst (pa_cons pe_int (pa_cons pe_int (pa_cons pe_int (pa_cons (pe_op op_add pe_int (pe_op op_mod (pe_fn G__law_next (hr.mono (by decide)) pass0 (pa_cons (pv 0) pa_nil)) pe_int)) (pa_cons (pe_op op_add pe_int (pe_op op_mod (pe_fn G__law_next (hr.mono (by decide)) pass0 (pa_cons (pv 0) pa_nil)) (pv 1))) (pa_cons (pv 1) pa_nil))))))) pa_nil))))), ?_⟩
    refine ⟨_, rfl, _, rfl, st, rfl, hst, fun H1 r1 d1 a1 b1 => ?_⟩
    refine ⟨_, _, rfl, rfl, (by show (0 : Int) < _; decide), _, _, rfl, rfl, ?_⟩
    refine ⟨_, rfl, st, rfl, d1.2, fun H2 r2 d2 a2 b2 => ?_⟩
    refine ⟨_, rfl, _, _, rfl, rfl, by omega, _, _, rfl, rfl, _, rfl, sz 6 (by decide), fun p hp => ?_⟩
    obtain ⟨s2, ok2, e2⟩ := d2.2
    have ne : p ≠ st := fun q => by
      rw [q, e2] at hp
      cases hp
    refine ⟨st, _, rfl, StAt.new d2.2 hp, .inl ⟨p, _, rfl, SqL.of upd_same, by simp, ne, fun H' v hv d => ?_⟩⟩
    have D : Drew st H H' := ((d1.trans d2).new hp).trans d
    have q1 := Int.emod_nonneg r2 (show m ≠ 0 by omega)
    have q2 := Int.emod_lt_of_pos r2 (show 0 < m by omega)
    simp only [List.mem_cons, List.not_mem_nil, or_false] at hv
    rcases hv with rfl | rfl | rfl | rfl | rfl | rfl
    · exact k _ _ D (by omega) (by omega)
    · exact k _ _ D (by omega) (by omega)
    · exact k _ _ D (by omega) (by omega)
    · exact k _ _ D (by omega) (by omega)
    · exact k _ _ D (by omega) (by omega)
    · exact k _ _ D (by omega) (by omega)
end
end Lz
namespace Lz
open PySem PySem.Spec PyProof.Rows L2
abbrev s__law_far : Stmt := top 31
def spFar : Sp := fun vs H Q _ => ∃ (st : Addr) (m : Int), vs = [.ref st, .int m] ∧ StAt H st ∧ 0 < m ∧
  ∀ (H' : Hp) (r : Int), Drew st H H' → 0 ≤ r → r < m → Q (.int r) H'
section
variable {P : Program} {w : World} {K : PySem.W.Frag} {mg : Str → Option Value} {base : Heap}
theorem sc__law_far : FnScope ["_law_state_here", "_law_many", "_law_found", "_law_k"] ["_law_state_here", "_law_many"] (defScope s__law_far) := ⟨rfl, rfl, rfl, by decide +kernel, rfl, by decide +kernel, by decide +kernel⟩
theorem ok__law_far {f : Addr} {fd : FuncData} (F : FnP K "_law_far" "_law_far" s__law_far [] f fd) (T : Txt K mg) (G__law_next : FnAt P w K mg base CX0 1 "_law_next" ["_law_state_here"] [] spNext) :
    FnOk P w K mg base CX0 2 f fd ["_law_state_here", "_law_many"] spFar := by
  have S := sc__law_far
  refine F.ok S (fun vs H Q E h => ?_) (fun cdv A outer s H vs Q E hr h => ?_)
  · obtain ⟨st, m, rfl, _⟩ := h
    rfl
  · obtain ⟨st, m, rfl, hst, hm, k⟩ := h
    refine ⟨_, PSs.nox (pss_cons (ps_set (i := 2) S.nd rfl (Or.inl rfl) pe_int) (pss_cons (ps_for PassesOwn.never rfl (pi_range1 (by rfl) T.b_range (pa_cons pe_int pa_nil)) (pg_name (i := 3) S.nd rfl (Or.inl rfl)) (pss_one (ps_set (i := 2) S.nd rfl (Or.inl rfl) (pe_op op_add (pe_op op_mul (pv 2) (pe_op op_pow pe_int pe_int)) (pe_op op_mod (pe_fn G__law_next (hr.mono (by decide)) pass0 (pa_cons (pv 0) pa_nil)) (pe_op op_pow pe_int pe_int)))))) (pss_one (ps_ret (pe_op op_mod (pv 2) (pv 1)))))), ?_⟩
    refine ⟨7, rfl, by decide, by decide, for_range (lo := 0) (n := 7) (fun i σ H' => ∃ (v : Option V) (z : Int), σ = [some (.ref st), some (.int m), some (.int z), v] ∧ 0 ≤ z ∧ Drew st H H')
      ⟨none, 0, rfl, Int.le_refl 0, Drew.refl hst⟩ ?_ ?_⟩
    · rintro i σ H1 _ ⟨v, z, rfl, hz, d⟩
      have e9 : (10 : Int) ^ (9 : Int).toNat = 1000000000 := by decide
      refine ⟨_, rfl, _, _, rfl, rfl, ⟨by decide, by decide, by decide⟩, _, _, rfl, rfl, .inr ⟨by decide, by decide⟩, _, rfl, st, rfl, d.2, fun H2 r d2 r0 r1 => ?_⟩
      refine ⟨_, _, rfl, rfl, ⟨by decide, by decide, by decide⟩, _, _, rfl, rfl, by show (0 : Int) < 10 ^ (9 : Int).toNat; decide, _, _, rfl, rfl, ?_⟩
      refine ⟨_, _, rfl, ?_, d.trans d2⟩
      show 0 ≤ z * 10 ^ (9 : Int).toNat + r % 10 ^ (9 : Int).toNat
      rw [e9]
      omega
    · rintro σ H1 ⟨v, z, rfl, hz, d⟩
      refine ⟨_, rfl, _, rfl, _, _, rfl, rfl, hm, ?_⟩
      exact k _ _ d (Int.emod_nonneg z (by omega)) (Int.emod_lt_of_pos z hm)
end
end Lz
namespace Lz
open PySem PySem.Spec PyProof.Rows L2
abbrev s__law_out : Stmt := top 34
def spOut (K : PySem.W.Frag) : Sp := fun vs H Q _ => ∃ (p : Addr) (s : Int) (xs : List V), vs = [.ref p, .int s] ∧ SqL K H p xs ∧ 1 ≤ s ∧
  xs.all isS = true ∧ xs.length ≤ 1000 ∧
  ∀ (q : Addr) (H' : Hp), Kp [] H H' → H q = none → H' q = some (.lst (Jo.out (s.toNat - 1) xs)) → Q (.ref q) H'
/-- behind some rounds: who went stands at f, who is left at l -/
structure OutW (s : Int) (p f l : Addr) (xs : List V) (H : Hp) (m : Nat) (σ : L2.St) (H' : Hp) (v : Option V) (a r : List V) : Prop where
  sl : σ = [some (.ref p), some (.int s), some (.ref f), some (.ref l), v]
  kp : Kp [] H H'
  hf : H' f = some (.lst a)
  hl : H' l = some (.lst r)
  e : a ++ Jo.out (s.toNat - 1) r = Jo.out (s.toNat - 1) xs
  m : m = r.length
  fl : r.all isS = true
theorem outW_len {s : Int} {p f l : Addr} {xs : List V} {H H' : Hp} {m : Nat} {σ : L2.St} {v : Option V} {a r : List V} (h : OutW s p f l xs H m σ H' v a r) : a.length + r.length = xs.length := by
  have e := congrArg List.length h.e
  rw [List.length_append, Jo.out_length, Jo.out_length] at e
  exact e
section
variable {P : Program} {w : World} {K : PySem.W.Frag} {mg : Str → Option Value} {base : Heap}
theorem sc__law_out : FnScope ["_law_row", "_law_step_here", "_law_found", "_law_left", "_law_told"] ["_law_row", "_law_step_here"] (defScope s__law_out) := ⟨rfl, rfl, rfl, by decide +kernel, rfl, by decide +kernel, by decide +kernel⟩
theorem ok__law_out {f : Addr} {fd : FuncData} (F : FnP K "_law_out" "_law_out" s__law_out [] f fd) (T : Txt K mg)  :
    FnOk P w K mg base CX0 1 f fd ["_law_row", "_law_step_here"] (spOut K) := by
  have S := sc__law_out
  refine F.ok S (fun vs H Q E h => ?_) (fun cdv A outer s H vs Q E hr h => ?_)
  · obtain ⟨p, s, xs, rfl, _⟩ := h
    rfl
  · obtain ⟨p, s, xs, rfl, hS, hs, hfl, hlen, k⟩ := h
    refine ⟨_, PSs.nox (pss_cons (ps_set (i := 2) S.nd rfl (Or.inl rfl) (pe_lst pa_nil)) (pss_cons (ps_set (i := 3) S.nd rfl (Or.inl rfl) (pe_callTy call_list_of (by rfl) T.b_list (by decide +kernel) (pa_cons (pv 0) pa_nil))) (pss_cons (ps_while PassesOwn.never (pt_cmpR (op_neD hr.units) (pv 3) (pe_lst pa_nil) (nomark _)) (pss_cons (ps_set (i := 4) S.nd rfl (Or.inl rfl) (pv 1)) (C8.pss_cut (ps_if (pt_cmpR op_gt (pv 1) (pe_op op_mul pe_int (pe_callB call_len_seq (by rfl) T.b_len PySem.boot_len (pa_cons (pv 3) pa_nil))) (nomark _)) (pss_one (ps_set (i := 4) S.nd rfl (Or.inl rfl) (pe_op op_add (pe_op op_mod (pv 1) (pe_callB call_len_seq (by rfl) T.b_len PySem.boot_len (pa_cons (pv 3) pa_nil))) (pe_op op_mul pe_int (pe_callB call_len_seq (by rfl) T.b_len PySem.boot_len (pa_cons (pv 3) pa_nil)))))) pss_nil) (pss_cons (ps_while PassesOwn.never (pt_cmpR op_gt (pv 4) pe_int (nomark _)) (pss_cons (ps_expr (pe_bm PySem.F.plainAttrs_list PySem.F.slot_list_append PySem.F.type_list_append mt_append (pv 3) (pa_cons (pe_bm PySem.F.plainAttrs_list PySem.F.slot_list_pop PySem.F.type_list_pop mt_popAt (pv 3) (pa_cons pe_int pa_nil)) pa_nil))) (pss_one (ps_set (i := 4) S.nd rfl (Or.inl rfl) (pe_op op_sub (pv 4) pe_int))))) (pss_one (ps_expr (pe_bm PySem.F.plainAttrs_list PySem.F.slot_list_append PySem.F.type_list_append mt_append (pv 2) (pa_cons (pe_bm PySem.F.plainAttrs_list PySem.F.slot_list_pop PySem.F.type_list_pop mt_popAt (pv 3) (pa_cons pe_int pa_nil)) pa_nil)))))))) (pss_one (ps_ret (pv 2)))))), ?_⟩
    refine ⟨Nat.zero_le _, fun f hf => ?_⟩
    refine ⟨_, rfl, p, xs, rfl, .inl ((Kp.new (ws := []) hf).lst hS (by simp)), fun l hl => ?_⟩
    have nfl : f ≠ l := ne_of_none upd_same hl
    have hl0 : H l = none := (Kp.new (ws := []) (o := .lst []) hf).free hl (by simp)
    refine ⟨fun m σ H' => ∃ v a r, OutW s p f l xs H m σ H' v a r, ⟨_, none, [], xs, rfl, (Kp.new hf).trans (Kp.new hl), ?_, upd_same, rfl, rfl, hfl⟩, ?_⟩
    · rw [upd_ne nfl]
      exact upd_same
    rintro m σ H1 ⟨v, a, r, W⟩
    have wl := outW_len W
    obtain ⟨rfl, kp, h1, h2, e, rfl, fl⟩ := W
    refine ⟨_, rfl, Nat.zero_le _, fun z hz => ?_⟩
    have kz := kp.trans (Kp.new (o := .lst []) hz)
    have h1z : upd H1 z (.lst []) f = some (.lst a) := by rw [upd_ne (ne_of_none h1 hz)]; exact h1
    have h2z : upd H1 z (.lst []) l = some (.lst r) := by rw [upd_ne (ne_of_none h2 hz)]; exact h2
    refine neD_l (SqL.of h2z) (SqL.of upd_same) fl rfl ⟨_, rfl, ?_⟩
    generalize upd H1 z (.lst []) = H2 at kz h1z h2z ⊢
    by_cases hr0 : r = []
    · rw [decide_eq_true hr0]
      refine iteF ⟨_, rfl, ?_⟩
      refine k f H2 kz hf ?_
      rw [h1z, ← e, hr0, Jo.out_nil, List.append_nil]
    rw [decide_eq_false hr0]
    have hrl : 0 < r.length := List.length_pos_iff.mpr hr0
    refine iteT ⟨_, fun _ _ h => h, ?_⟩
    refine ⟨_, rfl, ?_⟩
    refine ⟨fun σ' H' => ∃ told : Int, σ' = [some (.ref p), some (.int s), some (.ref f), some (.ref l), some (.int told)] ∧ H' = H2 ∧ 1 ≤ told ∧
      (told.toNat - 1) % r.length = (s.toNat - 1) % r.length, ?_, ?_⟩
    · refine ⟨_, rfl, _, rfl, l, _, rfl, .inl (SqL.of h2z), _, _, rfl, rfl, .inl ⟨by decide, by decide⟩, _, _, rfl, rfl, _, rfl, ite2 (fun c => ?_) (fun c => ?_)⟩
      · refine ⟨_, rfl, _, rfl, l, _, rfl, .inl (SqL.of h2z), _, _, rfl, rfl, by show (0 : Int) < (r.length : Int); omega,
          _, rfl, l, _, rfl, .inl (SqL.of h2z), _, _, rfl, rfl, .inl ⟨by decide, by decide⟩, _, _, rfl, rfl, ?_⟩
        refine ⟨_, rfl, rfl, ?_, ?_⟩
        · have m0 := Int.emod_nonneg s (show (r.length : Int) ≠ 0 by omega)
          show 1 ≤ s % (r.length : Int) + 2 * (r.length : Int)
          omega
        · have e1 : (s % (r.length : Int) + 2 * (r.length : Int)).toNat = s.toNat % r.length + 2 * r.length := by
            rw [emod_nat r.length (by omega)]
            omega
          show ((s % (r.length : Int) + 2 * (r.length : Int)).toNat - 1) % r.length = _
          rw [e1, Jo.told_mod (by omega) hrl]
      · exact ⟨s, rfl, rfl, hs, rfl⟩
    rintro σ' H' ⟨told, rfl, rfl, ht1, ht2⟩
    refine ⟨fun m σ' H' => ∃ (told : Int) (c : List V), σ' = [some (.ref p), some (.int s), some (.ref f), some (.ref l), some (.int told)] ∧ m = told.toNat ∧ 1 ≤ told ∧
      c.length = r.length ∧ Jo.rotL c ((told.toNat - 1) % r.length) = Jo.rotL r ((s.toNat - 1) % r.length) ∧ Kp [] H H' ∧ H' f = some (.lst a) ∧ H' l = some (.lst c),
      ⟨_, told, r, rfl, rfl, ht1, rfl, by rw [ht2], kz, h1z, h2z⟩, ?_⟩
    rintro m σ' H3 ⟨told, c, rfl, rfl, ht1, hcl, hrot, k3, g1, g2⟩
    refine ⟨_, rfl, _, _, rfl, rfl, _, rfl, ite2 (fun ht => ?_) (fun ht => ?_)⟩
    · -- a hand more
      have ht : 1 < told := of_decide_eq_true ht
      obtain ⟨x, c', rfl⟩ : ∃ x c', c = x :: c' := by
        cases c with
        | nil =>
          rw [← hcl] at hrl
          exact absurd hrl (Nat.lt_irrefl 0)
        | cons x c' => exact ⟨x, c', rfl⟩
      have n1 : c'.length + 1 = r.length := hcl
      have n2 : ((x :: c').eraseIdx 0).length < sizeLine := szl c'.length (by omega)
      refine ⟨_, fun _ _ h => h, ?_⟩
      refine ⟨_, rfl, .inl ⟨rfl, _, SqL.of g2⟩, _, rfl, .inl ⟨rfl, _, SqL.of g2⟩, l, _, 0, 0, x, rfl, rfl, g2, by decide, by decide, seq0 x c', rfl, l, _, x, rfl, rfl, upd_same, n2, ?_⟩
      refine ⟨_, rfl, _, _, rfl, rfl, ?_⟩
      refine ⟨_, ?_, told - 1, c' ++ [x], rfl, rfl, by omega, ?_, ?_, ?_, ?_, ?_⟩
      · omega
      · rw [List.length_append]
        exact hcl
      · rw [← hrot, ← hcl]
        have e1 := Jo.rotL_more x c' ((told - 1).toNat - 1)
        have e2 : (told - 1).toNat - 1 + 1 = told.toNat - 1 := by omega
        rw [e2] at e1
        exact e1
      · exact (k3.late hl0).late hl0
      · rw [upd_ne nfl, upd_ne nfl]
        exact g1
      · exact upd_same
    · -- it is the told one
      have ht : ¬ 1 < told := of_decide_eq_false (by simpa using ht)
      have et : told = 1 := by omega
      subst et
      have e0 : ((1 : Int).toNat - 1) % r.length = 0 := Nat.zero_mod _
      rw [e0, Jo.rotL_zero] at hrot
      obtain ⟨x, c', rfl⟩ : ∃ x c', c = x :: c' := by
        cases c with
        | nil =>
          rw [← hcl] at hrl
          exact absurd hrl (Nat.lt_irrefl 0)
        | cons x c' => exact ⟨x, c', rfl⟩
      have n1 : c'.length + 1 = r.length := hcl
      refine ⟨_, rfl, .inl ⟨rfl, _, SqL.of g1⟩, _, rfl, .inl ⟨rfl, _, SqL.of g2⟩, l, _, 0, 0, x, rfl, rfl, g2, by decide, by decide, seq0 x c', rfl, f, a, x, rfl, rfl,
        by rw [upd_ne nfl]; exact g1, szl _ (by omega), ?_⟩
      have e3 := Jo.out_step (t := s.toNat - 1) hrot.symm
      refine ⟨c'.length, by omega, _, a ++ [x], c', rfl, (k3.late hl0).late hf, upd_same, ?_, ?_, rfl, ?_⟩
      · rw [upd_ne nfl.symm]
        exact upd_same
      · rw [List.append_assoc, ← e, e3]
        rfl
      · have q : (x :: c').all isS = true := by
          rw [List.all_eq_true] at fl ⊢
          intro y hy
          rw [hrot] at hy
          exact fl y ((Jo.rotL_perm r _).mem_iff.mp hy)
        rw [List.all_cons, Bool.and_eq_true] at q
        exact q.2
end
end Lz
namespace Lz
open PySem PySem.Spec PyProof.Rows L2
abbrev s_is_ring : Stmt := top 19
def spIsRing (K : PySem.W.Frag) : Sp := fun vs H Q _ => ∃ x, vs = [x] ∧ ((∃ zs, RowV H x zs ∧ zs.Nodup ∧ ∀ H', Kp [] H H' → Q (.bl true) H') ∨ (OddV K H x ∧ ∀ H', Kp [] H H' → Q (.bl false) H'))
section
variable {P : Program} {w : World} {K : PySem.W.Frag} {mg : Str → Option Value} {base : Heap}
theorem sc_is_ring : FnScope ["thing", "hand"] ["thing"] (defScope s_is_ring) := ⟨rfl, rfl, rfl, by decide +kernel, rfl, by decide +kernel, by decide +kernel⟩
theorem ok_is_ring {f : Addr} {fd : FuncData} (F : FnP K "is_ring" "is_ring" s_is_ring [] f fd) (T : Txt K mg)  :
    FnOk P w K mg base CX0 1 f fd ["thing"] (spIsRing K) := by
  have S := sc_is_ring
  refine F.ok S (fun vs H Q E h => ?_) (fun cdv A outer s H vs Q E hr h => ?_)
  · obtain ⟨x, rfl, _⟩ := h
    rfl
  · obtain ⟨x, rfl, h⟩ := h
    refine ⟨_, PSs.nox (pss_cons (ps_if (PW.pt (pw_or (pt_not (pt_val (pe_callB call_isi (by rfl) T.b_isinstance (by decide +kernel) (pa_cons (pv 0) (pa_cons (pe_bltn (v := .ty "list") (by rfl) T.b_list (by decide +kernel) rfl) pa_nil))))) (pw_or1 (pt_not (pt_chain op_le op_le pe_int (pe_callB call_len_seq (by rfl) T.b_len PySem.boot_len (pa_cons (pv 0) pa_nil)) (pe_gint T.c_MOST_HANDS)))))) (pss_one (ps_ret pe_bl)) pss_nil) (pss_cons (ps_if (pt_not (pt_val (pe_callB (cr_all rfl) (by rfl) T.b_all (by decide +kernel) (pa_cons (pe_lc (own := [("hand", 1)]) (g := gName 1) (by rfl) S.nd (pi_list (pv 0)) (blkOk_by (own := [("hand", 1)]) (N := ["thing", "hand"]) (sc := defScope s_is_ring) (by decide +kernel)) (fun _ _ _ _ _ => pg_name (i := 1) S.nd rfl (Or.inl rfl)) (fun _ _ _ _ _ => pts_nil) (fun _ _ _ _ _ => (pe_callB (isiK (K := K)) (by rfl) T.b_isinstance (by decide +kernel) (pa_cons (pv 1) (pa_cons (pe_bltn (v := .ty "str") (by rfl) T.b_str (by decide +kernel) rfl) pa_nil))))) pa_nil)))) (pss_one (ps_ret pe_bl)) pss_nil) (pss_one (ps_ret (pe_cmpR op_eq (pe_callB (call_lenT (P := P) (w := w)) (by rfl) T.b_len PySem.boot_len (pa_cons (pe_callTy (cr_setT (P := P) (w := w) (K := K) rfl) (by rfl) T.b_set (by decide +kernel) (pa_cons (pv 0) pa_nil)) pa_nil)) (pe_callB call_len_seq (by rfl) T.b_len PySem.boot_len (pa_cons (pv 0) pa_nil)) (nomark _)))))), ?_⟩
    have hv0 : ∀ zs : List Str, ∀ v ∈ zs.map V.str, isT v = true ∨ NotTxt K H v := fun zs v hv => .inl (List.all_eq_true.mp (isT_map zs) v hv)
    have h3 : (∃ (p : Addr) (xs : List V), x = .ref p ∧ H p = some (.lst xs) ∧ 1 ≤ xs.length ∧ xs.length ≤ 200 ∧ (∀ v ∈ xs, isT v = true ∨ NotTxt K H v) ∧
          ((xs.all isT = false ∧ ∀ H', Kp [] H H' → Q (.bl false) H') ∨ ∃ zs : List Str, xs = zs.map V.str ∧ ((zs.Nodup ∧ ∀ H', Kp [] H H' → Q (.bl true) H') ∨ (¬ zs.Nodup ∧ ∀ H', Kp [] H H' → Q (.bl false) H')))) ∨
        ((∃ t : String, (∀ H', Kp [] H H' → TyX K H' x (.type t)) ∧ t ∈ ["NoneType", "bool", "int", "str", "tuple", "dict"]) ∧ ∀ H', Kp [] H H' → Q (.bl false) H') ∨
        (∃ (p : Addr) (xs : List V), x = .ref p ∧ H p = some (.lst xs) ∧ ¬ (1 ≤ xs.length ∧ xs.length ≤ 200) ∧ ∀ H', Kp [] H H' → Q (.bl false) H') := by
      rcases h with ⟨zs, ⟨p, hx, e, l1, l2⟩, hn, k⟩ | ⟨h | ⟨p, xs, hx, e, h⟩ | ⟨zs, ⟨p, hx, e, l1, l2⟩, hn⟩, k⟩
      · exact .inl ⟨p, _, hx, e, by rw [List.length_map]; exact l1, by rw [List.length_map]; exact l2, hv0 zs, .inr ⟨zs, rfl, .inl ⟨hn, k⟩⟩⟩
      · exact .inr (.inl ⟨h, k⟩)
      · by_cases l : 1 ≤ xs.length ∧ xs.length ≤ 200
        · rcases h with h | h | ⟨h1, h2⟩
          · omega
          · omega
          · exact .inl ⟨p, xs, hx, e, l.1, l.2, h2, .inl ⟨h1, k⟩⟩
        · exact .inr (.inr ⟨p, xs, hx, e, l, k⟩)
      · exact .inl ⟨p, _, hx, e, by rw [List.length_map]; exact l1, by rw [List.length_map]; exact l2, hv0 zs, .inr ⟨zs, rfl, .inr ⟨hn, k⟩⟩⟩
    rcases h3 with ⟨p, xs, hx, e, l1, l2, hv, hk⟩ | ⟨⟨t, ty, hm⟩, k⟩ | ⟨p, xs, hx, e, l, k⟩
    · subst hx
      refine ⟨_, rfl, _, _, _, _, true, rfl, .ty _, .base (.lst e), kit_ty (by decide +kernel), _, rfl, iteF ?_⟩
      refine ⟨_, rfl, p, xs, rfl, .inl (SqL.of e), _, _, rfl, rfl, _, rfl, ?_⟩
      rw [decide_eq_true (show (1 : Int) ≤ (xs.length : Int) by omega)]
      refine iteT ⟨_, _, rfl, rfl, _, rfl, ?_⟩
      rw [decide_eq_true (show (xs.length : Int) ≤ 200 by omega)]
      refine iteF ?_
      refine ⟨_, rfl, p, rfl, ⟨_, SqL.of e⟩, fun D hD => lc_list (K := K) (a := p) (xs := xs) (fun i H' => Kp [] H H' ∧ H' D = some (.lst (((xs.take i).map isT).map V.bl)))
        ⟨Kp.new hD, upd_same⟩ (fun _ _ _ ⟨k, _⟩ => SqL.of (k _ _ e List.not_mem_nil)) ?_ ?_⟩
      · rintro i v H' hi ⟨k, eD⟩
        refine ⟨rfl, tyes (iteT ?_)⟩
        have hlt : i < xs.length := (List.getElem?_eq_some_iff.mp hi).1
        have et : xs.take (i + 1) = xs.take i ++ [v] := by rw [List.take_add_one, hi]; rfl
        have lt : (((xs.take i).map isT).map V.bl).length < sizeLine := szl _ (by rw [List.length_map, List.length_map, List.length_take]; omega)
        have put : ∀ b, isT v = b → upd H' D (.lst ((((xs.take i).map isT).map V.bl) ++ [.bl b])) D = some (.lst (((xs.take (i + 1)).map isT).map V.bl)) := fun b q => by
          rw [et, List.map_append, List.map_append, List.map_singleton, List.map_singleton, q]
          exact upd_same
        cases ht : isT v with
        | true =>
          cases v with
          | str z => exact ⟨_, rfl, _, _, _, _, true, rfl, .ty _, .base (.str z), kit_ty (by decide +kernel), _, eD, lt, k.late hD, put true ht⟩
          | _ => cases ht
        | false =>
          rcases hv v (List.mem_of_getElem? hi) with q | ⟨t, q, hm⟩
          · rw [q] at ht
            cases ht
          · have ty := q H' k
            simp only [List.mem_cons, List.not_mem_nil, or_false] at hm
            rcases hm with rfl | rfl | rfl | rfl | rfl | rfl
            · exact ⟨_, rfl, _, _, _, _, false, rfl, .ty _, ty, kit_ty (by decide +kernel), _, eD, lt, k.late hD, put false ht⟩
            · exact ⟨_, rfl, _, _, _, _, false, rfl, .ty _, ty, kit_ty (by decide +kernel), _, eD, lt, k.late hD, put false ht⟩
            · exact ⟨_, rfl, _, _, _, _, false, rfl, .ty _, ty, kit_ty (by decide +kernel), _, eD, lt, k.late hD, put false ht⟩
            · exact ⟨_, rfl, _, _, _, _, false, rfl, .ty _, ty, kit_ty (by decide +kernel), _, eD, lt, k.late hD, put false ht⟩
            · exact ⟨_, rfl, _, _, _, _, false, rfl, .ty _, ty, kit_ty (by decide +kernel), _, eD, lt, k.late hD, put false ht⟩
            · exact ⟨_, rfl, _, _, _, _, false, rfl, .ty _, ty, kit_ty (by decide +kernel), _, eD, lt, k.late hD, put false ht⟩
      · rintro H' ⟨k, eD⟩
        rw [List.take_of_length_le (Nat.le_refl _)] at eD
        refine ⟨D, _, rfl, SqL.of eD, _, rfl, ?_⟩
        rcases hk with ⟨ha, hQ⟩ | ⟨zs, rfl, hk⟩
        · have ea : (xs.map isT).all id = false := by rw [List.all_map]; exact ha
          rw [ea]
          exact iteT (hQ _ k)
        · have ea : ((zs.map V.str).map isT).all id = true := by rw [List.all_map]; exact isT_map zs
          rw [ea]
          rw [List.length_map] at l1 l2
          refine iteF ⟨_, rfl, p, zs, rfl, SqL.of (k _ _ e List.not_mem_nil), by omega, fun q hq => ?_⟩
          have e2 : upd H' q (SetT P w q zs) p = some (.lst (zs.map V.str)) := by
            have e1 := k _ _ e List.not_mem_nil
            rw [upd_ne (ne_of_none e1 hq)]
            exact e1
          refine ⟨q, zs, rfl, upd_same, by omega, _, rfl, p, _, rfl, .inl (SqL.of e2), ?_⟩
          have de := difs_all (xs := zs) zs.length (Nat.le_refl _)
          rw [List.take_of_length_le (Nat.le_refl _)] at de
          rw [List.length_map]
          rcases hk with ⟨hn, hQ⟩ | ⟨hn, hQ⟩
          · exact eq_yes (vnat (de.mpr hn)) rfl (hQ _ (k.trans (Kp.new hq)))
          · exact eq_no (vnat_ne fun q => hn (de.mp q)) rfl (hQ _ (k.trans (Kp.new hq)))
    · have ty := ty H (Kp.refl H)
      simp only [List.mem_cons, List.not_mem_nil, or_false] at hm
      rcases hm with rfl | rfl | rfl | rfl | rfl | rfl
      · exact ⟨_, rfl, _, _, _, _, false, rfl, .ty _, ty, kit_ty (by decide +kernel), _, rfl, iteT (iteT (k H (Kp.refl H)))⟩
      · exact ⟨_, rfl, _, _, _, _, false, rfl, .ty _, ty, kit_ty (by decide +kernel), _, rfl, iteT (iteT (k H (Kp.refl H)))⟩
      · exact ⟨_, rfl, _, _, _, _, false, rfl, .ty _, ty, kit_ty (by decide +kernel), _, rfl, iteT (iteT (k H (Kp.refl H)))⟩
      · exact ⟨_, rfl, _, _, _, _, false, rfl, .ty _, ty, kit_ty (by decide +kernel), _, rfl, iteT (iteT (k H (Kp.refl H)))⟩
      · exact ⟨_, rfl, _, _, _, _, false, rfl, .ty _, ty, kit_ty (by decide +kernel), _, rfl, iteT (iteT (k H (Kp.refl H)))⟩
      · exact ⟨_, rfl, _, _, _, _, false, rfl, .ty _, ty, kit_ty (by decide +kernel), _, rfl, iteT (iteT (k H (Kp.refl H)))⟩
    · subst hx
      refine ⟨_, rfl, _, _, _, _, true, rfl, .ty _, .base (.lst e), kit_ty (by decide +kernel), _, rfl, iteF ?_⟩
      refine ⟨_, rfl, p, xs, rfl, .inl (SqL.of e), _, _, rfl, rfl, _, rfl, ?_⟩
      by_cases l1 : 1 ≤ xs.length
      · rw [decide_eq_true (show (1 : Int) ≤ (xs.length : Int) by omega)]
        refine iteT ⟨_, _, rfl, rfl, _, rfl, ?_⟩
        rw [decide_eq_false (show ¬ (xs.length : Int) ≤ 200 by omega)]
        exact iteT (k H (Kp.refl H))
      · rw [decide_eq_false (show ¬ (1 : Int) ≤ (xs.length : Int) by omega)]
        exact iteF ⟨_, rfl, iteT (k H (Kp.refl H))⟩
end
end Lz
namespace Lz
open PySem PySem.Spec PyProof.Rows L2
abbrev s_need_ring : Stmt := top 20
/-- a row of hands, a step and a beginning, looked at from the left -/
def Made (K : PySem.W.Frag) (H : Hp) (E : XK) (x y z : V) (k : List Str → Nat → Nat → Prop) : Prop :=
  (OddV K H x ∧ ∀ H', Kp [] H H' → E (.ref (cNoRing K)) none H') ∨ ∃ zs, RowV H x zs ∧ zs.Nodup ∧
  ((OutK K H 1 (10 ^ 60) y ∧ ∀ H', Kp [] H H' → E (.ref (cNoStep K)) none H') ∨ ∃ s : Nat, y = .int s ∧ 1 ≤ s ∧ (s : Int) ≤ 10 ^ 60 ∧
  ((OutK K H 0 ((zs.length : Int) - 1) z ∧ ∀ H', Kp [] H H' → E (.ref (cNoPlace K)) none H') ∨ ∃ b : Nat, z = .int b ∧ b < zs.length ∧ k zs s b))
def spNeedRing (K : PySem.W.Frag) : Sp := fun vs H Q E => ∃ x, vs = [x] ∧ ((∃ zs, RowV H x zs ∧ zs.Nodup ∧ ∀ H', Kp [] H H' → Q .non H') ∨ (OddV K H x ∧ ∀ H', Kp [] H H' → E (.ref (cNoRing K)) none H'))
section
variable {P : Program} {w : World} {K : PySem.W.Frag} {mg : Str → Option Value} {base : Heap}
theorem sc_need_ring : FnScope ["thing"] ["thing"] (defScope s_need_ring) := ⟨rfl, rfl, rfl, by decide +kernel, rfl, by decide +kernel, by decide +kernel⟩
theorem ok_need_ring {f : Addr} {fd : FuncData} (F : FnP K "need_ring" "need_ring" s_need_ring [] f fd) (T : Txt K mg) (G_is_ring : FnAt P w K mg base CX0 1 "is_ring" ["thing"] [] (spIsRing K)) :
    FnOk P w K mg base (CXr P w) 2 f fd ["thing"] (spNeedRing K) := by
  have S := sc_need_ring
  refine F.ok S (fun vs H Q E h => ?_) (fun cdv A outer s H vs Q E hr h => ?_)
  · obtain ⟨x, rfl, _⟩ := h
    rfl
  · obtain ⟨x, rfl, h⟩ := h
    refine ⟨_, (pss_one (ps_if (pt_not (pt_val (pe_fn G_is_ring (hr.mono (by decide)) pass0 (pa_cons (pv 0) pa_nil)))) (pss_one (ps_raise rfl (takes_of rfl rfl rfl rfl) (pmk_t T.x_NoRing T.g_NoRing))) pss_nil)), ?_⟩
    rcases h with ⟨zs, hr2, hn, k⟩ | ⟨h, k⟩
    · exact ⟨_, rfl, _, rfl, .inl ⟨zs, hr2, hn, fun H' k' => ⟨_, rfl, iteF (k H' k')⟩⟩⟩
    · exact ⟨_, rfl, _, rfl, .inr ⟨h, fun H' k' => ⟨_, rfl, iteT (k H' k')⟩⟩⟩
end
end Lz
namespace Lz
open PySem PySem.Spec PyProof.Rows L2
abbrev s_need_step : Stmt := top 14
section
variable {P : Program} {w : World} {K : PySem.W.Frag} {mg : Str → Option Value} {base : Heap}
theorem sc_need_step : FnScope ["step", "most"] ["step", "most"] (defScope s_need_step) := ⟨rfl, rfl, rfl, by decide +kernel, rfl, by decide +kernel, by decide +kernel⟩
theorem ok_need_step {f : Addr} {fd : FuncData} (F : FnP K "need_step" "need_step" s_need_step [] f fd) (T : Txt K mg) (G_is_number : FnAt P w K mg base CX0 1 "is_number" ["thing"] [] (spIsNum K)) :
    FnOk P w K mg base (CXr P w) 2 f fd ["step", "most"] (spNeed K (cNoStep K) 1) := by
  have S := sc_need_step
  refine F.ok S (fun vs H Q E h => ?_) (fun cdv A outer s H vs Q E hr h => ?_)
  · obtain ⟨x, m, rfl, _⟩ := h
    rfl
  · obtain ⟨x, m, rfl, h⟩ := h
    refine ⟨_, (pss_one (ps_if (PW.pt (pw_or (pt_not (pt_val (pe_fn G_is_number (hr.mono (by decide)) pass0 (pa_cons (pv 0) pa_nil)))) (pw_or1 (pt_not (pt_chain op_le op_le pe_int (pv 0) (pv 1)))))) (pss_one (ps_raise rfl (takes_of rfl rfl rfl rfl) (pmk_t T.x_NoStep T.g_NoStep))) pss_nil)), ?_⟩
    rcases h with ⟨i, rfl, h1, h2, k⟩ | ⟨⟨hn⟩ | ⟨i, rfl, hn⟩, k⟩
    · refine ⟨_, rfl, _, rfl, .inl ⟨i, rfl, _, rfl, iteF ?_⟩⟩
      refine ⟨_, rfl, _, _, rfl, rfl, _, rfl, ?_⟩
      rw [decide_eq_true h1]
      refine iteT ⟨_, rfl, _, _, rfl, rfl, _, rfl, ?_⟩
      rw [decide_eq_true h2]
      exact iteF k
    · exact ⟨_, rfl, _, rfl, .inr ⟨‹_›, _, rfl, iteT (iteT k)⟩⟩
    · refine ⟨_, rfl, _, rfl, .inl ⟨i, rfl, _, rfl, iteF ?_⟩⟩
      refine ⟨_, rfl, _, _, rfl, rfl, _, rfl, ?_⟩
      by_cases h1 : 1 ≤ i
      · rw [decide_eq_true h1]
        refine iteT ⟨_, rfl, _, _, rfl, rfl, _, rfl, ?_⟩
        rw [decide_eq_false (by omega)]
        exact iteT k
      · rw [decide_eq_false h1]
        exact iteF ⟨_, rfl, iteT k⟩
end
end Lz
namespace Lz
open PySem PySem.Spec PyProof.Rows L2
abbrev s_need_place : Stmt := top 15
def spPlace (K : PySem.W.Frag) : Sp := fun vs H Q E => ∃ x m, vs = [.int m, x] ∧
  ((∃ i, x = .int i ∧ 0 ≤ i ∧ i < m ∧ Q .non H) ∨ (OutN K H 0 (m - 1) x ∧ E (.ref (cNoPlace K)) none H))
section
variable {P : Program} {w : World} {K : PySem.W.Frag} {mg : Str → Option Value} {base : Heap}
theorem sc_need_place : FnScope ["many", "place"] ["many", "place"] (defScope s_need_place) := ⟨rfl, rfl, rfl, by decide +kernel, rfl, by decide +kernel, by decide +kernel⟩
theorem ok_need_place {f : Addr} {fd : FuncData} (F : FnP K "need_place" "need_place" s_need_place [] f fd) (T : Txt K mg) (G_is_number : FnAt P w K mg base CX0 1 "is_number" ["thing"] [] (spIsNum K)) :
    FnOk P w K mg base (CXr P w) 2 f fd ["many", "place"] (spPlace K) := by
  have S := sc_need_place
  refine F.ok S (fun vs H Q E h => ?_) (fun cdv A outer s H vs Q E hr h => ?_)
  · obtain ⟨x, m, rfl, _⟩ := h
    rfl
  · obtain ⟨x, m, rfl, h⟩ := h
    refine ⟨_, (pss_one (ps_if (PW.pt (pw_or (pt_not (pt_val (pe_fn G_is_number (hr.mono (by decide)) pass0 (pa_cons (pv 1) pa_nil)))) (pw_or1 (pt_not (pt_chain op_le op_lt pe_int (pv 1) (pv 0)))))) (pss_one (ps_raise rfl (takes_of rfl rfl rfl rfl) (pmk_t T.x_NoPlace T.g_NoPlace))) pss_nil)), ?_⟩
    rcases h with ⟨i, rfl, h1, h2, k⟩ | ⟨⟨hn⟩ | ⟨i, rfl, hn⟩, k⟩
    · refine ⟨_, rfl, _, rfl, .inl ⟨i, rfl, _, rfl, iteF ?_⟩⟩
      refine ⟨_, rfl, _, _, rfl, rfl, _, rfl, ?_⟩
      rw [decide_eq_true h1]
      refine iteT ⟨_, rfl, _, _, rfl, rfl, _, rfl, ?_⟩
      rw [decide_eq_true h2]
      exact iteF k
    · exact ⟨_, rfl, _, rfl, .inr ⟨‹_›, _, rfl, iteT (iteT k)⟩⟩
    · refine ⟨_, rfl, _, rfl, .inl ⟨i, rfl, _, rfl, iteF ?_⟩⟩
      refine ⟨_, rfl, _, _, rfl, rfl, _, rfl, ?_⟩
      by_cases h1 : 0 ≤ i
      · rw [decide_eq_true h1]
        refine iteT ⟨_, rfl, _, _, rfl, rfl, _, rfl, ?_⟩
        rw [decide_eq_false (by omega)]
        exact iteT k
      · rw [decide_eq_false h1]
        exact iteF ⟨_, rfl, iteT k⟩
end
end Lz
namespace Lz
open PySem PySem.Spec PyProof.Rows L2
abbrev s_Ring___init__ : Stmt := inClass (top 25) 0
def spInit (K : PySem.W.Frag) : Sp := fun vs H Q E => ∃ (a dx : Addr) (x y z : V), vs = [.ref a, x, y, z] ∧ H a = some (.ins (cRing K) dx []) ∧ Made K H E x y z fun zs s b =>
  ∀ (r o : Addr) (H' : Hp), Kp [a] H H' → H r = none → H o = none → RingAt K H' a r o s (Jo.rotL zs b) [] → Q .non H'
section
variable {P : Program} {w : World} {K : PySem.W.Frag} {mg : Str → Option Value} {base : Heap}
theorem sc_Ring___init__ : FnScope ["self", "hands", "step", "begin"] ["self", "hands", "step", "begin"] (defScope s_Ring___init__) := ⟨rfl, rfl, rfl, by decide +kernel, rfl, by decide +kernel, by decide +kernel⟩
theorem ok_Ring___init__ {f : Addr} {fd : FuncData} (F : FnP K "__init__" "Ring.__init__" s_Ring___init__ [V.int (0)] f fd) (T : Txt K mg) (G_need_ring : FnAt P w K mg base (CXr P w) 2 "need_ring" ["thing"] [] (spNeedRing K)) (G_need_step : FnAt P w K mg base (CXr P w) 2 "need_step" ["step", "most"] [] (spNeed K (cNoStep K) 1)) (G_need_place : FnAt P w K mg base (CXr P w) 2 "need_place" ["many", "place"] [] (spPlace K)) (G_from_place : FnAt P w K mg base CX0 1 "from_place" ["hands", "place"] [] (spFrom K)) :
    FnOk P w K mg base (CXr P w) 3 f fd ["self", "hands", "step", "begin"] (spInit K) := by
  have S := sc_Ring___init__
  refine F.ok S (fun vs H Q E h => ?_) (fun cdv A outer s H vs Q E hr h => ?_)
  · obtain ⟨a, dx, x, y, z, rfl, _⟩ := h
    rfl
  · obtain ⟨a, dx, x, y, z, rfl, ea, h⟩ := h
    refine ⟨_, (pss_cons (ps_expr (pe_fn G_need_ring (hr.mono (by decide)) (passes_call (takes_of rfl rfl rfl rfl) (fun _ _ _ _ h => h)) (pa_cons (pv 1) pa_nil))) (pss_cons (ps_expr (pe_fn G_need_step (hr.mono (by decide)) (passes_call (takes_of rfl rfl rfl rfl) (fun _ _ _ _ h => h)) (pa_cons (pv 2) (pa_cons (pe_gint T.c_GREATEST) pa_nil)))) (pss_cons (ps_expr (pe_fn G_need_place (hr.mono (by decide)) (passes_call (takes_of rfl rfl rfl rfl) (fun _ _ _ _ h => h)) (pa_cons (pe_callB call_len_seq (by rfl) T.b_len PySem.boot_len (pa_cons (pv 1) pa_nil)) (pa_cons (pv 3) pa_nil)))) (PSs.nox (pss_cons (ps_fld (pv 0) (pv 2) rfl) (pss_cons (ps_fld (pv 0) (pe_fn G_from_place (hr.mono (by decide)) pass0 (pa_cons (pv 1) (pa_cons (pv 3) pa_nil))) rfl) (pss_one (ps_fld (pv 0) (pe_lst pa_nil) rfl)))))))), ?_⟩
    rcases h with ⟨o, k⟩ | ⟨zs, hw, hn, h⟩
    · exact ⟨_, rfl, _, rfl, .inr ⟨o, k⟩⟩
    refine ⟨_, rfl, _, rfl, .inl ⟨zs, hw, hn, fun H0 k0 => ?_⟩⟩
    have hw0 := hw.keep0 k0
    obtain ⟨p, rfl, e0, l1, l2⟩ := hw0
    rcases h with ⟨o, k⟩ | ⟨s', rfl, s1, s2, h⟩
    · exact ⟨_, rfl, _, _, rfl, .inr ⟨o _ k0, k _ k0⟩⟩
    refine ⟨_, rfl, _, _, rfl, .inl ⟨s', rfl, by omega, s2, ?_⟩⟩
    refine ⟨_, rfl, p, _, rfl, .inl (SqL.of e0), ?_⟩
    rw [List.length_map]
    rcases h with ⟨o, k⟩ | ⟨b, rfl, b1, k⟩
    · exact ⟨_, rfl, _, _, rfl, .inr ⟨o _ k0, k _ k0⟩⟩
    refine ⟨_, rfl, _, _, rfl, .inl ⟨b, rfl, by omega, by omega, ?_⟩⟩
    have npa : p ≠ a := fun q => by
      have := k0 _ _ ea List.not_mem_nil
      rw [← q, e0] at this
      cases this
    have ea0 := k0 _ _ ea List.not_mem_nil
    refine ⟨_, rfl, _, rfl, a, _, dx, _, rfl, ea0, T.cl_Ring, T.n_step, by decide, ?_⟩
    have ka : Kp [a] H0 (upd H0 a (.ins (cRing K) dx (putF "step" (.int s') []))) := Kp.put (List.mem_singleton.mpr rfl)
    refine ⟨_, rfl, _, rfl, p, b, zs.map V.str, rfl, SqL.of (by rw [upd_ne npa]; exact e0), by rw [List.length_map]; omega, fun l H1 k1 hl e1 => ?_⟩
    rw [Jo.rotL_map] at e1
    have ea1 := k1 _ _ (upd_same (H := H0)) List.not_mem_nil
    have hl0 : H0 l = none := by
      by_cases q : l = a
      · rw [q, upd_same] at hl
        cases hl
      · rw [upd_ne q] at hl
        exact hl
    have nla : l ≠ a := fun q => by
      rw [q, upd_same] at hl
      cases hl
    refine ⟨_, rfl, a, _, dx, _, rfl, ea1, T.cl_Ring, T.n_rest, by show (1 : Nat) < 1000; decide, ?_⟩
    refine ⟨Nat.zero_le _, fun o ho => ?_⟩
    have noa : o ≠ a := fun q => by
      rw [q, upd_same] at ho
      cases ho
    have nlo : l ≠ o := ne_of_none (show upd H1 a (.ins (cRing K) dx (putF "rest" (.ref l) (putF "step" (.int s') []))) l = some _ by rw [upd_ne nla]; exact e1) ho
    refine ⟨_, rfl, a, _, dx, _, rfl, by rw [upd_ne noa.symm]; exact upd_same, T.cl_Ring, T.n_out, by show (2 : Nat) < 1000; decide, ?_⟩
    have kall : Kp [a] H0 (upd (upd (upd H1 a (.ins (cRing K) dx (putF "rest" (.ref l) (putF "step" (.int s') [])))) o (.lst [])) a (.ins (cRing K) dx (putF "out" (.ref o) (putF "rest" (.ref l) (putF "step" (.int s') []))))) :=
      (((ka.trans (k1.mono (by simp))).trans (Kp.put (List.mem_singleton.mpr rfl))).trans (Kp.new ho)).trans (Kp.put (List.mem_singleton.mpr rfl))
    have ho1 : H1 o = none := by
      rw [upd_ne noa] at ho
      exact ho
    have ho0 : H0 o = none := by
      have := k1.free ho1 List.not_mem_nil
      rw [upd_ne noa] at this
      exact this
    refine k l o _ ((k0.mono (by simp)).trans kall) (k0.free hl0 List.not_mem_nil) (k0.free ho0 List.not_mem_nil) ⟨⟨dx, upd_same⟩, ?_, ?_, nlo, s1, s2, ?_⟩
    · rw [upd_ne nla, upd_ne nlo, upd_ne nla]
      exact e1
    · rw [upd_ne noa]
      exact upd_same
    · rw [Jo.rotL_length]
      show zs.length + 0 ≤ 400
      omega
end
end Lz
namespace Lz
open PySem PySem.Spec PyProof.Rows L2
abbrev s__law_rings : Stmt := top 42
/-- a ring and what the law writes down of it -/
structure Itm where
  (x r o d rw od hl : Addr) (s t : Nat) (row : List Str) (hv : List V)
def Itm.fp (I : Itm) : List Addr := [I.x, I.r, I.o, I.d, I.rw, I.od, I.hl]
def Itm.wr (I : Itm) : List Addr := [I.x, I.o, I.d, I.hl]
structure Own (K : PySem.W.Frag) (H : Hp) (I : Itm) : Prop where
  R : RingAt K H I.x I.r I.o I.s (Jo.after (I.s - 1) I.t I.row) ((Jo.out (I.s - 1) I.row).take I.t)
  ed : H I.d = some (.dK (ownK I.rw I.od I.hl I.s I.t))
  er : H I.rw = some (.lst (I.row.map V.str))
  eo : H I.od = some (.lst ((Jo.out (I.s - 1) I.row).map V.str))
  eh : H I.hl = some (.lst I.hv)
  ht : I.t ≤ I.row.length
  hrow : I.row.length ≤ 200
  ok : ∀ z ∈ I.row, PyData.strOk z = true
  nhr : I.hl ≠ I.r
  nho : I.hl ≠ I.o
  noo : I.od ≠ I.o
  nwo : I.rw ≠ I.o
  nwl : I.rw ≠ I.hl
  nol : I.od ≠ I.hl
/-- what is written of the one is nothing of the other -/
def Sep (I J : Itm) : Prop := (∀ p ∈ I.wr, p ∉ J.fp) ∧ ∀ p ∈ J.wr, p ∉ I.fp
theorem Own.some {K : PySem.W.Frag} {H : Hp} {I : Itm} (W : Own K H I) : ∀ p ∈ I.fp, ∃ u, H p = some u := by
  intro p hp
  simp only [Itm.fp, List.mem_cons, List.not_mem_nil, or_false] at hp
  obtain ⟨dx, ei⟩ := W.R.ins
  rcases hp with rfl | rfl | rfl | rfl | rfl | rfl | rfl
  · exact ⟨_, ei⟩
  · exact ⟨_, W.R.lr⟩
  · exact ⟨_, W.R.lo⟩
  · exact ⟨_, W.ed⟩
  · exact ⟨_, W.er⟩
  · exact ⟨_, W.eo⟩
  · exact ⟨_, W.eh⟩
theorem Itm.wr_fp {I : Itm} : ∀ p ∈ I.wr, p ∈ I.fp := by
  intro p hp
  simp only [Itm.wr, Itm.fp, List.mem_cons, List.not_mem_nil, or_false] at hp ⊢
  rcases hp with rfl | rfl | rfl | rfl <;> simp
theorem Own.keep {K : PySem.W.Frag} {H H1 : Hp} {I : Itm} {ws : List Addr} (W : Own K H I) (k : Kp ws H H1) (n : ∀ p ∈ I.fp, p ∉ ws) : Own K H1 I :=
  { W with R := W.R.keep k (n _ (by simp [Itm.fp])) (n _ (by simp [Itm.fp])) (n _ (by simp [Itm.fp])), ed := k _ _ W.ed (n _ (by simp [Itm.fp])), er := k _ _ W.er (n _ (by simp [Itm.fp])), eo := k _ _ W.eo (n _ (by simp [Itm.fp])), eh := k _ _ W.eh (n _ (by simp [Itm.fp])) }
theorem Own.keep0 {K : PySem.W.Frag} {H H1 : Hp} {I : Itm} (W : Own K H I) (k : Kp [] H H1) : Own K H1 I := W.keep k fun _ _ => List.not_mem_nil
/-- all that is new apart -/
theorem sep_new {K : PySem.W.Frag} {H : Hp} {I J : Itm} (W : Own K H I) (h : ∀ p ∈ J.fp, H p = none) : Sep I J := by
  refine ⟨fun p hp hq => ?_, fun p hp hq => ?_⟩
  · obtain ⟨u, e⟩ := W.some p (Itm.wr_fp p hp)
    rw [h p hq] at e
    cases e
  · obtain ⟨u, e⟩ := W.some p hq
    rw [h p (Itm.wr_fp p hp)] at e
    cases e
/-- the two rings at the start: T holds the list of the rings and the list of what is written down of them -/
def spRings (K : PySem.W.Frag) : Sp := fun vs H Q _ => ∃ st : Addr, vs = [.ref st] ∧ StAt H st ∧ ∀ (T Lr Lo : Addr) (A B : Itm) (H' : Hp), Drew st H H' → H T = none → H' T = some (.tup [.ref Lr, .ref Lo]) → H Lr = none → H Lo = none → H' Lr = some (.lst [.ref A.x, .ref B.x]) → H' Lo = some (.lst [.ref A.d, .ref B.d]) →
  Own K H' A → Own K H' B → A.hv = [] → B.hv = [] → Sep A B → (∀ p ∈ A.fp ++ B.fp, H p = none) → Lr ∉ A.fp ++ B.fp → Lo ∉ A.fp ++ B.fp → st ∉ A.fp ++ B.fp → Q (.ref T) H'
section
variable {P : Program} {w : World} {K : PySem.W.Frag} {mg : Str → Option Value} {base : Heap}
theorem sc__law_rings : FnScope ["_law_state_here", "_law_rings_here", "_law_owns", "_law_k", "_law_many", "_law_hands_here", "_law_step_here", "_law_begin", "_law_row"] ["_law_state_here"] (defScope s__law_rings) := ⟨rfl, rfl, rfl, by decide +kernel, rfl, by decide +kernel, by decide +kernel⟩
theorem ok__law_rings {f : Addr} {fd : FuncData} (F : FnP K "_law_rings" "_law_rings" s__law_rings [] f fd) (T : Txt K mg) (G__law_next : FnAt P w K mg base CX0 1 "_law_next" ["_law_state_here"] [] spNext) (G__law_hands : FnAt P w K mg base CX0 3 "_law_hands" ["_law_state_here", "_law_many"] [] (spHands K)) (G__law_of : FnAt P w K mg base CX0 2 "_law_of" ["_law_state_here", "_law_some"] [] (spOf K)) (G__law_step : FnAt P w K mg base CX0 3 "_law_step" ["_law_state_here", "_law_most"] [] (spStep K)) (G__law_far : FnAt P w K mg base CX0 2 "_law_far" ["_law_state_here", "_law_many"] [] spFar) (G__law_turned : FnAt P w K mg base CX0 1 "_law_turned" ["_law_row", "_law_many"] [] (spTurned K)) (G__law_out : FnAt P w K mg base CX0 1 "_law_out" ["_law_row", "_law_step_here"] [] (spOut K)) (G_Ring___init__ : FnMk P w K mg base (CXr P w) 3 "Ring" (cRing K) ["self", "hands", "step", "begin"] [] (spInit K)) :
    FnOk P w K mg base CX0 5 f fd ["_law_state_here"] (spRings K) := by
  have S := sc__law_rings
  refine F.ok S (fun vs H Q E h => ?_) (fun cdv A outer s H vs Q E hr h => ?_)
  · obtain ⟨st, rfl, _⟩ := h
    rfl
  · obtain ⟨st, rfl, hst, k⟩ := h
    refine ⟨_, PSs.nox (pss_cons (ps_set (i := 1) S.nd rfl (Or.inl rfl) (pe_lst pa_nil)) (pss_cons (ps_set (i := 2) S.nd rfl (Or.inl rfl) (pe_lst pa_nil)) (pss_cons (ps_for PassesOwn.never rfl (pi_range1 (by rfl) T.b_range (pa_cons pe_int pa_nil)) (pg_name (i := 3) S.nd rfl (Or.inl rfl)) (pss_cons (ps_set (i := 4) S.nd rfl (Or.inl rfl) (pe_op op_add pe_int (pe_op op_mod (pe_fn G__law_next (hr.mono (by decide)) pass0 (pa_cons (pv 0) pa_nil)) pe_int))) (pss_cons (ps_set (i := 5) S.nd rfl (Or.inl rfl) (pe_fn G__law_hands (hr.mono (by decide)) pass0 (pa_cons (pv 0) (pa_cons (pv 4) pa_nil)))) (pss_cons (ps_set (i := 6) S.nd rfl (Or.inl rfl) (pe_fn G__law_of (hr.mono (by decide)) pass0 (pa_cons (pv 0) (pa_cons (pe_lst (pa_cons (pe_fn G__law_step (hr.mono (by decide)) pass0 (pa_cons (pv 0) (pa_cons pe_int pa_nil))) (pa_cons (pe_fn G__law_step (hr.mono (by decide)) pass0 (pa_cons (pv 0) (pa_cons pe_int pa_nil))) (pa_cons (pe_op op_add pe_int (pe_fn G__law_far (hr.mono (by decide)) pass0 (pa_cons (pv 0) (pa_cons (pe_op op_pow pe_int pe_int) pa_nil)))) pa_nil)))) pa_nil)))) (pss_cons (ps_set (i := 7) S.nd rfl (Or.inl rfl) (pe_op op_mod (pe_fn G__law_next (hr.mono (by decide)) pass0 (pa_cons (pv 0) pa_nil)) (pv 4))) (pss_cons (ps_set (i := 8) S.nd rfl (Or.inl rfl) (pe_fn G__law_turned (hr.mono (by decide)) pass0 (pa_cons (pe_callTy call_list_of (by rfl) T.b_list (by decide +kernel) (pa_cons (pv 5) pa_nil)) (pa_cons (pv 7) pa_nil)))) (pss_cons (ps_expr (pe_bm PySem.F.plainAttrs_list PySem.F.slot_list_append PySem.F.type_list_append mt_append (pv 2) (pa_cons (pe_disp (pps_cons pe_str (pv 8) (pps_cons pe_str (pv 6) (pps_cons pe_str pe_int (pps_cons pe_str (pe_fn G__law_out (hr.mono (by decide)) pass0 (pa_cons (pv 8) (pa_cons (pv 6) pa_nil))) (pps_cons pe_str (pe_lst pa_nil) pps_nil))))) (by rfl) (by rfl) (fun z => by cases z) (by decide)) pa_nil))) (pss_cons (ps_expr (pe_bm PySem.F.plainAttrs_list PySem.F.slot_list_append PySem.F.type_list_append mt_append (pv 1) (pa_cons (pe_mkr G_Ring___init__ (hr.mono (by decide)) passL (pa_cons (pv 5) (pa_cons (pv 6) (pa_cons (pv 7) pa_nil)))) pa_nil))) (pss_one (ps_expr (pe_bm0 PySem.F.plainAttrs_list PySem.F.slot_list_clear PySem.F.type_list_clear mt_clear (pv 5)))))))))))) (pss_one (ps_ret (pe_tup (pa_cons (pv 1) (pa_cons (pv 2) pa_nil)))))))), ?_⟩
    refine ⟨Nat.zero_le _, fun Lr h1 => ⟨Nat.zero_le _, fun Lo h2 => ?_⟩⟩
    have d0 : Drew st H (upd (upd H Lr (.lst [])) Lo (.lst [])) := ((Drew.refl hst).new h1).new h2
    have er0 : upd (upd H Lr (.lst [])) Lo (.lst []) Lr = some (.lst []) := (Kp.new (ws := []) h2) _ _ upd_same List.not_mem_nil
    have eo0 : upd (upd H Lr (.lst [])) Lo (.lst []) Lo = some (.lst []) := upd_same
    have nLs : Lr ≠ st := hst.fresh h1
    have nOs : Lo ≠ st := (hst.new h1).fresh h2
    have nLO : Lr ≠ Lo := ne_of_none upd_same h2
    have h2' : H Lo = none := (Kp.new (ws := []) h1).free h2 List.not_mem_nil
    generalize upd (upd H Lr (.lst [])) Lo (.lst []) = H0 at d0 er0 eo0 ⊢
    refine ⟨2, rfl, by decide, by decide, for_range (lo := 0) (n := 2)
      (fun i σ' H' => ∃ (L : List Itm) (v3 v4 v5 v6 v7 v8 : Option V), σ' = [some (.ref st), some (.ref Lr), some (.ref Lo), v3, v4, v5, v6, v7, v8] ∧ L.length = i ∧ Drew st H H' ∧ H' Lr = some (.lst (L.map fun I => .ref I.x)) ∧ H' Lo = some (.lst (L.map fun I => .ref I.d)) ∧
        (∀ I ∈ L, Own K H' I ∧ I.hv = [] ∧ (∀ p ∈ I.fp, H p = none ∧ p ≠ Lr ∧ p ≠ Lo ∧ p ≠ st)) ∧ L.Pairwise Sep)
      ⟨[], _, _, _, _, _, _, rfl, rfl, d0, er0, eo0, (fun I hI => absurd hI List.not_mem_nil), .nil⟩ ?_ ?_⟩
    · rintro i σ' H1 hi ⟨L, v3, v4, v5, v6, v7, v8, rfl, lL, d1, er, eo, hL, pw⟩
      refine ⟨_, rfl, st, rfl, d1.2, fun H2 r2 d2 _ _ => ?_⟩
      obtain ⟨n, en⟩ := Int.eq_ofNat_of_zero_le (show 0 ≤ 1 + r2 % 12 by omega)
      refine ⟨_, _, rfl, rfl, by show (0 : Int) < _; decide, _, _, rfl, rfl, set_eq (y := .int n) (congrArg V.int en) ?_⟩
      refine ⟨_, rfl, _, rfl, st, n, rfl, d2.2, by omega, by omega, fun hd zs H3 lz nz gz d3 hhd e3 => ?_⟩
      have nhd : hd ≠ st := d2.2.fresh hhd
      have zok : ∀ z ∈ zs, PyData.strOk z = true := fun z hz => (gz z hz).ok
      have zS := isS_texts zok
      -- step
      refine ⟨_, rfl, _, rfl, st, 40, rfl, d3.2, by decide, fun H4 r4 d4 r40 r41 => ?_⟩
      refine ⟨_, rfl, st, 40, rfl, d4.2, by decide, fun H5 r5 d5 r50 r51 => ?_⟩
      refine ⟨_, rfl, _, _, rfl, rfl, ⟨by decide, by decide, by decide⟩, st, _, rfl, d5.2, by show (0 : Int) < 10 ^ (60 : Int).toNat; decide, fun H6 r6 d6 r60 r61 => ?_⟩
      have r61 : r6 < 10 ^ 60 := r61
      refine ⟨_, _, rfl, rfl, sz 3 (by decide), fun p6 hp6 => ?_⟩
      refine ⟨st, _, rfl, d6.2.new hp6, .inl ⟨p6, _, rfl, SqL.of upd_same, by simp, d6.2.fresh hp6, fun H7 v hv d7 => ?_⟩⟩
      obtain ⟨s, rfl, s1, s2⟩ : ∃ s : Nat, v = .int s ∧ 1 ≤ s ∧ (s : Int) ≤ 10 ^ 60 := by
        simp only [List.mem_cons, List.not_mem_nil, or_false] at hv
        rcases hv with rfl | rfl | rfl
        · exact ⟨r4.toNat, congrArg V.int (by omega), by omega, by omega⟩
        · exact ⟨r5.toNat, congrArg V.int (by omega), by omega, by omega⟩
        · exact ⟨(1 + r6).toNat, congrArg V.int (by omega), by omega, by omega⟩
      have D47 := ((d4.trans d5).trans d6).trans (((Drew.refl d6.2).new hp6).trans d7)
      -- begin
      refine ⟨_, rfl, st, rfl, d7.2, fun H8 r8 d8 _ _ => ?_⟩
      obtain ⟨b, eb⟩ := Int.eq_ofNat_of_zero_le (show 0 ≤ r8 % (n : Int) from Int.emod_nonneg _ (by omega))
      have b1 : b < n := by
        have := Int.emod_lt_of_pos r8 (show 0 < (n : Int) by omega)
        omega
      refine ⟨_, rfl, _, _, rfl, rfl, by show (0 : Int) < (n : Int); omega, set_eq (y := .int b) (congrArg V.int eb) ?_⟩
      have D48 := D47.trans d8
      have DD := (d2.trans d3).trans D48
      have eh8 := D48.at e3 nhd
      have t8 := d8.2
      have er8 := DD.at er nLs
      have eo8 := DD.at eo nOs
      have hL8 : ∀ I ∈ L, Own K H8 I := fun I hI => (hL I hI).1.keep DD.1 fun p hp z => ((hL I hI).2.2 p hp).2.2.2 (List.mem_singleton.mp z)
      have fr8 : ∀ p, H8 p = none → H p = none := fun p hp => (d1.trans DD).free hp
      -- row
      refine ⟨_, rfl, hd, _, rfl, .inl (SqL.of eh8), fun l0 hl0 => ?_⟩
      refine ⟨_, rfl, l0, b, _, rfl, SqL.of upd_same, (fun z => by rw [List.map_eq_nil_iff.mp z] at lz; simp at lz; omega), by rw [List.length_map]; omega, fun rw0 H10 k10 hrw e10 => ?_⟩
      have eb2 : ((b : Int) % (((zs.map V.str).length : Nat) : Int)).toNat = b := by
        rw [List.length_map, lz, emod_nat n (by omega), Nat.mod_eq_of_lt (show (b : Int).toNat < n by omega)]
        omega
      rw [eb2, Jo.rotL_map] at e10
      have k80 : Kp [] H8 H10 := (Kp.new (o := .lst (zs.map V.str)) hl0).trans k10
      have hrw8 : H8 rw0 = none := (Kp.new (ws := []) (o := .lst (zs.map V.str)) hl0).free hrw List.not_mem_nil
      have lrot : (Jo.rotL zs b).length = n := by rw [Jo.rotL_length, lz]
      have okr : ∀ z ∈ Jo.rotL zs b, PyData.strOk z = true := fun z hz => zok z ((Jo.rotL_perm zs b).mem_iff.mp hz)
      generalize hrow : Jo.rotL zs b = row at e10 lrot okr
      -- what is written down
      refine ⟨_, rfl, .inl ⟨rfl, _, SqL.of (k80 _ _ eo8 List.not_mem_nil)⟩, ?_⟩
      intro d hd0
      have kd : Kp [] H10 (upd H10 d (.dK [])) := Kp.new hd0
      refine ⟨_, rfl, _, rfl, _, rfl, _, rfl, rw0, s, _, rfl, SqL.of (kd _ _ e10 List.not_mem_nil), by omega, isS_texts okr, by rw [List.length_map]; omega, fun od H11 k11 hod e11 => ?_⟩
      have es : (s : Int).toNat - 1 = s - 1 := by omega
      rw [es, Jo.out_map] at e11
      refine ⟨Nat.zero_le _, fun hl hhl => ?_⟩
      have kl : Kp [] H11 (upd H11 hl (.lst [])) := Kp.new hhl
      have kdl : Kp [] H10 (upd H11 hl (.lst [])) := (kd.trans k11).trans kl
      have edn : upd H11 hl (.lst []) d = some (.dK []) := (k11.trans kl) _ _ upd_same List.not_mem_nil
      have e11' := kl _ _ e11 List.not_mem_nil
      have ehl : upd H11 hl (.lst []) hl = some (.lst []) := upd_same
      have nol : od ≠ hl := ne_of_none e11 hhl
      have hod10 : H10 od = none := kd.free hod List.not_mem_nil
      have hhl10 : H10 hl = none := (kd.trans k11).free hhl List.not_mem_nil
      generalize upd H11 hl (.lst []) = H12 at kdl edn e11' ehl ⊢
      refine ⟨edn, ownK rw0 od hl s 0, rfl, (by show (5 : Nat) ≤ 15; decide), ?_⟩
      have mg : mergeK [] (ownK rw0 od hl s 0) = ownK rw0 od hl s 0 := rfl
      rw [mg]
      have k12 : Kp [] H10 (upd H12 d (.dK (ownK rw0 od hl s 0))) := kdl.late hd0
      have ed : upd H12 d (.dK (ownK rw0 od hl s 0)) d = some (.dK (ownK rw0 od hl s 0)) := upd_same
      have nod : od ≠ d := fun z => by rw [z, edn] at e11'; cases e11'
      have nld : hl ≠ d := fun z => by rw [z, edn] at ehl; cases ehl
      have e12 : upd H12 d (.dK (ownK rw0 od hl s 0)) od = some (.lst ((Jo.out (s - 1) row).map V.str)) := by rw [upd_ne nod]; exact e11'
      have el12 : upd H12 d (.dK (ownK rw0 od hl s 0)) hl = some (.lst []) := by rw [upd_ne nld]; exact ehl
      have kk := k80.trans k12
      have er12 := kk _ _ er8 List.not_mem_nil
      have eo12 := kk _ _ eo8 List.not_mem_nil
      have eh12 := kk _ _ eh8 List.not_mem_nil
      have ew12 := k12 _ _ e10 List.not_mem_nil
      have t12 := t8.same kk
      generalize upd H12 d (.dK (ownK rw0 od hl s 0)) = G at k12 ed e12 el12 kk er12 eo12 eh12 ew12 t12 ⊢
      refine ⟨Lo, _, _, rfl, rfl, eo12, szl _ (by rw [List.length_map]; omega), ?_⟩
      have wo : Kp [Lo] G (upd G Lo (.lst (L.map (fun I => V.ref I.d) ++ [.ref d]))) := Kp.put (List.mem_singleton.mpr rfl)
      have eoN : upd G Lo (.lst (L.map (fun I => V.ref I.d) ++ [.ref d])) Lo = some (.lst (L.map (fun I => V.ref I.d) ++ [.ref d])) := upd_same
      have hLo8 : ∀ p, H8 p = none → p ≠ Lo := fun p hp z => by rw [z, eo8] at hp; cases hp
      have hLr8 : ∀ p, H8 p = none → p ≠ Lr := fun p hp z => by rw [z, er8] at hp; cases hp
      have hd8 : H8 d = none := k80.free hd0 List.not_mem_nil
      have hod8 : H8 od = none := k80.free hod10 List.not_mem_nil
      have hhl8 : H8 hl = none := k80.free hhl10 List.not_mem_nil
      have nhdo : hd ≠ Lo := fun z => by
        have := d2.at eo nOs
        rw [← z, hhd] at this
        cases this
      have nhdr : hd ≠ Lr := fun z => by
        have := d2.at er nLs
        rw [← z, hhd] at this
        cases this
      have er13 := wo.one er12 nLO
      have eh13 := wo.one eh12 nhdo
      have ed13 := wo.one ed (hLo8 d hd8)
      have e13 := wo.one e12 (hLo8 od hod8)
      have el13 := wo.one el12 (hLo8 hl hhl8)
      have ew13 := wo.one ew12 (hLo8 rw0 hrw8)
      have t13 := t12.keep wo (fun z => nOs (List.mem_singleton.mp z).symm)
      have kk13 : Kp [Lo] H8 (upd G Lo (.lst (L.map (fun I => V.ref I.d) ++ [.ref d]))) := (kk.mono (by simp)).trans wo
      generalize upd G Lo (.lst (L.map (fun I => V.ref I.d) ++ [.ref d])) = G1 at eoN er13 eh13 ed13 e13 el13 ew13 t13 kk13 ⊢
      have fr1 : ∀ p, G1 p = none → H8 p = none := fun p hp => kk13.free hp (fun z => by rw [List.mem_singleton.mp z, eoN] at hp; cases hp)
      -- the ring
      refine ⟨_, rfl, .inl ⟨rfl, _, SqL.of er13⟩, _, rfl, _, rfl, _, rfl, fun x dx hx hdx ndx => ?_⟩
      have km : Kp [] G1 (upd (upd G1 dx (.own x)) x (.ins (cRing K) dx [])) := (Kp.new hdx).trans (Kp.new (by rw [upd_ne ndx.symm]; exact hx))
      refine ⟨x, dx, _, _, _, rfl, upd_same, .inr ⟨zs, ⟨hd, rfl, km _ _ eh13 List.not_mem_nil, by omega, by omega⟩, nz, .inr ⟨s, rfl, s1, s2, .inr ⟨b, rfl, by omega, fun r o G2 k2 hr ho R => ⟨rfl, ?_⟩⟩⟩⟩⟩
      rw [hrow] at R
      have k12' : Kp [] G1 G2 := kp_nil ((km.mono (by simp)).trans k2) (one_none hx)
      have hr1 : G1 r = none := km.free hr List.not_mem_nil
      have ho1 : G1 o = none := km.free ho List.not_mem_nil
      have er2 := k12' _ _ er13 List.not_mem_nil
      refine ⟨Lr, _, _, rfl, rfl, er2, szl _ (by rw [List.length_map]; omega), ?_⟩
      have wr : Kp [Lr] G2 (upd G2 Lr (.lst (L.map (fun I => V.ref I.x) ++ [.ref x]))) := Kp.put (List.mem_singleton.mpr rfl)
      have erN : upd G2 Lr (.lst (L.map (fun I => V.ref I.x) ++ [.ref x])) Lr = some (.lst (L.map (fun I => V.ref I.x) ++ [.ref x])) := upd_same
      have eh3 := wr.one (k12' _ _ eh13 List.not_mem_nil) nhdr
      generalize upd G2 Lr (.lst (L.map (fun I => V.ref I.x) ++ [.ref x])) = G3 at wr erN eh3 ⊢
      -- the hands are cleared
      have k23 : Kp [Lr] G1 G3 := (k12'.mono (by simp)).trans wr
      have fx := fr1 x hx
      have fr0 := fr1 r hr1
      have fo := fr1 o ho1
      have new : ∀ p, p = x ∨ p = r ∨ p = o ∨ p = d ∨ p = rw0 ∨ p = od ∨ p = hl → H8 p = none := fun p hp => by
        rcases hp with rfl | rfl | rfl | rfl | rfl | rfl | rfl
        · exact fx
        · exact fr0
        · exact fo
        · exact hd8
        · exact hrw8
        · exact hod8
        · exact hhl8
      have nhd8 : ∀ p, H8 p = none → p ≠ hd := fun p hp z => by rw [z, eh8] at hp; cases hp
      have ch : Kp [hd] G3 (upd G3 hd (.lst [])) := Kp.put (List.mem_singleton.mpr rfl)
      have kEnd : Kp [Lo, Lr, hd] H8 (upd G3 hd (.lst [])) := ((kk13.mono (by simp)).trans (k23.mono (by simp))).trans (ch.mono (by simp))
      have kRing : Kp [Lr, hd] G1 (upd G3 hd (.lst [])) := (k23.mono (by simp)).trans (ch.mono (by simp))
      have kR2 : Kp [Lr, hd] G2 (upd G3 hd (.lst [])) := (wr.mono (by simp)).trans (ch.mono (by simp))
      have n2 : ∀ p, H8 p = none → p ∉ [Lr, hd] := fun p hp z => by
        rcases List.mem_cons.mp z with q | q
        · exact hLr8 p hp q
        · exact nhd8 p hp (List.mem_singleton.mp q)
      have nxd : x ≠ hd := nhd8 x fx
      refine ⟨_, rfl, .inl ⟨rfl, _, SqL.of eh3⟩, hd, _, rfl, rfl, eh3, ?_⟩
      have hhd0 : H hd = none := (d1.trans d2).free hhd
      have dEnd : Drew st H (upd G3 hd (.lst [])) := by
        refine ⟨fun p u e n => kEnd p u ((d1.trans DD).1 p u e n) fun z => ?_, ((t13.same k12').keep wr (fun z => nLs (List.mem_singleton.mp z).symm)).keep ch (fun z => nhd (List.mem_singleton.mp z).symm)⟩
        simp only [List.mem_cons, List.not_mem_nil, or_false] at z
        rcases z with rfl | rfl | rfl
        · rw [h2'] at e; cases e
        · rw [h1] at e; cases e
        · rw [hhd0] at e; cases e
      have erE := ch.one erN nhdr.symm
      have eoE := kRing _ _ eoN (by simp [nLO.symm, nhdo.symm])
      generalize upd G3 hd (.lst []) = Z at kEnd kRing kR2 dEnd erE eoE ⊢
      have own : Own K Z ⟨x, r, o, d, rw0, od, hl, s, 0, row, []⟩ :=
        { R := (by show RingAt K Z x r o s row ((Jo.out (s - 1) row).take 0); rw [List.take_zero]; exact R.keep kR2 (n2 x fx) (n2 r fr0) (n2 o fo)), ed := kRing _ _ ed13 (n2 d hd8), er := kRing _ _ ew13 (n2 rw0 hrw8), eo := kRing _ _ e13 (n2 od hod8), eh := kRing _ _ el13 (n2 hl hhl8), ht := Nat.zero_le _, hrow := (by show row.length ≤ 200; omega), ok := okr, nhr := ne_of_none el13 hr1, nho := ne_of_none el13 ho1, noo := ne_of_none e13 ho1, nwo := ne_of_none ew13 ho1, nwl := ne_of_none e10 hhl10, nol := nol }
      have fpNew : ∀ p ∈ Itm.fp ⟨x, r, o, d, rw0, od, hl, s, 0, row, []⟩, H8 p = none := fun p hp => new p (by simpa [Itm.fp] using hp)
      refine ⟨L ++ [⟨x, r, o, d, rw0, od, hl, s, 0, row, []⟩], _, _, _, _, _, _, rfl, by rw [List.length_append, lL]; rfl, dEnd, by rw [List.map_append]; exact erE, by rw [List.map_append]; exact eoE, fun I hI => ?_, ?_⟩
      · rcases List.mem_append.mp hI with h | h
        · refine ⟨(hL8 I h).keep kEnd fun p hp z => ?_, (hL I h).2⟩
          simp only [List.mem_cons, List.not_mem_nil, or_false] at z
          rcases z with q | q | q
          · exact ((hL I h).2.2 p hp).2.2.1 q
          · exact ((hL I h).2.2 p hp).2.1 q
          · obtain ⟨u, e⟩ := (hL I h).1.some p hp
            have := d2.at e ((hL I h).2.2 p hp).2.2.2
            rw [q, hhd] at this
            cases this
        · rw [List.mem_singleton.mp h]
          exact ⟨own, rfl, fun p hp => ⟨fr8 p (fpNew p hp), hLr8 p (fpNew p hp), hLo8 p (fpNew p hp), t8.fresh (fpNew p hp)⟩⟩
      · refine List.pairwise_append.mpr ⟨pw, List.pairwise_singleton _ _, fun I hI J hJ => ?_⟩
        rw [List.mem_singleton.mp hJ]
        exact sep_new (hL8 I hI) fpNew
    rintro σ' H1 ⟨L, v3, v4, v5, v6, v7, v8, rfl, lL, d1, er, eo, hL, pw⟩
    obtain ⟨A, B, rfl⟩ : ∃ A B, L = [A, B] := by
      match L, lL with
      | [A, B], _ => exact ⟨A, B, rfl⟩
    · refine ⟨_, rfl, _, rfl, sz 2 (by decide), fun T hT => ?_⟩
      have hA := hL A (by simp)
      have hB := hL B (by simp)
      have kT : Kp [] H1 (upd H1 T (.tup [.ref Lr, .ref Lo])) := Kp.new hT
      have sep : Sep A B := by
        have := List.pairwise_cons.mp pw
        exact this.1 B (by simp)
      have all : ∀ p ∈ A.fp ++ B.fp, H p = none ∧ p ≠ Lr ∧ p ≠ Lo ∧ p ≠ st := fun p hp => by
        rcases List.mem_append.mp hp with h | h
        · exact hA.2.2 p h
        · exact hB.2.2 p h
      exact k T Lr Lo A B _ (d1.new hT) (d1.free hT) upd_same h1 h2' (kT _ _ er List.not_mem_nil) (kT _ _ eo List.not_mem_nil) (hA.1.keep0 kT) (hB.1.keep0 kT) hA.2.1 hB.2.1 sep (fun p hp => (all p hp).1) (fun z => (all _ z).2.1 rfl) (fun z => (all _ z).2.2.1 rfl) (fun z => (all _ z).2.2.2 rfl)
end
end Lz
namespace Lz
open PySem PySem.Spec PyProof.Rows L2
abbrev s__law_made : Stmt := top 38
theorem Made.keep {K : PySem.W.Frag} {H H1 : Hp} {E : XK} {x y z : V} {k : List Str → Nat → Nat → Prop} (h : Made K H E x y z k) (kk : Kp [] H H1) : Made K H1 E x y z k := by
  rcases h with ⟨o, e⟩ | ⟨zs, w, n, h⟩
  · exact .inl ⟨o.keep kk, fun H' k' => e H' (kk.trans k')⟩
  · refine .inr ⟨zs, w.keep0 kk, n, ?_⟩
    rcases h with ⟨o, e⟩ | ⟨s, e1, s1, s2, h⟩
    · exact .inl ⟨o.keep kk, fun H' k' => e H' (kk.trans k')⟩
    · refine .inr ⟨s, e1, s1, s2, ?_⟩
      rcases h with ⟨o, e⟩ | h
      · exact .inl ⟨o.keep kk, fun H' k' => e H' (kk.trans k')⟩
      · exact .inr h
theorem Made.to {K : PySem.W.Frag} {H : Hp} {E : XK} {x y z : V} {k k2 : List Str → Nat → Nat → Prop} (h : Made K H E x y z k) (kk : ∀ zs s b, k zs s b → k2 zs s b) : Made K H E x y z k2 := by
  rcases h with h | ⟨zs, w, n, h⟩
  · exact .inl h
  · refine .inr ⟨zs, w, n, ?_⟩
    rcases h with h | ⟨s, e1, s1, s2, h⟩
    · exact .inl h
    · refine .inr ⟨s, e1, s1, s2, ?_⟩
      rcases h with h | ⟨b, e2, b1, h⟩
      · exact .inl h
      · exact .inr ⟨b, e2, b1, kk _ _ _ h⟩
/-- one that is refused -/
def spMadeL (K : PySem.W.Frag) : Sp := fun vs H Q _ => ∃ x y z : V, vs = [x, y, z] ∧ Made K H (EE K Q) x y z fun _ _ _ => False
section
variable {P : Program} {w : World} {K : PySem.W.Frag} {mg : Str → Option Value} {base : Heap}
theorem sc__law_made : FnScope ["_law_hands_here", "_law_step_here", "_law_begin", "_law_e", "_law_error_here"] ["_law_hands_here", "_law_step_here", "_law_begin"] (defScope s__law_made) := ⟨rfl, rfl, rfl, by decide +kernel, rfl, by decide +kernel, by decide +kernel⟩
theorem ok__law_made {f : Addr} {fd : FuncData} (F : FnP K "_law_made" "_law_made" s__law_made [] f fd) (T : Txt K mg) (G_Ring___init__ : FnMk P w K mg base (CXr P w) 3 "Ring" (cRing K) ["self", "hands", "step", "begin"] [] (spInit K)) (G__law_error : FnAt P w K mg base CX0 1 "_law_error" ["_law_e"] [] (spErr K)) :
    FnOk P w K mg base CX0 5 f fd ["_law_hands_here", "_law_step_here", "_law_begin"] (spMadeL K) := by
  have S := sc__law_made
  refine F.ok S (fun vs H Q E h => ?_) (fun cdv A outer s H vs Q E hr h => ?_)
  · obtain ⟨x, y, z, rfl, _⟩ := h
    rfl
  · obtain ⟨x, y, z, rfl, h⟩ := h
    refine ⟨_, PSs.nox (pss_cons (ps_try_keep (i := 3) rfl rfl rfl S.nd rfl rfl ⟨rfl, by decide, .inl T.g_CountError⟩ (fun W pn xe tk => (pss_cons (ps_expr (pe_mkr (weakK G_Ring___init__) (hr.mono (by decide)) (passT (N := ["_law_hands_here", "_law_step_here", "_law_begin", "_law_e", "_law_error_here"]) tk) (pa_cons (pv 0) (pa_cons (pv 1) (pa_cons (pv 2) pa_nil))))) (pss_one (ps_ret pe_str)))) (fun a oe cls d pn => (pss_one (ps_set (i := 4) S.nd rfl (Or.inl rfl) (pv 3))))) (pss_one (ps_ret (pe_fn G__law_error (hr.mono (by decide)) pass0 (pa_cons (pv 4) pa_nil))))), ?_⟩
    refine ⟨_, rfl, _, rfl, _, rfl, fun a dx hx hdx ndx => ?_⟩
    have km : Kp [] H (upd (upd H dx (.own a)) a (.ins (cRing K) dx [])) := (Kp.new hdx).trans (Kp.new (by rw [upd_ne ndx.symm]; exact hx))
    refine ⟨EE K Q, ⟨a, dx, x, y, z, rfl, upd_same, (h.keep km).to fun _ _ _ z => z.elim⟩, fun cls d G he σ hσ => ?_⟩
    obtain ⟨rfl, w1, wd, hm, rfl, kk⟩ := he
    refine ⟨T.err.m w1 (List.mem_map.mpr ⟨_, hm, rfl⟩), rfl, fun a ha => ?_⟩
    match σ, hσ with
    | [_, _, _, _, _], _ => exact ⟨_, rfl, fun ha' => ⟨_, rfl, a, w1, wd, rfl, hm, upd_same, fun H2 k2 => kk H2 ((Kp.new ha').trans k2)⟩⟩
end
end Lz
namespace Lz
open PySem PySem.Spec PyProof.Rows L2
abbrev s_law : Stmt := top 43
def spLaw (K : PySem.W.Frag) : Sp := fun vs H Q _ => ∃ (a : Addr) (ns : List Int), vs = [.ref a] ∧ SqL K H a (ns.map V.int) ∧ ns.length ≤ 63 ∧ ∀ H', Q (.bl true) H'
/-- what was kept of a count: a tuple of two alike lists -/
structure Hld where
  (T f u : Addr) (zs : List Str)
def HldOk (H : Hp) (W : List Addr) (q : Hld) : Prop := H q.T = some (.tup [.ref q.f, .ref q.u]) ∧ H q.f = some (.lst (q.zs.map V.str)) ∧ H q.u = some (.lst (q.zs.map V.str)) ∧ (q.zs.length ≤ 200 ∧ ∀ z ∈ q.zs, PyData.strOk z = true) ∧ q.f ∉ W ∧ q.u ∉ W
def fus (hs : List Hld) : List Addr := hs.flatMap fun q => [q.f, q.u]
/-- both rings, what is written down of them, what was kept -/
structure Both (K : PySem.W.Frag) (H : Hp) (W : List Addr) (A B : Itm) (ha hb : List Hld) : Prop where
  a : Own K H A
  b : Own K H B
  sep : Sep A B
  va : A.hv = ha.map fun q => V.ref q.T
  vb : B.hv = hb.map fun q => V.ref q.T
  ok : ∀ q ∈ ha ++ hb, HldOk H (A.fp ++ B.fp ++ W) q
  nd : (fus (ha ++ hb)).Nodup
  out : ∀ p ∈ W, p ∉ A.fp ++ B.fp
  kn : ∀ p ∈ W, ∃ u, H p = some u
theorem Sep.swap {A B : Itm} (h : Sep A B) : Sep B A := ⟨h.2, h.1⟩
theorem fus_perm {xs ys : List Hld} (h : xs.Perm ys) : (fus xs).Perm (fus ys) := h.flatMap_right _
theorem Both.swap {K : PySem.W.Frag} {H : Hp} {W : List Addr} {A B : Itm} {ha hb : List Hld} (x : Both K H W A B ha hb) : Both K H W B A hb ha where
  a := x.b
  b := x.a
  sep := x.sep.swap
  va := x.vb
  vb := x.va
  ok := fun q hq => by
    obtain ⟨h1, h2, h3, h4, h5, h6⟩ := x.ok q (List.mem_append.mpr ((List.mem_append.mp hq).symm))
    have e : ∀ p, p ∉ A.fp ++ B.fp ++ W → p ∉ B.fp ++ A.fp ++ W := fun p n z => n (by
      rcases List.mem_append.mp z with z | z
      · exact List.mem_append_left _ (List.mem_append.mpr (List.mem_append.mp z).symm)
      · exact List.mem_append_right _ z)
    exact ⟨h1, h2, h3, h4, e _ h5, e _ h6⟩
  nd := (fus_perm List.perm_append_comm).nodup_iff.mpr x.nd
  out := fun p hp z => x.out p hp (List.mem_append.mpr (List.mem_append.mp z).symm)
  kn := x.kn
theorem HldOk.keep {H H1 : Hp} {W : List Addr} {q : Hld} (h : HldOk H W q) (k : Kp [] H H1) : HldOk H1 W q := ⟨k _ _ h.1 List.not_mem_nil, k _ _ h.2.1 List.not_mem_nil, k _ _ h.2.2.1 List.not_mem_nil, h.2.2.2⟩
theorem Both.keep0 {K : PySem.W.Frag} {H H1 : Hp} {W : List Addr} {A B : Itm} {ha hb : List Hld} (x : Both K H W A B ha hb) (k : Kp [] H H1) : Both K H1 W A B ha hb where
  a := x.a.keep0 k
  b := x.b.keep0 k
  sep := x.sep
  va := x.va
  vb := x.vb
  ok := fun q hq => (x.ok q hq).keep k
  nd := x.nd
  out := x.out
  kn := fun p hp => by
    obtain ⟨u, e⟩ := x.kn p hp
    exact ⟨u, k _ _ e List.not_mem_nil⟩
theorem Both.start {K : PySem.W.Frag} {H : Hp} {W : List Addr} {A B : Itm} {w : Addr} {o : HO} (x : Both K H W A B [] []) (h : H w = none) : Both K (upd H w o) (W ++ [w]) A B [] [] where
  a := x.a.keep0 (Kp.new h)
  b := x.b.keep0 (Kp.new h)
  sep := x.sep
  va := x.va
  vb := x.vb
  ok := fun q hq => absurd hq List.not_mem_nil
  nd := x.nd
  out := fun p hp z => by
    rcases List.mem_append.mp hp with g | g
    · exact x.out p g z
    · obtain ⟨u, e⟩ : ∃ u, H p = some u := by
        rcases List.mem_append.mp z with q | q
        · exact x.a.some p q
        · exact x.b.some p q
      rw [List.mem_singleton.mp g, h] at e
      cases e
  kn := fun p hp => by
    rcases List.mem_append.mp hp with g | g
    · exact (x.keep0 (Kp.new h)).kn p g
    · exact ⟨_, by rw [List.mem_singleton.mp g]; exact upd_same⟩
theorem Both.kept {K : PySem.W.Frag} {H H1 : Hp} {W : List Addr} {A B : Itm} {ha hb : List Hld} (X : Both K H W A B ha hb) (kk : Kp [A.x, A.o, A.d, A.hl] H H1) : ∀ p ∈ W, H1 p = H p := fun p hp => by
  obtain ⟨u, e⟩ := X.kn p hp
  rw [e]
  exact kk _ _ e fun z => X.out p hp (List.mem_append_left _ (Itm.wr_fp (I := A) p z))
/-- what is left to be looked at when j rings were -/
def remH (ha hb : List Hld) : Nat → List Hld
  | 0 => ha ++ hb
  | 1 => hb
  | _ => []
/-- one step of the first ring -/
theorem Both.step {K : PySem.W.Frag} {H H1 : Hp} {W : List Addr} {A B : Itm} {ha hb : List Hld} {t' : Nat} {r' : Addr} {hv' : List V} (x : Both K H W A B ha hb) (ht : t' ≤ A.row.length) (k : Kp [A.x, A.o, A.d, A.hl] H H1) (hr : r' = A.r ∨ H r' = none)
    (R : RingAt K H1 A.x r' A.o A.s (Jo.after (A.s - 1) t' A.row) ((Jo.out (A.s - 1) A.row).take t')) (ed : H1 A.d = some (.dK (ownK A.rw A.od A.hl A.s t'))) (eh : H1 A.hl = some (.lst hv'))
    (hh : hv' = A.hv ∨ ∃ (T f u : Addr) (zs : List Str), hv' = A.hv ++ [.ref T] ∧ H T = none ∧ H f = none ∧ H u = none ∧ f ≠ u ∧ f ≠ r' ∧ u ≠ r' ∧ H1 T = some (.tup [.ref f, .ref u]) ∧ H1 f = some (.lst (zs.map V.str)) ∧ H1 u = some (.lst (zs.map V.str)) ∧ zs.length ≤ 200 ∧ ∀ z ∈ zs, PyData.strOk z = true) :
    ∃ ha', Both K H1 W { A with t := t', r := r', hv := hv' } B ha' hb ∧ ha'.length ≤ ha.length + 1 := by
  obtain ⟨dx, ei⟩ := x.a.R.ins
  have lstW : ∀ {p : Addr} {ys : List V}, H p = some (.lst ys) → p ≠ A.o → p ≠ A.hl → H1 p = some (.lst ys) := fun e n1 n2 => k _ _ e (by
    intro z
    simp only [List.mem_cons, List.not_mem_nil, or_false] at z
    rcases z with q | q | q | q
    · exact x.a.R.nx e q
    · exact n1 q
    · rw [q, x.a.ed] at e; cases e
    · exact n2 q)
  have fresh : ∀ {p : Addr} {u : HO}, H p = some u → p ≠ A.r → p ≠ r' := fun e n => by
    rcases hr with q | q
    · rw [q]; exact n
    · exact ne_of_none e q
  have own : Own K H1 { A with t := t', r := r', hv := hv' } :=
    { R := R, ed := ed, er := lstW x.a.er x.a.nwo x.a.nwl, eo := lstW x.a.eo x.a.noo x.a.nol, eh := eh, ht := ht, hrow := x.a.hrow, ok := x.a.ok, nhr := fresh x.a.eh x.a.nhr, nho := x.a.nho, noo := x.a.noo, nwo := x.a.nwo, nwl := x.a.nwl, nol := x.a.nol }
  have ownB : Own K H1 B := x.b.keep k fun p hp z => x.sep.1 p z hp
  have inA : ∀ p, p ∈ Itm.fp { A with t := t', r := r', hv := hv' } → p = r' ∨ p ∈ A.fp := fun p hp => by
    simp only [Itm.fp, List.mem_cons, List.not_mem_nil, or_false] at hp ⊢
    rcases hp with q | q | q | q | q | q | q
    · exact .inr (.inl q)
    · exact .inl q
    · exact .inr (.inr (.inr (.inl q)))
    · exact .inr (.inr (.inr (.inr (.inl q))))
    · exact .inr (.inr (.inr (.inr (.inr (.inl q)))))
    · exact .inr (.inr (.inr (.inr (.inr (.inr (.inl q))))))
    · exact .inr (.inr (.inr (.inr (.inr (.inr (.inr q))))))
  have rfp : A.r ∈ A.fp := by simp [Itm.fp]
  have sep : Sep { A with t := t', r := r', hv := hv' } B := ⟨x.sep.1, fun p hp z => by
    rcases inA p z with q | q
    · obtain ⟨u, e⟩ := x.b.some p (Itm.wr_fp p hp)
      exact fresh e (fun z => x.sep.2 p hp (by rw [z]; exact rfp)) q
    · exact x.sep.2 p hp q⟩
  have notW : ∀ p, p ∉ A.fp ++ B.fp ++ W → p ≠ r' → p ∉ Itm.fp { A with t := t', r := r', hv := hv' } ++ B.fp ++ W := fun p n nr z => n (by
    rcases List.mem_append.mp z with z | z
    · rcases List.mem_append.mp z with z | z
      · rcases inA p z with q | q
        · exact absurd q nr
        · exact List.mem_append_left _ (List.mem_append_left _ q)
      · exact List.mem_append_left _ (List.mem_append_right _ z)
    · exact List.mem_append_right _ z)
  have inW : ∀ p, p ∈ A.fp → p ∈ A.fp ++ B.fp ++ W := fun p hp => List.mem_append_left _ (List.mem_append_left _ hp)
  have ne : ∀ {p q : Addr}, p ∉ A.fp ++ B.fp ++ W → q ∈ A.fp → p ≠ q := fun n hq z => n (by rw [z]; exact inW _ hq)
  have ofp : A.o ∈ A.fp := by simp [Itm.fp]
  have lfp : A.hl ∈ A.fp := by simp [Itm.fp]
  have old : ∀ q ∈ ha ++ hb, HldOk H1 (Itm.fp { A with t := t', r := r', hv := hv' } ++ B.fp ++ W) q := fun q hq => by
    obtain ⟨h1, h2, h3, h4, h5, h6⟩ := x.ok q hq
    refine ⟨k _ _ h1 ?_, lstW h2 (ne h5 ofp) (ne h5 lfp), lstW h3 (ne h6 ofp) (ne h6 lfp), h4, notW _ h5 (fresh h2 (ne h5 rfp)), notW _ h6 (fresh h3 (ne h6 rfp))⟩
    intro z
    simp only [List.mem_cons, List.not_mem_nil, or_false] at z
    rcases z with q | q | q | q
    · rw [q, ei] at h1; cases h1
    · rw [q, x.a.R.lo] at h1; cases h1
    · rw [q, x.a.ed] at h1; cases h1
    · rw [q, x.a.eh] at h1; cases h1
  have out : ∀ p ∈ W, p ∉ Itm.fp { A with t := t', r := r', hv := hv' } ++ B.fp := fun p hp z => by
    obtain ⟨u, e⟩ := x.kn p hp
    have n := x.out p hp
    rcases List.mem_append.mp z with z | z
    · rcases inA p z with q | q
      · exact fresh e (fun z => n (by rw [z]; exact List.mem_append_left _ rfp)) q
      · exact n (List.mem_append_left _ q)
    · exact n (List.mem_append_right _ z)
  have kn : ∀ p ∈ W, ∃ u, H1 p = some u := fun p hp => by
    obtain ⟨u, e⟩ := x.kn p hp
    exact ⟨u, k _ _ e fun z => x.out p hp (List.mem_append_left _ (Itm.wr_fp (I := A) p z))⟩
  rcases hh with rfl | ⟨T, f, u, zs, rfl, hT, hf, hu, nfu, nfr, nur, eT, ef, eu, okz⟩
  · exact ⟨ha, ⟨own, ownB, sep, x.va, x.vb, old, x.nd, out, kn⟩, by omega⟩
  · have known : ∀ p, p ∈ A.fp ++ B.fp ++ W → ∃ u, H p = some u := fun p hp => by
      rcases List.mem_append.mp hp with hp | hp
      · rcases List.mem_append.mp hp with hp | hp
        · exact x.a.some p hp
        · exact x.b.some p hp
      · exact x.kn p hp
    have free : ∀ p, H p = none → p ∉ A.fp ++ B.fp ++ W := fun p hp z => by
      obtain ⟨w, e⟩ := known p z
      rw [hp] at e
      cases e
    have fusK : ∀ p, p ∈ fus (ha ++ hb) → ∃ u, H p = some u := fun p hp => by
      obtain ⟨q, hq, hpq⟩ := List.mem_flatMap.mp hp
      obtain ⟨_, h2, h3, _⟩ := x.ok q hq
      rcases List.mem_cons.mp hpq with z | z
      · exact ⟨_, by rw [z]; exact h2⟩
      · exact ⟨_, by rw [List.mem_singleton.mp z]; exact h3⟩
    have freeF : ∀ p, H p = none → p ∉ fus (ha ++ hb) := fun p hp z => by
      obtain ⟨w, e⟩ := fusK p z
      rw [hp] at e
      cases e
    have perm : ((ha ++ [Hld.mk T f u zs]) ++ hb).Perm (Hld.mk T f u zs :: (ha ++ hb)) := by
      rw [List.append_assoc]
      exact List.perm_middle
    refine ⟨ha ++ [Hld.mk T f u zs], ⟨own, ownB, sep, by rw [List.map_append, ← x.va]; rfl, x.vb, fun q hq => ?_, (fus_perm perm).nodup_iff.mpr ?_, out, kn⟩, by rw [List.length_append]; exact Nat.le_refl _⟩
    · rcases List.mem_cons.mp (perm.mem_iff.mp hq) with rfl | h
      · exact ⟨eT, ef, eu, okz, notW _ (free f hf) nfr, notW _ (free u hu) nur⟩
      · exact old q h
    · show (f :: u :: fus (ha ++ hb)).Nodup
      refine List.nodup_cons.mpr ⟨fun z => ?_, List.nodup_cons.mpr ⟨freeF u hu, x.nd⟩⟩
      rcases List.mem_cons.mp z with z | z
      · exact nfu z
      · exact freeF f hf z
section
variable {P : Program} {w : World} {K : PySem.W.Frag} {mg : Str → Option Value} {base : Heap}
theorem sc_law : FnScope ["_law_script", "_law_state_here", "_law_rings_here", "_law_owns", "_law_cell", "_law_own", "_law_found", "_law_due", "_law_hands_here", "_law_bad", "_law_odd", "_law_off"] ["_law_script"] (defScope s_law) := ⟨rfl, rfl, rfl, by decide +kernel, rfl, by decide +kernel, by decide +kernel⟩
theorem ok_law {f : Addr} {fd : FuncData} (F : FnP K "law" "law" s_law [] f fd) (T : Txt K mg) (G__law_state : FnAt P w K mg base CX0 2 "_law_state" ["_law_script", "_law_first"] [] (spState K)) (G__law_rings : FnAt P w K mg base CX0 5 "_law_rings" ["_law_state_here"] [] (spRings K)) (G_Ring_left : FnMt P w K mg base CX0 1 (cRing K) "left" ["self"] [] (spLeft K)) (G_Ring___init___d : FnMk P w K mg base (CXr P w) 3 "Ring" (cRing K) ["self", "hands", "step", "begin"] [V.int (0)] (spInit K)) (G__law_done : FnAt P w K mg base CX0 6 "_law_done" ["_law_ring", "_law_own", "_law_cell"] [] (spDone K)) (G__law_shown : FnAt P w K mg base CX0 3 "_law_shown" ["_law_ring", "_law_own"] [] (spShown K)) (G__law_of : FnAt P w K mg base CX0 2 "_law_of" ["_law_state_here", "_law_some"] [] (spOf K)) (G__law_made : FnAt P w K mg base CX0 5 "_law_made" ["_law_hands_here", "_law_step_here", "_law_begin"] [] (spMadeL K)) :
    FnOk P w K mg base CX0 7 f fd ["_law_script"] (spLaw K) := by
  have S := sc_law
  refine F.ok S (fun vs H Q E h => ?_) (fun cdv A outer s H vs Q E hr h => ?_)
  · obtain ⟨a, ns, rfl, _⟩ := h
    rfl
  · obtain ⟨a, ns, rfl, hS, hlen, hQ⟩ := h
    refine ⟨_, PSs.nox (pss_cons (ps_set (i := 1) S.nd rfl (Or.inl rfl) (pe_fn G__law_state (hr.mono (by decide)) pass0 (pa_cons (pv 0) (pa_cons pe_int pa_nil)))) (pss_cons (ps_asg (pe_fn G__law_rings (hr.mono (by decide)) pass0 (pa_cons (pv 1) pa_nil)) (pg_tup rfl (pgs_cons (pg_name (i := 2) S.nd rfl (Or.inl rfl)) (pgs_cons (pg_name (i := 3) S.nd rfl (Or.inl rfl)) pgs_nil)))) (pss_cons (ps_if (pt_cmpR (op_neD hr.units) (pe_mth0 G_Ring_left T.cl_Ring (hr.mono (by decide)) pass0 (pe_mkr G_Ring___init___d (hr.mono (by decide)) passL (pa_cons (pe_lst (pa_cons pe_str (pa_cons pe_str pa_nil))) (pa_cons pe_int pa_nil)))) (pe_lst (pa_cons pe_str (pa_cons pe_str pa_nil))) (nomark _)) (pss_one (ps_ret pe_bl)) pss_nil) (pss_cons (ps_for PassesOwn.never rfl (pi_list (pe_slice sl_list (pv 0) (po_some pe_int) (po_some pe_int))) (pg_name (i := 4) S.nd rfl (Or.inl rfl)) (pss_cons (ps_if (pt_not (pt_val (pe_fn G__law_done (hr.mono (by decide)) pass0 (pa_cons (pe_ix ix_list (pv 2) (pe_op op_mod (pv 4) pe_int) (fun _ _ => rfl)) (pa_cons (pe_ix ix_list (pv 3) (pe_op op_mod (pv 4) pe_int) (fun _ _ => rfl)) (pa_cons (pe_op op_fdiv (pv 4) pe_int) pa_nil)))))) (pss_one (ps_ret pe_bl)) pss_nil) (pss_one (ps_if (PW.pt (pw_or (pt_not (pt_val (pe_fn G__law_shown (hr.mono (by decide)) pass0 (pa_cons (pe_ix ix_list (pv 2) pe_int (fun _ _ => rfl)) (pa_cons (pe_ix ix_list (pv 3) pe_int (fun _ _ => rfl)) pa_nil))))) (pw_or1 (pt_not (pt_val (pe_fn G__law_shown (hr.mono (by decide)) pass0 (pa_cons (pe_ix ix_list (pv 2) pe_int (fun _ _ => rfl)) (pa_cons (pe_ix ix_list (pv 3) pe_int (fun _ _ => rfl)) pa_nil)))))))) (pss_one (ps_ret pe_bl)) pss_nil)))) (pss_cons (ps_for PassesOwn.never rfl (pi_list (pv 3)) (pg_name (i := 5) S.nd rfl (Or.inl rfl)) (pss_one (ps_for PassesOwn.never rfl (pi_list (pe_dget (hu_of hr) (pv 5) pe_str (fun _ _ => rfl))) (pg_tup rfl (pgs_cons (pg_name (i := 6) S.nd rfl (Or.inl rfl)) (pgs_cons (pg_name (i := 7) S.nd rfl (Or.inl rfl)) pgs_nil))) (pss_cons (ps_if (PW.pt (pw_or (pt_not (pt_val (pe_callB call_isi (by rfl) T.b_isinstance (by decide +kernel) (pa_cons (pv 6) (pa_cons (pe_bltn (v := .ty "list") (by rfl) T.b_list (by decide +kernel) rfl) pa_nil))))) (pw_or1 (pt_cmpR (op_neD hr.units) (pv 6) (pv 7) (nomark _))))) (pss_one (ps_ret pe_bl)) pss_nil) (pss_one (ps_expr (pe_bm PySem.F.plainAttrs_list PySem.F.slot_list_append PySem.F.type_list_append mt_append (pv 6) (pa_cons pe_str pa_nil)))))))) (pss_cons (ps_if (PW.pt (pw_or (pt_not (pt_val (pe_fn G__law_shown (hr.mono (by decide)) pass0 (pa_cons (pe_ix ix_list (pv 2) pe_int (fun _ _ => rfl)) (pa_cons (pe_ix ix_list (pv 3) pe_int (fun _ _ => rfl)) pa_nil))))) (pw_or1 (pt_not (pt_val (pe_fn G__law_shown (hr.mono (by decide)) pass0 (pa_cons (pe_ix ix_list (pv 2) pe_int (fun _ _ => rfl)) (pa_cons (pe_ix ix_list (pv 3) pe_int (fun _ _ => rfl)) pa_nil)))))))) (pss_one (ps_ret pe_bl)) pss_nil) (pss_cons (ps_set (i := 8) S.nd rfl (Or.inl rfl) (pe_lst (pa_cons pe_str (pa_cons pe_str (pa_cons pe_str pa_nil))))) (pss_cons (ps_set (i := 9) S.nd rfl (Or.inl rfl) (pe_fn G__law_of (hr.mono (by decide)) pass0 (pa_cons (pv 1) (pa_cons (pe_lst (pa_cons (pe_lst pa_nil) (pa_cons (pe_lst (pa_cons pe_str (pa_cons pe_str pa_nil))) (pa_cons pe_non (pa_cons (pe_tup (pa_cons pe_str pa_nil)) (pa_cons (pe_lst (pa_cons pe_str (pa_cons pe_int pa_nil))) (pa_cons pe_str pa_nil))))))) pa_nil)))) (pss_cons (ps_set (i := 10) S.nd rfl (Or.inl rfl) (pe_fn G__law_of (hr.mono (by decide)) pass0 (pa_cons (pv 1) (pa_cons (pe_lst (pa_cons pe_int (pa_cons (pe_un un_neg pe_int) (pa_cons pe_non (pa_cons pe_bl (pa_cons pe_str (pa_cons (pe_op op_add (pe_op op_pow pe_int pe_int) pe_int) pa_nil))))))) pa_nil)))) (pss_cons (ps_set (i := 11) S.nd rfl (Or.inl rfl) (pe_fn G__law_of (hr.mono (by decide)) pass0 (pa_cons (pv 1) (pa_cons (pe_lst (pa_cons pe_int (pa_cons (pe_un un_neg pe_int) (pa_cons pe_non (pa_cons pe_bl (pa_cons pe_str pa_nil)))))) pa_nil)))) (pss_one (ps_ret (pe_cmpR (op_eqD hr.units) (pe_lst (pa_cons (pe_fn G__law_made (hr.mono (by decide)) pass0 (pa_cons (pv 9) (pa_cons (pv 10) (pa_cons (pv 11) pa_nil)))) (pa_cons (pe_fn G__law_made (hr.mono (by decide)) pass0 (pa_cons (pv 8) (pa_cons (pv 10) (pa_cons (pv 11) pa_nil)))) (pa_cons (pe_fn G__law_made (hr.mono (by decide)) pass0 (pa_cons (pv 8) (pa_cons pe_int (pa_cons (pv 11) pa_nil)))) pa_nil)))) (pe_lst (pa_cons pe_str (pa_cons pe_str (pa_cons pe_str pa_nil)))) (nomark _)))))))))))))), ?_⟩
    refine ⟨_, rfl, a, ns, 0, rfl, hS, by decide, fun st H1 hst k1 t1 => ?_⟩
    have T1 : Drew st H H1 := ⟨k1.mono (by simp), t1⟩
    refine ⟨_, rfl, st, rfl, t1, fun T0 Lr Lo A B H2 d2 hT eT hLr hLo er eo oA oB vA vB sep fr nLr nLo nst => ?_⟩
    refine ⟨T0, _, rfl, SqT.of eT, rfl, _, _, rfl, _, _, rfl, rfl, ?_⟩
    have stK : ∀ {G : Hp}, StAt G st → ∃ u, G st = some u := fun t => by
      obtain ⟨sv, _, e⟩ := t
      exact ⟨_, e⟩
    have X0 : Both K H2 [st, Lr, Lo] A B [] [] :=
      { a := oA, b := oB, sep := sep, va := vA, vb := vB, ok := fun q hq => absurd hq List.not_mem_nil, nd := List.nodup_nil, out := (fun p hp => by
          simp only [List.mem_cons, List.not_mem_nil, or_false] at hp
          rcases hp with rfl | rfl | rfl
          · exact nst
          · exact nLr
          · exact nLo), kn := (fun p hp => by
          simp only [List.mem_cons, List.not_mem_nil, or_false] at hp
          rcases hp with rfl | rfl | rfl
          · exact stK d2.2
          · exact ⟨_, er⟩
          · exact ⟨_, eo⟩) }
    -- a small ring
    refine ⟨sz 2 (by decide), fun l0 hl0 => ?_⟩
    have kl0 : Kp [] H2 (upd H2 l0 (.lst [.str "a", .str "b"])) := Kp.new hl0
    have el0 : upd H2 l0 (.lst [.str "a", .str "b"]) l0 = some (.lst [.str "a", .str "b"]) := upd_same
    generalize upd H2 l0 (.lst [.str "a", .str "b"]) = H3 at kl0 el0 ⊢
    intro x dx hx hdx ndx
    have km : Kp [] H3 (upd (upd H3 dx (.own x)) x (.ins (cRing K) dx [])) := (Kp.new hdx).trans (Kp.new (by rw [upd_ne ndx.symm]; exact hx))
    refine ⟨x, dx, _, _, _, rfl, upd_same, .inr ⟨["a", "b"], ⟨l0, rfl, km _ _ el0 List.not_mem_nil, by decide, by decide⟩, by decide +kernel, .inr ⟨2, rfl, by decide, by decide, .inr ⟨0, rfl, by decide, fun r o G1 k2 hr ho R => ⟨rfl, ?_⟩⟩⟩⟩⟩
    rw [Jo.rotL_zero] at R
    have k3 : Kp [] H3 G1 := kp_nil ((km.mono (by simp)).trans k2) (one_none hx)
    obtain ⟨dx1, ei1⟩ := R.ins
    refine ⟨x, _, _, rfl, ei1, rfl, x, r, o, 2, _, _, rfl, R, fun p1 G2 k4 _ e4 => ?_⟩
    refine ⟨sz 2 (by decide), fun l1 hl1 => ?_⟩
    have kl1 : Kp [] G2 (upd G2 l1 (.lst [.str "a", .str "b"])) := Kp.new hl1
    refine neD_same (xs := [.str "a", .str "b"]) (SqL.of (kl1 _ _ e4 List.not_mem_nil)) (SqL.of upd_same) (by decide +kernel) ⟨_, rfl, iteF ?_⟩
    have kS := ((kl0.trans k3).trans k4).trans kl1
    have X0 := X0.keep0 kS
    have t3 := d2.2.same kS
    have er := kS _ _ er List.not_mem_nil
    have eo := kS _ _ eo List.not_mem_nil
    have hS3 := (T1.trans (d2.trans (Drew.kp kS d2.2))).lst0 hS hst
    generalize upd G2 l1 (.lst [.str "a", .str "b"]) = H4 at X0 t3 er eo hS3 ⊢
    -- the loop
    refine ⟨_, rfl, 2, rfl, 26, rfl, a, _, rfl, hS3, fun wl hwl => ?_⟩
    have xsI : ∀ v ∈ cutV (ns.map V.int) (some 2) (some 26), ∃ i : Int, v = .int i := fun v hv => map_int (mem_cut hv)
    have xsL : (cutV (ns.map V.int) (some 2) (some 26)).length ≤ 63 := by
      have := len_cut (ns.map V.int) (some 2) (some 26)
      rw [List.length_map] at this
      omega
    generalize cutV (ns.map V.int) (some 2) (some 26) = xs at xsI xsL ⊢
    have kwl : Kp [] H4 (upd H4 wl (.lst xs)) := Kp.new hwl
    have ewl : upd H4 wl (.lst xs) wl = some (.lst xs) := upd_same
    have X1 : Both K (upd H4 wl (.lst xs)) [st, Lr, Lo, wl] A B [] [] := X0.start (o := .lst xs) hwl
    have t4 := t3.same kwl
    have er := kwl _ _ er List.not_mem_nil
    have eo := kwl _ _ eo List.not_mem_nil
    generalize upd H4 wl (.lst xs) = H5 at X1 t4 er eo ewl ⊢
    refine ⟨wl, rfl, ⟨_, SqL.of ewl⟩, for_list (K := K) (a := wl) (xs := xs)
      (fun i σ' H' => ∃ (A' B' : Itm) (ha hb : List Hld) (v4 : Option V), σ' = [some (.ref a), some (.ref st), some (.ref Lr), some (.ref Lo), v4, none, none, none, none, none, none, none] ∧ Both K H' [st, Lr, Lo, wl] A' B' ha hb ∧ A'.x = A.x ∧ A'.d = A.d ∧ B'.x = B.x ∧ B'.d = B.d ∧
        ha.length ≤ i ∧ hb.length ≤ i ∧ StAt H' st ∧ H' Lr = some (.lst [.ref A.x, .ref B.x]) ∧ H' Lo = some (.lst [.ref A.d, .ref B.d]) ∧ H' wl = some (.lst xs))
      ⟨A, B, [], [], _, rfl, X1, rfl, rfl, rfl, rfl, Nat.le_refl _, Nat.le_refl _, t4, er, eo, ewl⟩ (fun _ _ _ _ ⟨_, _, _, _, _, _, _, _, _, _, _, _, _, _, _, _, e⟩ => SqL.of e) ?_ ?_⟩
    · rintro i v σ' H6 hi ⟨A', B', ha, hb, v4, rfl, X, ax, ad, bx, bd, lha, lhb, t6, er, eo, ewl⟩
      have hi63 : i < 63 := by
        have := (List.getElem?_eq_some_iff.mp hi).1
        omega
      obtain ⟨q, rfl⟩ := xsI _ (List.mem_of_getElem? hi)
      have m0 := Int.emod_nonneg q (show (2 : Int) ≠ 0 by decide)
      have m1 := Int.emod_lt_of_pos q (show (0 : Int) < 2 by decide)
      have tail : ∀ (A2 B2 : Itm) (ha2 hb2 : List Hld) (G : Hp), Both K G [st, Lr, Lo, wl] A2 B2 ha2 hb2 → A2.x = A.x → A2.d = A.d → B2.x = B.x → B2.d = B.d → ha2.length ≤ i + 1 → hb2.length ≤ i + 1 → (∀ p ∈ [st, Lr, Lo, wl], G p = H6 p) → StAt G st ∧ G Lr = some (.lst [.ref A.x, .ref B.x]) ∧ G Lo = some (.lst [.ref A.d, .ref B.d]) ∧ G wl = some (.lst xs) := fun A2 B2 ha2 hb2 G _ _ _ _ _ _ _ h => by
        refine ⟨?_, (h Lr (by simp)).trans er, (h Lo (by simp)).trans eo, (h wl (by simp)).trans ewl⟩
        obtain ⟨sv, ok, e⟩ := t6
        exact ⟨sv, ok, (h st (by simp)).trans e⟩
      rcases (show q % 2 = 0 ∨ q % 2 = 1 by omega) with c | c
      · refine ⟨_, rfl, _, rfl, _, _, rfl, rfl, by show (0 : Int) < _; decide, Lr, _, _, .ref A.x, rfl, rfl, SqL.of er, at_of (j := 0) c rfl, _, rfl, _, rfl, _, _, rfl, rfl, by show (0 : Int) < _; decide, Lo, _, _, .ref A.d, rfl, rfl, SqL.of eo, at_of (j := 0) c rfl, _, rfl, _, _, rfl, rfl, ⟨by decide, by decide⟩, ?_⟩
        refine ⟨A'.x, A'.r, A'.o, A'.d, A'.rw, A'.od, A'.hl, A'.s, A'.t, A'.row, A'.hv, q / 2, (show [V.ref A.x, V.ref A.d, V.int (q / 2)] = _ by rw [ax, ad]), X.a.R, X.a.ed, X.a.eo, X.a.eh, by rw [X.va, List.length_map]; omega, X.a.ht, X.a.hrow, X.a.ok, X.a.nhr, X.a.nho, X.a.noo, fun t' r' hv' G ht kk hr R ed eh hh => ⟨_, rfl, iteF ?_⟩⟩
        obtain ⟨ha2, X2, l2⟩ := X.step ht kk hr R ed eh hh
        have hW := X.kept kk
        obtain ⟨A2, eA2⟩ : ∃ A2 : Itm, A2 = { A' with t := t', r := r', hv := hv' } := ⟨_, rfl⟩
        have ax2 : A2.x = A.x := by rw [eA2]; exact ax
        have ad2 : A2.d = A.d := by rw [eA2]; exact ad
        rw [← eA2] at X2
        obtain ⟨tG, erG, eoG, ewG⟩ := tail A2 B' ha2 hb G X2 ax2 ad2 bx bd (by omega) (by omega) hW
        refine ⟨_, rfl, Lr, _, _, _, rfl, rfl, SqL.of erG, at_of (j := 0) rfl rfl, _, rfl, Lo, _, _, _, rfl, rfl, SqL.of eoG, at_of (j := 0) rfl rfl, A2.x, A2.r, A2.o, A2.d, A2.rw, A2.od, A2.hl, A2.s, A2.t, A2.row, (show [V.ref A.x, V.ref A.d] = _ by rw [ax2, ad2]), X2.a.R, X2.a.ed, X2.a.er, X2.a.eo, X2.a.ht, X2.a.hrow, X2.a.ok, fun G2 k2 => ⟨_, rfl, iteF ?_⟩⟩
        have X2 := X2.keep0 k2
        refine ⟨_, rfl, Lr, _, _, _, rfl, rfl, SqL.of (k2 _ _ erG List.not_mem_nil), at_of (j := 1) rfl rfl, _, rfl, Lo, _, _, _, rfl, rfl, SqL.of (k2 _ _ eoG List.not_mem_nil), at_of (j := 1) rfl rfl, B'.x, B'.r, B'.o, B'.d, B'.rw, B'.od, B'.hl, B'.s, B'.t, B'.row, (show [V.ref B.x, V.ref B.d] = _ by rw [bx, bd]), X2.b.R, X2.b.ed, X2.b.er, X2.b.eo, X2.b.ht, X2.b.hrow, X2.b.ok, fun G3 k3 => ⟨_, rfl, iteF ?_⟩⟩
        have kk := k2.trans k3
        exact ⟨A2, B', ha2, hb, _, rfl, X2.keep0 k3, ax2, ad2, bx, bd, by omega, by omega, tG.same kk, kk _ _ erG List.not_mem_nil, kk _ _ eoG List.not_mem_nil, kk _ _ ewG List.not_mem_nil⟩
      · refine ⟨_, rfl, _, rfl, _, _, rfl, rfl, by show (0 : Int) < _; decide, Lr, _, _, .ref B.x, rfl, rfl, SqL.of er, at_of (j := 1) c rfl, _, rfl, _, rfl, _, _, rfl, rfl, by show (0 : Int) < _; decide, Lo, _, _, .ref B.d, rfl, rfl, SqL.of eo, at_of (j := 1) c rfl, _, rfl, _, _, rfl, rfl, ⟨by decide, by decide⟩, ?_⟩
        refine ⟨B'.x, B'.r, B'.o, B'.d, B'.rw, B'.od, B'.hl, B'.s, B'.t, B'.row, B'.hv, q / 2, (show [V.ref B.x, V.ref B.d, V.int (q / 2)] = _ by rw [bx, bd]), X.b.R, X.b.ed, X.b.eo, X.b.eh, by rw [X.vb, List.length_map]; omega, X.b.ht, X.b.hrow, X.b.ok, X.b.nhr, X.b.nho, X.b.noo, fun t' r' hv' G ht kk hr R ed eh hh => ⟨_, rfl, iteF ?_⟩⟩
        obtain ⟨hb2, X2, l2⟩ := X.swap.step ht kk hr R ed eh hh
        have hW := X.swap.kept kk
        obtain ⟨B2, eB2⟩ : ∃ B2 : Itm, B2 = { B' with t := t', r := r', hv := hv' } := ⟨_, rfl⟩
        have bx2 : B2.x = B.x := by rw [eB2]; exact bx
        have bd2 : B2.d = B.d := by rw [eB2]; exact bd
        rw [← eB2] at X2
        have X2 := X2.swap
        obtain ⟨tG, erG, eoG, ewG⟩ := tail A' B2 ha hb2 G X2 ax ad bx2 bd2 (by omega) (by omega) hW
        refine ⟨_, rfl, Lr, _, _, _, rfl, rfl, SqL.of erG, at_of (j := 0) rfl rfl, _, rfl, Lo, _, _, _, rfl, rfl, SqL.of eoG, at_of (j := 0) rfl rfl, A'.x, A'.r, A'.o, A'.d, A'.rw, A'.od, A'.hl, A'.s, A'.t, A'.row, (show [V.ref A.x, V.ref A.d] = _ by rw [ax, ad]), X2.a.R, X2.a.ed, X2.a.er, X2.a.eo, X2.a.ht, X2.a.hrow, X2.a.ok, fun G2 k2 => ⟨_, rfl, iteF ?_⟩⟩
        have X2 := X2.keep0 k2
        refine ⟨_, rfl, Lr, _, _, _, rfl, rfl, SqL.of (k2 _ _ erG List.not_mem_nil), at_of (j := 1) rfl rfl, _, rfl, Lo, _, _, _, rfl, rfl, SqL.of (k2 _ _ eoG List.not_mem_nil), at_of (j := 1) rfl rfl, B2.x, B2.r, B2.o, B2.d, B2.rw, B2.od, B2.hl, B2.s, B2.t, B2.row, (show [V.ref B.x, V.ref B.d] = _ by rw [bx2, bd2]), X2.b.R, X2.b.ed, X2.b.er, X2.b.eo, X2.b.ht, X2.b.hrow, X2.b.ok, fun G3 k3 => ⟨_, rfl, iteF ?_⟩⟩
        have kk := k2.trans k3
        exact ⟨A', B2, ha, hb2, _, rfl, X2.keep0 k3, ax, ad, bx2, bd2, by omega, by omega, tG.same kk, kk _ _ erG List.not_mem_nil, kk _ _ eoG List.not_mem_nil, kk _ _ ewG List.not_mem_nil⟩
    rintro σ' H6 ⟨A', B', ha, hb, v4, rfl, X, ax, ad, bx, bd, lha, lhb, t6, er, eo, ewl⟩
    -- what was kept is still as it was
    refine ⟨_, rfl, Lo, rfl, ⟨_, SqL.of eo⟩, for_list (K := K) (a := Lo) (xs := [.ref A.d, .ref B.d])
      (fun j σ' H' => ∃ v5 v6 v7 : Option V, σ' = [some (.ref a), some (.ref st), some (.ref Lr), some (.ref Lo), v4, v5, v6, v7, none, none, none, none] ∧ Own K H' A' ∧ Own K H' B' ∧ StAt H' st ∧ H' Lr = some (.lst [.ref A.x, .ref B.x]) ∧ H' Lo = some (.lst [.ref A.d, .ref B.d]) ∧
        (∀ q ∈ remH ha hb j, HldOk H' (A'.fp ++ B'.fp ++ [st, Lr, Lo, wl]) q) ∧ (fus (remH ha hb j)).Nodup)
      ⟨_, _, _, rfl, X.a, X.b, t6, er, eo, X.ok, X.nd⟩ (fun _ _ _ _ ⟨_, _, _, _, _, _, _, _, e, _⟩ => SqL.of e) ?_ ?_⟩
    · rintro j v σ' H7 hj ⟨v5, v6, v7, rfl, oA, oB, t7, er, eo, ok, nd⟩
      obtain ⟨I, h1, h2, rfl, hI, oI, e1, e2, hvI⟩ : ∃ (I : Itm) (h1 h2 : List Hld), v = .ref I.d ∧ (I = A' ∨ I = B') ∧ Own K H7 I ∧ remH ha hb j = h1 ++ h2 ∧ remH ha hb (j + 1) = h2 ∧ I.hv = h1.map fun q => V.ref q.T := by
        match j, hj with
        | 0, hj => exact ⟨A', ha, hb, by rw [ad]; exact (Option.some.inj hj).symm, .inl rfl, oA, rfl, rfl, X.va⟩
        | 1, hj => exact ⟨B', hb, [], by rw [bd]; exact (Option.some.inj hj).symm, .inr rfl, oB, (List.append_nil hb).symm, rfl, X.vb⟩
        | j + 2, hj => cases hj
      rw [e1] at ok nd
      have ehl := oI.eh
      refine ⟨_, rfl, I.d, _, rfl, dget (k := .inr "held") oI.ed own_held, I.hl, rfl, ⟨_, SqL.of ehl⟩, for_list (K := K) (a := I.hl) (xs := I.hv)
        (fun m σ' H' => ∃ v6 v7 : Option V, σ' = [some (.ref a), some (.ref st), some (.ref Lr), some (.ref Lo), v4, some (.ref I.d), v6, v7, none, none, none, none] ∧ Own K H' A' ∧ Own K H' B' ∧ StAt H' st ∧ H' Lr = some (.lst [.ref A.x, .ref B.x]) ∧ H' Lo = some (.lst [.ref A.d, .ref B.d]) ∧
          (∀ q ∈ h1.drop m ++ h2, HldOk H' (A'.fp ++ B'.fp ++ [st, Lr, Lo, wl]) q) ∧ (fus (h1.drop m ++ h2)).Nodup)
        ⟨_, _, rfl, oA, oB, t7, er, eo, ok, nd⟩ (fun _ _ _ _ ⟨_, _, _, oA, oB, _⟩ => SqL.of (by
          rcases hI with rfl | rfl
          · exact oA.eh
          · exact oB.eh)) ?_ ?_⟩
      · rintro m vv σ' H8 hm ⟨v6, v7, rfl, oA, oB, t8, er, eo, ok, nd⟩
        rw [hvI, List.getElem?_map] at hm
        obtain ⟨q, eq, rfl⟩ := Option.map_eq_some_iff.mp hm
        obtain ⟨hml, eqm⟩ := List.getElem?_eq_some_iff.mp eq
        have dr : h1.drop m = q :: h1.drop (m + 1) := by rw [List.drop_eq_getElem_cons hml, eqm]
        rw [dr] at ok nd
        obtain ⟨g1, g2, g3, ⟨gl, g4⟩, g5, g6⟩ := ok q (by simp)
        have nd : (q.f :: q.u :: fus (h1.drop (m + 1) ++ h2)).Nodup := nd
        obtain ⟨n1, nd⟩ := List.nodup_cons.mp nd
        obtain ⟨n2, nd⟩ := List.nodup_cons.mp nd
        refine ⟨q.T, _, rfl, SqT.of g1, rfl, _, _, rfl, _, _, rfl, rfl, ?_⟩
        refine ⟨_, rfl, _, _, _, _, true, rfl, .ty _, .base (.lst g2), kit_ty (by decide +kernel), _, rfl, iteF ?_⟩
        refine ⟨_, rfl, _, rfl, neD_same (SqL.of g2) (SqL.of g3) (isS_texts g4) ⟨_, rfl, iteF ?_⟩⟩
        refine ⟨_, rfl, .inl ⟨rfl, _, SqL.of g2⟩, q.f, _, _, rfl, rfl, g2, szl _ (by rw [List.length_map]; omega), ?_⟩
        have kp : Kp [q.f] H8 (upd H8 q.f (.lst (q.zs.map V.str ++ [.str "more"]))) := Kp.put (List.mem_singleton.mpr rfl)
        have nW : ∀ p ∈ A'.fp ++ B'.fp ++ [st, Lr, Lo, wl], p ∉ [q.f] := fun p hp z => g5 (by rw [← List.mem_singleton.mp z]; exact hp)
        have nw : ∀ p ∈ [st, Lr, Lo, wl], p ∉ [q.f] := fun p hp => nW p (List.mem_append_right _ hp)
        refine ⟨_, _, rfl, oA.keep kp fun p hp => nW p (List.mem_append_left _ (List.mem_append_left _ hp)), oB.keep kp fun p hp => nW p (List.mem_append_left _ (List.mem_append_right _ hp)), t8.keep kp (nw st (by simp)), kp _ _ er (nw Lr (by simp)), kp _ _ eo (nw Lo (by simp)), fun q' hq' => ?_, nd⟩
        obtain ⟨c1, c2, c3, c4, c5, c6⟩ := ok q' (List.mem_cons_of_mem _ hq')
        have inf : ∀ p, p = q'.f ∨ p = q'.u → p ∈ fus (h1.drop (m + 1) ++ h2) := fun p hp => List.mem_flatMap.mpr ⟨q', hq', by simpa using hp⟩
        have ne : ∀ p, p = q'.f ∨ p = q'.u → p ≠ q.f := fun p hp z => n1 (by rw [← z]; exact List.mem_cons_of_mem _ (inf p hp))
        exact ⟨kp.one c1 (fun z => by rw [z, g2] at c1; cases c1), kp.one c2 (ne _ (.inl rfl)), kp.one c3 (ne _ (.inr rfl)), c4, c5, c6⟩
      · rintro σ' H8 ⟨v6, v7, rfl, oA, oB, t8, er, eo, ok, nd⟩
        have lv : I.hv.length = h1.length := by rw [hvI, List.length_map]
        rw [lv, List.drop_length, List.nil_append] at ok nd
        rw [← e2] at ok nd
        exact ⟨_, _, _, rfl, oA, oB, t8, er, eo, ok, nd⟩
    rintro σ' H7 ⟨v5, v6, v7, rfl, oA, oB, t7, er, eo, _, _⟩
    refine ⟨_, rfl, Lr, _, _, _, rfl, rfl, SqL.of er, at_of (j := 0) rfl rfl, _, rfl, Lo, _, _, _, rfl, rfl, SqL.of eo, at_of (j := 0) rfl rfl, A'.x, A'.r, A'.o, A'.d, A'.rw, A'.od, A'.hl, A'.s, A'.t, A'.row, (show [V.ref A.x, V.ref A.d] = _ by rw [ax, ad]), oA.R, oA.ed, oA.er, oA.eo, oA.ht, oA.hrow, oA.ok, fun G2 k2 => ⟨_, rfl, iteF ?_⟩⟩
    have oB := oB.keep0 k2
    refine ⟨_, rfl, Lr, _, _, _, rfl, rfl, SqL.of (k2 _ _ er List.not_mem_nil), at_of (j := 1) rfl rfl, _, rfl, Lo, _, _, _, rfl, rfl, SqL.of (k2 _ _ eo List.not_mem_nil), at_of (j := 1) rfl rfl, B'.x, B'.r, B'.o, B'.d, B'.rw, B'.od, B'.hl, B'.s, B'.t, B'.row, (show [V.ref B.x, V.ref B.d] = _ by rw [bx, bd]), oB.R, oB.ed, oB.er, oB.eo, oB.ht, oB.hrow, oB.ok, fun G3 k3 => ⟨_, rfl, iteF ?_⟩⟩
    have t9 := t7.same (k2.trans k3)
    -- refusals
    refine ⟨sz 3 (by decide), fun hd hhd => ?_⟩
    have th := t9.new (o := .lst [.str "a", .str "b", .str "c"]) hhd
    have eh : upd G3 hd (.lst [.str "a", .str "b", .str "c"]) hd = some (.lst [.str "a", .str "b", .str "c"]) := upd_same
    have nhd := t9.fresh hhd
    generalize upd G3 hd (.lst [.str "a", .str "b", .str "c"]) = Z0 at th eh ⊢
    have tq := th
    have kq := Kp.refl (ws := []) Z0
    refine ⟨_, rfl, ?_⟩
    refine ⟨sz 0 (by decide), fun a1 ha1 => ?_⟩
    have ka1 : Kp [] Z0 (upd Z0 a1 (.lst [])) := Kp.new ha1
    have ea1 : upd Z0 a1 (.lst []) a1 = some (.lst []) := upd_same
    have th := th.new (o := .lst []) ha1
    have eh := ka1 _ _ eh List.not_mem_nil
    have fa1 := tq.fresh (kq.free ha1 List.not_mem_nil)
    have kq := kq.trans ka1
    generalize upd Z0 a1 (.lst []) = Za1 at ka1 ea1 th kq eh ⊢
    refine ⟨sz 2 (by decide), fun a2 ha2 => ?_⟩
    have ka2 : Kp [] Za1 (upd Za1 a2 (.lst [.str "a", .str "a"])) := Kp.new ha2
    have ea2 : upd Za1 a2 (.lst [.str "a", .str "a"]) a2 = some (.lst [.str "a", .str "a"]) := upd_same
    have th := th.new (o := .lst [.str "a", .str "a"]) ha2
    have eh := ka2 _ _ eh List.not_mem_nil
    have ea1 := ka2 _ _ ea1 List.not_mem_nil
    have fa2 := tq.fresh (kq.free ha2 List.not_mem_nil)
    have kq := kq.trans ka2
    generalize upd Za1 a2 (.lst [.str "a", .str "a"]) = Za2 at ka2 ea2 th kq eh ea1 ⊢
    refine ⟨sz 1 (by decide), fun a3 ha3 => ?_⟩
    have ka3 : Kp [] Za2 (upd Za2 a3 (.tup [.str "a"])) := Kp.new ha3
    have ea3 : upd Za2 a3 (.tup [.str "a"]) a3 = some (.tup [.str "a"]) := upd_same
    have th := th.new (o := .tup [.str "a"]) ha3
    have eh := ka3 _ _ eh List.not_mem_nil
    have ea1 := ka3 _ _ ea1 List.not_mem_nil
    have ea2 := ka3 _ _ ea2 List.not_mem_nil
    have fa3 := tq.fresh (kq.free ha3 List.not_mem_nil)
    have kq := kq.trans ka3
    generalize upd Za2 a3 (.tup [.str "a"]) = Za3 at ka3 ea3 th kq eh ea1 ea2 ⊢
    refine ⟨sz 2 (by decide), fun a4 ha4 => ?_⟩
    have ka4 : Kp [] Za3 (upd Za3 a4 (.lst [.str "a", .int 1])) := Kp.new ha4
    have ea4 : upd Za3 a4 (.lst [.str "a", .int 1]) a4 = some (.lst [.str "a", .int 1]) := upd_same
    have th := th.new (o := .lst [.str "a", .int 1]) ha4
    have eh := ka4 _ _ eh List.not_mem_nil
    have ea1 := ka4 _ _ ea1 List.not_mem_nil
    have ea2 := ka4 _ _ ea2 List.not_mem_nil
    have ea3 := ka4 _ _ ea3 List.not_mem_nil
    have fa4 := tq.fresh (kq.free ha4 List.not_mem_nil)
    have kq := kq.trans ka4
    generalize upd Za3 a4 (.lst [.str "a", .int 1]) = Za4 at ka4 ea4 th kq eh ea1 ea2 ea3 ⊢
    refine ⟨sz 6 (by decide), fun a5 ha5 => ?_⟩
    have ka5 : Kp [] Za4 (upd Za4 a5 (.lst [.ref a1, .ref a2, .non, .ref a3, .ref a4, .str "ab"])) := Kp.new ha5
    have ea5 : upd Za4 a5 (.lst [.ref a1, .ref a2, .non, .ref a3, .ref a4, .str "ab"]) a5 = some (.lst [.ref a1, .ref a2, .non, .ref a3, .ref a4, .str "ab"]) := upd_same
    have th := th.new (o := .lst [.ref a1, .ref a2, .non, .ref a3, .ref a4, .str "ab"]) ha5
    have eh := ka5 _ _ eh List.not_mem_nil
    have ea1 := ka5 _ _ ea1 List.not_mem_nil
    have ea2 := ka5 _ _ ea2 List.not_mem_nil
    have ea3 := ka5 _ _ ea3 List.not_mem_nil
    have ea4 := ka5 _ _ ea4 List.not_mem_nil
    have fa5 := tq.fresh (kq.free ha5 List.not_mem_nil)
    have kq := kq.trans ka5
    generalize upd Za4 a5 (.lst [.ref a1, .ref a2, .non, .ref a3, .ref a4, .str "ab"]) = Za5 at ka5 ea5 th kq eh ea1 ea2 ea3 ea4 ⊢
    refine ⟨st, _, rfl, th, .inl ⟨a5, _, rfl, SqL.of ea5, by simp, fa5, fun Y1 bad hv1 d1 => ?_⟩⟩
    refine ⟨_, rfl, _, rfl, _, _, rfl, rfl, ⟨by decide, by decide, by decide⟩, _, _, rfl, rfl, sz 6 (by decide), fun p2 hp2 => ?_⟩
    refine ⟨st, _, rfl, d1.2.new hp2, .inl ⟨p2, _, rfl, SqL.of upd_same, by simp, d1.2.fresh hp2, fun Y2 odd hv2 d2' => ?_⟩⟩
    have D2 : Drew st Y1 Y2 := ((Drew.refl d1.2).new hp2).trans d2'
    have B2 : BadV st Y2 1 (10 ^ 60) odd := by
      simp only [List.mem_cons, List.not_mem_nil, or_false] at hv2
      rcases hv2 with rfl | rfl | rfl | rfl | rfl | rfl
      · exact badI (by decide)
      · exact badI (by decide)
      · exact badN
      · exact badB
      · exact badS
      · exact badI (by decide)
    refine ⟨_, rfl, _, rfl, sz 5 (by decide), fun p3 hp3 => ?_⟩
    refine ⟨st, _, rfl, d2'.2.new hp3, .inl ⟨p3, _, rfl, SqL.of upd_same, by simp, d2'.2.fresh hp3, fun Y3 off hv3 d3 => ?_⟩⟩
    have D3 : Drew st Y2 Y3 := ((Drew.refl d2'.2).new hp3).trans d3
    have B3 : BadV st Y3 0 (((["a", "b", "c"] : List Str).length : Int) - 1) off := by
      simp only [List.mem_cons, List.not_mem_nil, or_false] at hv3
      rcases hv3 with rfl | rfl | rfl | rfl | rfl
      · exact badI (by decide)
      · exact badI (by decide)
      · exact badN
      · exact badB
      · exact badS
    have B2 := B2.keep D3.1
    have DD := (d1.trans D2).trans D3
    have eh := DD.at eh nhd
    have e1 := DD.at ea1 fa1
    have e2 := DD.at ea2 fa2
    have e3 := DD.at ea3 fa3
    have e4 := DD.at ea4 fa4
    have B1 : OddV K Y3 bad := by
      simp only [List.mem_cons, List.not_mem_nil, or_false] at hv1
      rcases hv1 with rfl | rfl | rfl | rfl | rfl | rfl
      · exact .inr (.inl ⟨a1, _, rfl, e1, .inl rfl⟩)
      · exact .inr (.inr ⟨["a", "a"], ⟨a2, rfl, e2, by decide, by decide⟩, by decide +kernel⟩)
      · exact .inl ⟨_, fun _ _ => .base .non, by simp⟩
      · exact .inl ⟨_, fun _ kk => .base (.tup (kk _ _ e3 List.not_mem_nil)), by simp⟩
      · refine .inr (.inl ⟨a4, _, rfl, e4, .inr (.inr ⟨rfl, fun v hv => ?_⟩)⟩)
        simp only [List.mem_cons, List.not_mem_nil, or_false] at hv
        rcases hv with rfl | rfl
        · exact .inl rfl
        · exact .inr .int
      · exact .inl ⟨_, fun _ _ => .base (.str _), by simp⟩
    have row : ∀ {Y : Hp}, Kp [] Y3 Y → RowV Y (.ref hd) ["a", "b", "c"] := fun kk => ⟨hd, rfl, kk _ _ eh List.not_mem_nil, by decide, by decide⟩
    refine ⟨_, rfl, _, rfl, _, rfl, _, _, _, rfl, .inl ⟨B1, fun K1 k1 => ⟨rfl, "NoRing", "ring", by simp [errNames], rfl, fun K2 k2 => ?_⟩⟩⟩
    have q1 := k1.trans k2
    refine ⟨_, rfl, _, rfl, _, rfl, _, _, _, rfl, .inr ⟨["a", "b", "c"], row q1, by decide +kernel, .inl ⟨B2.outK.keep q1, fun K3 k3 => ⟨rfl, "NoStep", "step", by simp [errNames], rfl, fun K4 k4 => ?_⟩⟩⟩⟩
    have q2 := (q1.trans k3).trans k4
    refine ⟨_, rfl, _, rfl, _, _, _, rfl, .inr ⟨["a", "b", "c"], row q2, by decide +kernel, .inr ⟨2, rfl, by decide, by decide, .inl ⟨B3.outK.keep q2, fun K5 k5 => ⟨rfl, "NoPlace", "place", by simp [errNames], rfl, fun K6 k6 => ?_⟩⟩⟩⟩⟩
    refine ⟨sz 3 (by decide), fun l3 hl3 => ?_⟩
    refine ⟨sz 3 (by decide), fun l4 hl4 => ?_⟩
    exact eqD_same (SqL.of (by rw [upd_ne (ne_of_none upd_same hl4)]; exact upd_same)) (SqL.of upd_same) (by decide +kernel) (hQ _)
end
end Lz
namespace Lz
open PySem PySem.Spec PyProof.Rows L2

def d__law_cell_at : He.DefD := ⟨("_law_cell_at", none), "_law_cell_at", "_law_cell_at", defArgs s__law_cell_at, defBody s__law_cell_at, defScope s__law_cell_at, [], []⟩
def d__law_state : He.DefD := ⟨("_law_state", none), "_law_state", "_law_state", defArgs s__law_state, defBody s__law_state, defScope s__law_state, [], []⟩
def d__law_turned : He.DefD := ⟨("_law_turned", none), "_law_turned", "_law_turned", defArgs s__law_turned, defBody s__law_turned, defScope s__law_turned, [], []⟩
def d__law_next_first : He.DefD := ⟨("_law_next_first", none), "_law_next_first", "_law_next_first", defArgs s__law_next_first, defBody s__law_next_first, defScope s__law_next_first, [], []⟩
def d_Ring_left : He.DefD := ⟨("Ring", some "left"), "left", "Ring.left", defArgs s_Ring_left, defBody s_Ring_left, defScope s_Ring_left, [], []⟩
def d_Ring_gone : He.DefD := ⟨("Ring", some "gone"), "gone", "Ring.gone", defArgs s_Ring_gone, defBody s_Ring_gone, defScope s_Ring_gone, [], []⟩
def d__law_shown : He.DefD := ⟨("_law_shown", none), "_law_shown", "_law_shown", defArgs s__law_shown, defBody s__law_shown, defScope s__law_shown, [], []⟩
def d_from_place : He.DefD := ⟨("from_place", none), "from_place", "from_place", defArgs s_from_place, defBody s_from_place, defScope s_from_place, [], []⟩
def d_behind_count : He.DefD := ⟨("behind_count", none), "behind_count", "behind_count", defArgs s_behind_count, defBody s_behind_count, defScope s_behind_count, [], []⟩
def d_Ring_count : He.DefD := ⟨("Ring", some "count"), "count", "Ring.count", defArgs s_Ring_count, defBody s_Ring_count, defScope s_Ring_count, [], []⟩
def d_is_number : He.DefD := ⟨("is_number", none), "is_number", "is_number", defArgs s_is_number, defBody s_is_number, defScope s_is_number, [], []⟩
def d_need_count : He.DefD := ⟨("need_count", none), "need_count", "need_count", defArgs s_need_count, defBody s_need_count, defScope s_need_count, [], []⟩
def d_Ring_counts : He.DefD := ⟨("Ring", some "counts"), "counts", "Ring.counts", defArgs s_Ring_counts, defBody s_Ring_counts, defScope s_Ring_counts, [], []⟩
def d__law_error : He.DefD := ⟨("_law_error", none), "_law_error", "_law_error", defArgs s__law_error, defBody s__law_error, defScope s__law_error, [], []⟩
def d__law_tried : He.DefD := ⟨("_law_tried", none), "_law_tried", "_law_tried", defArgs s__law_tried, defBody s__law_tried, defScope s__law_tried, [], []⟩
def d__law_done : He.DefD := ⟨("_law_done", none), "_law_done", "_law_done", defArgs s__law_done, defBody s__law_done, defScope s__law_done, [], []⟩
def d__law_next : He.DefD := ⟨("_law_next", none), "_law_next", "_law_next", defArgs s__law_next, defBody s__law_next, defScope s__law_next, [], []⟩
def d__law_of : He.DefD := ⟨("_law_of", none), "_law_of", "_law_of", defArgs s__law_of, defBody s__law_of, defScope s__law_of, [], []⟩
def d__law_hands : He.DefD := ⟨("_law_hands", none), "_law_hands", "_law_hands", defArgs s__law_hands, defBody s__law_hands, defScope s__law_hands, [], []⟩
def d__law_step : He.DefD := ⟨("_law_step", none), "_law_step", "_law_step", defArgs s__law_step, defBody s__law_step, defScope s__law_step, [], []⟩
def d__law_far : He.DefD := ⟨("_law_far", none), "_law_far", "_law_far", defArgs s__law_far, defBody s__law_far, defScope s__law_far, [], []⟩
def d__law_out : He.DefD := ⟨("_law_out", none), "_law_out", "_law_out", defArgs s__law_out, defBody s__law_out, defScope s__law_out, [], []⟩
def d_is_ring : He.DefD := ⟨("is_ring", none), "is_ring", "is_ring", defArgs s_is_ring, defBody s_is_ring, defScope s_is_ring, [], []⟩
def d_need_ring : He.DefD := ⟨("need_ring", none), "need_ring", "need_ring", defArgs s_need_ring, defBody s_need_ring, defScope s_need_ring, [], []⟩
def d_need_step : He.DefD := ⟨("need_step", none), "need_step", "need_step", defArgs s_need_step, defBody s_need_step, defScope s_need_step, [], []⟩
def d_need_place : He.DefD := ⟨("need_place", none), "need_place", "need_place", defArgs s_need_place, defBody s_need_place, defScope s_need_place, [], []⟩
def d_Ring___init__ : He.DefD := ⟨("Ring", some "__init__"), "__init__", "Ring.__init__", defArgs s_Ring___init__, defBody s_Ring___init__, defScope s_Ring___init__, [.int (0)], []⟩
def d__law_rings : He.DefD := ⟨("_law_rings", none), "_law_rings", "_law_rings", defArgs s__law_rings, defBody s__law_rings, defScope s__law_rings, [], []⟩
def d__law_made : He.DefD := ⟨("_law_made", none), "_law_made", "_law_made", defArgs s__law_made, defBody s__law_made, defScope s__law_made, [], []⟩
def d_law : He.DefD := ⟨("law", none), "law", "law", defArgs s_law, defBody s_law, defScope s_law, [], []⟩
def fn : List He.DefD := [d__law_cell_at, d__law_state, d__law_turned, d__law_next_first, d_Ring_left, d_Ring_gone, d__law_shown, d_from_place, d_behind_count, d_Ring_count, d_is_number, d_need_count, d_Ring_counts, d__law_error, d__law_tried, d__law_done, d__law_next, d__law_of, d__law_hands, d__law_step, d__law_far, d__law_out, d_is_ring, d_need_ring, d_need_step, d_need_place, d_Ring___init__, d__law_rings, d__law_made, d_law]
def fa : List He.Fa := [.glo "_law_cell_at", .glo "_law_state", .glo "_law_turned", .glo "_law_next_first", .meth "Ring" "left", .meth "Ring" "gone", .glo "_law_shown", .glo "from_place", .glo "behind_count", .meth "Ring" "count", .glo "is_number", .glo "need_count", .meth "Ring" "counts", .glo "_law_error", .glo "_law_tried", .glo "_law_done", .glo "_law_next", .glo "_law_of", .glo "_law_hands", .glo "_law_step", .glo "_law_far", .glo "_law_out", .glo "is_ring", .glo "need_ring", .glo "need_step", .glo "need_place", .mkr "Ring", .glo "_law_rings", .glo "_law_made", .glo "law", .free "len", .free "range", .free "list", .free "min", .free "max", .free "isinstance", .free "int", .free "bool", .free "str", .free "enumerate", .free "all", .free "set", .free "ValueError", .int "GREATEST" (1000000000000000000000000000000000000000000000000000000000000), .int "MOST_HANDS" (200), .int "MOST_COME" (400), .glo "CountError", .glo "NoRing", .glo "NoMany", .glo "NoStep", .glo "NoPlace", .glo "NoCount", .glo "NoHand", .glo "TwiceTold", .glo "TooMany", .glo "Ring", .keep "CountError", .exc "NoRing", .exm "NoRing" "CountError" true, .exc "NoMany", .exm "NoMany" "CountError" true, .exc "NoStep", .exm "NoStep" "CountError" true, .exc "NoPlace", .exm "NoPlace" "CountError" true, .exc "NoCount", .exm "NoCount" "CountError" true, .exc "NoHand", .exm "NoHand" "CountError" true, .exc "TwiceTold", .exm "TwiceTold" "CountError" true, .exc "TooMany", .exm "TooMany" "CountError" true, .cls "Ring", .noat "Ring" "step", .noat "Ring" "rest", .noat "Ring" "out"]
def nm0 : List PySem.Str := ["_wall", "CountError", "NoRing", "NoMany", "NoStep", "NoPlace", "NoCount", "NoHand", "TwiceTold", "TooMany", "is_number", "need_step", "need_place", "need_count", "is_ring", "need_ring", "from_place", "behind_count", "Ring", "_law_cell_at", "_law_next", "_law_state", "_law_of", "_law_far", "_law_hands", "_law_turned", "_law_out", "_law_step", "_law_error", "_law_tried"]
def nm1 : List PySem.Str := ["_law_made", "_law_shown", "_law_next_first", "_law_done", "_law_rings", "GREATEST", "MOST_HANDS", "MOST_COME"]
def nms : List PySem.Str := nm0 ++ nm1
abbrev R : PySem.W.OpenRow := PySem.W.OpenLaw.row PySem.Challenge.rw_countout_k08_rings_counted
def exB (K : PySem.W.Frag) : Bool := errB K (errNames.map (·.1))
abbrev hk : PySem.W.Hook := He.hookX 5 fa fn [] [] exB
def ob (s : PySem.W.SharedT) : He.AlX := He.obsX 5 fa fn [] [] exB (HandSHeadRun.getT s)
theorem ob_eq (s : PySem.W.SharedT) : ob s = hk.obs s.abs := He.obsX_eq (HandSHeadRun.getT_eq s)
theorem run_top (w : World) : HandSHeadRun.RunEq R (PySem.W.view R.prog [43]) hk ob 6000 nms w := by
  intro os
  kernel_rfl
theorem txt_of {K : PySem.W.Frag} {h : Heap} {mg : Str → Option Value} (X : K.In h) (G : h.Ns mainGlobals mg) (c : He.SaysD fa fn K) (ce : exB K = true) : Txt K mg where
  b_len := He.free_ok X G (c.fact 30 (f := .free "len") rfl)
  b_range := He.free_ok X G (c.fact 31 (f := .free "range") rfl)
  b_list := He.free_ok X G (c.fact 32 (f := .free "list") rfl)
  b_min := He.free_ok X G (c.fact 33 (f := .free "min") rfl)
  b_max := He.free_ok X G (c.fact 34 (f := .free "max") rfl)
  b_isinstance := He.free_ok X G (c.fact 35 (f := .free "isinstance") rfl)
  b_int := He.free_ok X G (c.fact 36 (f := .free "int") rfl)
  b_bool := He.free_ok X G (c.fact 37 (f := .free "bool") rfl)
  b_str := He.free_ok X G (c.fact 38 (f := .free "str") rfl)
  b_enumerate := He.free_ok X G (c.fact 39 (f := .free "enumerate") rfl)
  b_all := He.free_ok X G (c.fact 40 (f := .free "all") rfl)
  b_set := He.free_ok X G (c.fact 41 (f := .free "set") rfl)
  b_ValueError := He.free_ok X G (c.fact 42 (f := .free "ValueError") rfl)
  c_GREATEST := He.int_ok X G (c.fact 43 (f := .int "GREATEST" (1000000000000000000000000000000000000000000000000000000000000)) rfl)
  c_MOST_HANDS := He.int_ok X G (c.fact 44 (f := .int "MOST_HANDS" (200)) rfl)
  c_MOST_COME := He.int_ok X G (c.fact 45 (f := .int "MOST_COME" (400)) rfl)
  g_CountError := He.glo_ok X G (c.fact 46 (f := .glo "CountError") rfl)
  g_NoRing := He.glo_ok X G (c.fact 47 (f := .glo "NoRing") rfl)
  g_NoMany := He.glo_ok X G (c.fact 48 (f := .glo "NoMany") rfl)
  g_NoStep := He.glo_ok X G (c.fact 49 (f := .glo "NoStep") rfl)
  g_NoPlace := He.glo_ok X G (c.fact 50 (f := .glo "NoPlace") rfl)
  g_NoCount := He.glo_ok X G (c.fact 51 (f := .glo "NoCount") rfl)
  g_NoHand := He.glo_ok X G (c.fact 52 (f := .glo "NoHand") rfl)
  g_TwiceTold := He.glo_ok X G (c.fact 53 (f := .glo "TwiceTold") rfl)
  g_TooMany := He.glo_ok X G (c.fact 54 (f := .glo "TooMany") rfl)
  g_Ring := He.glo_ok X G (c.fact 55 (f := .glo "Ring") rfl)
  x_CountError := He.keep_ok (c.fact 56 (f := .keep "CountError") rfl)
  x_NoRing := exct (c.fact 57 (f := .exc "NoRing") rfl)
  x_NoMany := exct (c.fact 59 (f := .exc "NoMany") rfl)
  x_NoStep := exct (c.fact 61 (f := .exc "NoStep") rfl)
  x_NoPlace := exct (c.fact 63 (f := .exc "NoPlace") rfl)
  x_NoCount := exct (c.fact 65 (f := .exc "NoCount") rfl)
  x_NoHand := exct (c.fact 67 (f := .exc "NoHand") rfl)
  x_TwiceTold := exct (c.fact 69 (f := .exc "TwiceTold") rfl)
  x_TooMany := exct (c.fact 71 (f := .exc "TooMany") rfl)
  cl_Ring := He.cls_ok (c.fact 73 (f := .cls "Ring") rfl)
  n_step := He.noat_ok (c.fact 74 (f := .noat "Ring" "step") rfl)
  n_rest := He.noat_ok (c.fact 75 (f := .noat "Ring" "rest") rfl)
  n_out := He.noat_ok (c.fact 76 (f := .noat "Ring" "out") rfl)
  err := errB_ok ce
theorem facts {P : Program} {w : World} {K : PySem.W.Frag} {h : Heap} {mg : Str → Option Value} {f : Addr} (X : K.In h) (G : h.Ns mainGlobals mg) (hfa : mg ("law" : Str) = some (.ref f)) (c : He.SaysD fa fn K) (ce : exB K = true) :
    ∃ fd : FuncData, (∀ (s : Shared) (v : Value), BindsTo s fd ⟨[v], []⟩ [("_law_script", v)]) ∧ ∀ base : Heap, K.In base → base.Ns mainGlobals mg → FnOk P w K mg base CX0 7 f fd ["_law_script"] (spLaw K) := by
  have T := txt_of X G c ce
  obtain ⟨fd__law_cell_at, F__law_cell_at⟩ := c.def_ 0 (d := d__law_cell_at) rfl
  obtain ⟨fd__law_state, F__law_state⟩ := c.def_ 1 (d := d__law_state) rfl
  obtain ⟨fd__law_turned, F__law_turned⟩ := c.def_ 2 (d := d__law_turned) rfl
  obtain ⟨fd__law_next_first, F__law_next_first⟩ := c.def_ 3 (d := d__law_next_first) rfl
  obtain ⟨fd_Ring_left, F_Ring_left⟩ := c.def_ 4 (d := d_Ring_left) rfl
  obtain ⟨fd_Ring_gone, F_Ring_gone⟩ := c.def_ 5 (d := d_Ring_gone) rfl
  obtain ⟨fd__law_shown, F__law_shown⟩ := c.def_ 6 (d := d__law_shown) rfl
  obtain ⟨fd_from_place, F_from_place⟩ := c.def_ 7 (d := d_from_place) rfl
  obtain ⟨fd_behind_count, F_behind_count⟩ := c.def_ 8 (d := d_behind_count) rfl
  obtain ⟨fd_Ring_count, F_Ring_count⟩ := c.def_ 9 (d := d_Ring_count) rfl
  obtain ⟨fd_is_number, F_is_number⟩ := c.def_ 10 (d := d_is_number) rfl
  obtain ⟨fd_need_count, F_need_count⟩ := c.def_ 11 (d := d_need_count) rfl
  obtain ⟨fd_Ring_counts, F_Ring_counts⟩ := c.def_ 12 (d := d_Ring_counts) rfl
  obtain ⟨fd__law_error, F__law_error⟩ := c.def_ 13 (d := d__law_error) rfl
  obtain ⟨fd__law_tried, F__law_tried⟩ := c.def_ 14 (d := d__law_tried) rfl
  obtain ⟨fd__law_done, F__law_done⟩ := c.def_ 15 (d := d__law_done) rfl
  obtain ⟨fd__law_next, F__law_next⟩ := c.def_ 16 (d := d__law_next) rfl
  obtain ⟨fd__law_of, F__law_of⟩ := c.def_ 17 (d := d__law_of) rfl
  obtain ⟨fd__law_hands, F__law_hands⟩ := c.def_ 18 (d := d__law_hands) rfl
  obtain ⟨fd__law_step, F__law_step⟩ := c.def_ 19 (d := d__law_step) rfl
  obtain ⟨fd__law_far, F__law_far⟩ := c.def_ 20 (d := d__law_far) rfl
  obtain ⟨fd__law_out, F__law_out⟩ := c.def_ 21 (d := d__law_out) rfl
  obtain ⟨fd_is_ring, F_is_ring⟩ := c.def_ 22 (d := d_is_ring) rfl
  obtain ⟨fd_need_ring, F_need_ring⟩ := c.def_ 23 (d := d_need_ring) rfl
  obtain ⟨fd_need_step, F_need_step⟩ := c.def_ 24 (d := d_need_step) rfl
  obtain ⟨fd_need_place, F_need_place⟩ := c.def_ 25 (d := d_need_place) rfl
  obtain ⟨fd_Ring___init__, F_Ring___init__⟩ := c.def_ 26 (d := d_Ring___init__) rfl
  obtain ⟨fd__law_rings, F__law_rings⟩ := c.def_ 27 (d := d__law_rings) rfl
  obtain ⟨fd__law_made, F__law_made⟩ := c.def_ 28 (d := d__law_made) rfl
  obtain ⟨fd_law, F_law⟩ := c.def_ 29 (d := d_law) rfl
  have e := hfa.symm.trans (He.glo_ok X G (c.fact 29 (f := .glo "law") rfl))
  cases e
  refine ⟨fd_law, fun s v => FunD.bindsA (ps := ["_law_script"]) F_law (fun _ _ _ _ _ _ us hl => match us, hl with | [_], _ => rfl) s [v] rfl, fun base _ _ => ?_⟩
  have O__law_cell_at := ok__law_cell_at (P := P) (w := w) (base := base) F__law_cell_at T 
  have G__law_cell_at : FnAt P w K mg base CX0 1 "_law_cell_at" ["_law_script", "_law_k"] [] (spCell K) := by
    exact ⟨_, _, [], He.glo_ok X G (c.fact 0 (f := .glo "_law_cell_at") rfl), F__law_cell_at.kp, FunD.bindsN (ps := ["_law_script", "_law_k"]) F__law_cell_at (fun _ _ _ _ _ _ us hl => match us, hl with | [_, _], _ => rfl), .nil, O__law_cell_at⟩
  have O__law_state := ok__law_state (P := P) (w := w) (base := base) F__law_state T G__law_cell_at
  have G__law_state : FnAt P w K mg base CX0 2 "_law_state" ["_law_script", "_law_first"] [] (spState K) := by
    exact ⟨_, _, [], He.glo_ok X G (c.fact 1 (f := .glo "_law_state") rfl), F__law_state.kp, FunD.bindsN (ps := ["_law_script", "_law_first"]) F__law_state (fun _ _ _ _ _ _ us hl => match us, hl with | [_, _], _ => rfl), .nil, O__law_state⟩
  have O__law_turned := ok__law_turned (P := P) (w := w) (base := base) F__law_turned T 
  have G__law_turned : FnAt P w K mg base CX0 1 "_law_turned" ["_law_row", "_law_many"] [] (spTurned K) := by
    exact ⟨_, _, [], He.glo_ok X G (c.fact 2 (f := .glo "_law_turned") rfl), F__law_turned.kp, FunD.bindsN (ps := ["_law_row", "_law_many"]) F__law_turned (fun _ _ _ _ _ _ us hl => match us, hl with | [_, _], _ => rfl), .nil, O__law_turned⟩
  have O__law_next_first := ok__law_next_first (P := P) (w := w) (base := base) F__law_next_first T G__law_turned
  have G__law_next_first : FnAt P w K mg base CX0 2 "_law_next_first" ["_law_own"] [] (spNextFirst K) := by
    exact ⟨_, _, [], He.glo_ok X G (c.fact 3 (f := .glo "_law_next_first") rfl), F__law_next_first.kp, FunD.bindsN (ps := ["_law_own"]) F__law_next_first (fun _ _ _ _ _ _ us hl => match us, hl with | [_], _ => rfl), .nil, O__law_next_first⟩
  have O_Ring_left := ok_Ring_left (P := P) (w := w) (base := base) F_Ring_left T 
  have G_Ring_left : FnMt P w K mg base CX0 1 (cRing K) "left" ["self"] [] (spLeft K) := by
    exact ⟨_, _, [], He.meth_ok (c.fact 4 (f := .meth "Ring" "left") rfl), FunD.bindsN (ps := ["self"]) F_Ring_left (fun _ _ _ _ _ _ us hl => match us, hl with | [_], _ => rfl), .nil, O_Ring_left⟩
  have O_Ring_gone := ok_Ring_gone (P := P) (w := w) (base := base) F_Ring_gone T 
  have G_Ring_gone : FnMt P w K mg base CX0 1 (cRing K) "gone" ["self"] [] (spGone K) := by
    exact ⟨_, _, [], He.meth_ok (c.fact 5 (f := .meth "Ring" "gone") rfl), FunD.bindsN (ps := ["self"]) F_Ring_gone (fun _ _ _ _ _ _ us hl => match us, hl with | [_], _ => rfl), .nil, O_Ring_gone⟩
  have O__law_shown := ok__law_shown (P := P) (w := w) (base := base) F__law_shown T G_Ring_left G_Ring_gone G__law_next_first
  have G__law_shown : FnAt P w K mg base CX0 3 "_law_shown" ["_law_ring", "_law_own"] [] (spShown K) := by
    exact ⟨_, _, [], He.glo_ok X G (c.fact 6 (f := .glo "_law_shown") rfl), F__law_shown.kp, FunD.bindsN (ps := ["_law_ring", "_law_own"]) F__law_shown (fun _ _ _ _ _ _ us hl => match us, hl with | [_, _], _ => rfl), .nil, O__law_shown⟩
  have O_from_place := ok_from_place (P := P) (w := w) (base := base) F_from_place T 
  have G_from_place : FnAt P w K mg base CX0 1 "from_place" ["hands", "place"] [] (spFrom K) := by
    exact ⟨_, _, [], He.glo_ok X G (c.fact 7 (f := .glo "from_place") rfl), F_from_place.kp, FunD.bindsN (ps := ["hands", "place"]) F_from_place (fun _ _ _ _ _ _ us hl => match us, hl with | [_, _], _ => rfl), .nil, O_from_place⟩
  have O_behind_count := ok_behind_count (P := P) (w := w) (base := base) F_behind_count T G_from_place
  have G_behind_count : FnAt P w K mg base CX0 2 "behind_count" ["hands", "step"] [] (spBehind K) := by
    exact ⟨_, _, [], He.glo_ok X G (c.fact 8 (f := .glo "behind_count") rfl), F_behind_count.kp, FunD.bindsN (ps := ["hands", "step"]) F_behind_count (fun _ _ _ _ _ _ us hl => match us, hl with | [_, _], _ => rfl), .nil, O_behind_count⟩
  have O_Ring_count := ok_Ring_count (P := P) (w := w) (base := base) F_Ring_count T G_behind_count
  have G_Ring_count : FnMt P w K mg base (CXr P w) 3 (cRing K) "count" ["self"] [] (spCountR K) := by
    exact ⟨_, _, [], He.meth_ok (c.fact 9 (f := .meth "Ring" "count") rfl), FunD.bindsN (ps := ["self"]) F_Ring_count (fun _ _ _ _ _ _ us hl => match us, hl with | [_], _ => rfl), .nil, O_Ring_count⟩
  have O_is_number := ok_is_number (P := P) (w := w) (base := base) F_is_number T 
  have G_is_number : FnAt P w K mg base CX0 1 "is_number" ["thing"] [] (spIsNum K) := by
    exact ⟨_, _, [], He.glo_ok X G (c.fact 10 (f := .glo "is_number") rfl), F_is_number.kp, FunD.bindsN (ps := ["thing"]) F_is_number (fun _ _ _ _ _ _ us hl => match us, hl with | [_], _ => rfl), .nil, O_is_number⟩
  have O_need_count := ok_need_count (P := P) (w := w) (base := base) F_need_count T G_is_number
  have G_need_count : FnAt P w K mg base (CXr P w) 2 "need_count" ["least", "count", "most"] [] (spCount K) := by
    exact ⟨_, _, [], He.glo_ok X G (c.fact 11 (f := .glo "need_count") rfl), F_need_count.kp, FunD.bindsN (ps := ["least", "count", "most"]) F_need_count (fun _ _ _ _ _ _ us hl => match us, hl with | [_, _, _], _ => rfl), .nil, O_need_count⟩
  have O_Ring_counts := ok_Ring_counts (P := P) (w := w) (base := base) F_Ring_counts T G_need_count G_Ring_count
  have G_Ring_counts : FnMt P w K mg base (CXr P w) 4 (cRing K) "counts" ["self", "many"] [] (spCountsR K) := by
    exact ⟨_, _, [], He.meth_ok (c.fact 12 (f := .meth "Ring" "counts") rfl), FunD.bindsN (ps := ["self", "many"]) F_Ring_counts (fun _ _ _ _ _ _ us hl => match us, hl with | [_, _], _ => rfl), .nil, O_Ring_counts⟩
  have O__law_error := ok__law_error (P := P) (w := w) (base := base) F__law_error T 
  have G__law_error : FnAt P w K mg base CX0 1 "_law_error" ["_law_e"] [] (spErr K) := by
    exact ⟨_, _, [], He.glo_ok X G (c.fact 13 (f := .glo "_law_error") rfl), F__law_error.kp, FunD.bindsN (ps := ["_law_e"]) F__law_error (fun _ _ _ _ _ _ us hl => match us, hl with | [_], _ => rfl), .nil, O__law_error⟩
  have O__law_tried := ok__law_tried (P := P) (w := w) (base := base) F__law_tried T G_Ring_count G_Ring_counts G__law_error
  have G__law_tried : FnAt P w K mg base CX0 5 "_law_tried" ["_law_ring", "_law_way", "_law_many"] [] (spTried K) := by
    exact ⟨_, _, [], He.glo_ok X G (c.fact 14 (f := .glo "_law_tried") rfl), F__law_tried.kp, FunD.bindsN (ps := ["_law_ring", "_law_way", "_law_many"]) F__law_tried (fun _ _ _ _ _ _ us hl => match us, hl with | [_, _, _], _ => rfl), .nil, O__law_tried⟩
  have O__law_done := ok__law_done (P := P) (w := w) (base := base) F__law_done T G__law_tried
  have G__law_done : FnAt P w K mg base CX0 6 "_law_done" ["_law_ring", "_law_own", "_law_cell"] [] (spDone K) := by
    exact ⟨_, _, [], He.glo_ok X G (c.fact 15 (f := .glo "_law_done") rfl), F__law_done.kp, FunD.bindsN (ps := ["_law_ring", "_law_own", "_law_cell"]) F__law_done (fun _ _ _ _ _ _ us hl => match us, hl with | [_, _, _], _ => rfl), .nil, O__law_done⟩
  have O__law_next := ok__law_next (P := P) (w := w) (base := base) F__law_next T 
  have G__law_next : FnAt P w K mg base CX0 1 "_law_next" ["_law_state_here"] [] spNext := by
    exact ⟨_, _, [], He.glo_ok X G (c.fact 16 (f := .glo "_law_next") rfl), F__law_next.kp, FunD.bindsN (ps := ["_law_state_here"]) F__law_next (fun _ _ _ _ _ _ us hl => match us, hl with | [_], _ => rfl), .nil, O__law_next⟩
  have O__law_of := ok__law_of (P := P) (w := w) (base := base) F__law_of T G__law_next
  have G__law_of : FnAt P w K mg base CX0 2 "_law_of" ["_law_state_here", "_law_some"] [] (spOf K) := by
    exact ⟨_, _, [], He.glo_ok X G (c.fact 17 (f := .glo "_law_of") rfl), F__law_of.kp, FunD.bindsN (ps := ["_law_state_here", "_law_some"]) F__law_of (fun _ _ _ _ _ _ us hl => match us, hl with | [_, _], _ => rfl), .nil, O__law_of⟩
  have O__law_hands := ok__law_hands (P := P) (w := w) (base := base) F__law_hands T G__law_next G__law_of
  have G__law_hands : FnAt P w K mg base CX0 3 "_law_hands" ["_law_state_here", "_law_many"] [] (spHands K) := by
    exact ⟨_, _, [], He.glo_ok X G (c.fact 18 (f := .glo "_law_hands") rfl), F__law_hands.kp, FunD.bindsN (ps := ["_law_state_here", "_law_many"]) F__law_hands (fun _ _ _ _ _ _ us hl => match us, hl with | [_, _], _ => rfl), .nil, O__law_hands⟩
  have O__law_step := ok__law_step (P := P) (w := w) (base := base) F__law_step T G__law_of G__law_next
  have G__law_step : FnAt P w K mg base CX0 3 "_law_step" ["_law_state_here", "_law_most"] [] (spStep K) := by
    exact ⟨_, _, [], He.glo_ok X G (c.fact 19 (f := .glo "_law_step") rfl), F__law_step.kp, FunD.bindsN (ps := ["_law_state_here", "_law_most"]) F__law_step (fun _ _ _ _ _ _ us hl => match us, hl with | [_, _], _ => rfl), .nil, O__law_step⟩
  have O__law_far := ok__law_far (P := P) (w := w) (base := base) F__law_far T G__law_next
  have G__law_far : FnAt P w K mg base CX0 2 "_law_far" ["_law_state_here", "_law_many"] [] spFar := by
    exact ⟨_, _, [], He.glo_ok X G (c.fact 20 (f := .glo "_law_far") rfl), F__law_far.kp, FunD.bindsN (ps := ["_law_state_here", "_law_many"]) F__law_far (fun _ _ _ _ _ _ us hl => match us, hl with | [_, _], _ => rfl), .nil, O__law_far⟩
  have O__law_out := ok__law_out (P := P) (w := w) (base := base) F__law_out T 
  have G__law_out : FnAt P w K mg base CX0 1 "_law_out" ["_law_row", "_law_step_here"] [] (spOut K) := by
    exact ⟨_, _, [], He.glo_ok X G (c.fact 21 (f := .glo "_law_out") rfl), F__law_out.kp, FunD.bindsN (ps := ["_law_row", "_law_step_here"]) F__law_out (fun _ _ _ _ _ _ us hl => match us, hl with | [_, _], _ => rfl), .nil, O__law_out⟩
  have O_is_ring := ok_is_ring (P := P) (w := w) (base := base) F_is_ring T 
  have G_is_ring : FnAt P w K mg base CX0 1 "is_ring" ["thing"] [] (spIsRing K) := by
    exact ⟨_, _, [], He.glo_ok X G (c.fact 22 (f := .glo "is_ring") rfl), F_is_ring.kp, FunD.bindsN (ps := ["thing"]) F_is_ring (fun _ _ _ _ _ _ us hl => match us, hl with | [_], _ => rfl), .nil, O_is_ring⟩
  have O_need_ring := ok_need_ring (P := P) (w := w) (base := base) F_need_ring T G_is_ring
  have G_need_ring : FnAt P w K mg base (CXr P w) 2 "need_ring" ["thing"] [] (spNeedRing K) := by
    exact ⟨_, _, [], He.glo_ok X G (c.fact 23 (f := .glo "need_ring") rfl), F_need_ring.kp, FunD.bindsN (ps := ["thing"]) F_need_ring (fun _ _ _ _ _ _ us hl => match us, hl with | [_], _ => rfl), .nil, O_need_ring⟩
  have O_need_step := ok_need_step (P := P) (w := w) (base := base) F_need_step T G_is_number
  have G_need_step : FnAt P w K mg base (CXr P w) 2 "need_step" ["step", "most"] [] (spNeed K (cNoStep K) 1) := by
    exact ⟨_, _, [], He.glo_ok X G (c.fact 24 (f := .glo "need_step") rfl), F_need_step.kp, FunD.bindsN (ps := ["step", "most"]) F_need_step (fun _ _ _ _ _ _ us hl => match us, hl with | [_, _], _ => rfl), .nil, O_need_step⟩
  have O_need_place := ok_need_place (P := P) (w := w) (base := base) F_need_place T G_is_number
  have G_need_place : FnAt P w K mg base (CXr P w) 2 "need_place" ["many", "place"] [] (spPlace K) := by
    exact ⟨_, _, [], He.glo_ok X G (c.fact 25 (f := .glo "need_place") rfl), F_need_place.kp, FunD.bindsN (ps := ["many", "place"]) F_need_place (fun _ _ _ _ _ _ us hl => match us, hl with | [_, _], _ => rfl), .nil, O_need_place⟩
  have O_Ring___init__ := ok_Ring___init__ (P := P) (w := w) (base := base) F_Ring___init__ T G_need_ring G_need_step G_need_place G_from_place
  have G_Ring___init__ : FnMk P w K mg base (CXr P w) 3 "Ring" (cRing K) ["self", "hands", "step", "begin"] [] (spInit K) := by
    obtain ⟨ds_Ring___init__, v_Ring___init__, b_Ring___init__⟩ := FunD.binds1 (ps := ["self", "hands", "step", "begin"]) F_Ring___init__ 4 1 (by simp [d_Ring___init__, He.DefD.dvs]) rfl (fun _ _ _ _ _ _ _ us its hl hi => match us, hl, its, hi with | [_, _, _, _], _, [_], _ => ⟨_, rfl, rfl⟩)
    exact ⟨_, _, ds_Ring___init__, He.mkr_ok (c.fact 26 (f := .mkr "Ring") rfl), T.g_Ring, b_Ring___init__, v_Ring___init__, O_Ring___init__⟩
  have G_Ring___init___d : FnMk P w K mg base (CXr P w) 3 "Ring" (cRing K) ["self", "hands", "step", "begin"] [V.int (0)] (spInit K) := by
    obtain ⟨ds_Ring___init__, v_Ring___init__, b_Ring___init__⟩ := FunD.binds1 (ps := ["self", "hands", "step", "begin"]) F_Ring___init__ 3 0 (by simp [d_Ring___init__, He.DefD.dvs]) rfl (fun _ _ _ _ _ _ _ us its hl hi => match us, hl, its, hi with | [_, _, _], _, [_], _ => ⟨_, rfl, rfl⟩)
    exact ⟨_, _, ds_Ring___init__, He.mkr_ok (c.fact 26 (f := .mkr "Ring") rfl), T.g_Ring, b_Ring___init__, v_Ring___init__, O_Ring___init__⟩
  have O__law_rings := ok__law_rings (P := P) (w := w) (base := base) F__law_rings T G__law_next G__law_hands G__law_of G__law_step G__law_far G__law_turned G__law_out G_Ring___init__
  have G__law_rings : FnAt P w K mg base CX0 5 "_law_rings" ["_law_state_here"] [] (spRings K) := by
    exact ⟨_, _, [], He.glo_ok X G (c.fact 27 (f := .glo "_law_rings") rfl), F__law_rings.kp, FunD.bindsN (ps := ["_law_state_here"]) F__law_rings (fun _ _ _ _ _ _ us hl => match us, hl with | [_], _ => rfl), .nil, O__law_rings⟩
  have O__law_made := ok__law_made (P := P) (w := w) (base := base) F__law_made T G_Ring___init__ G__law_error
  have G__law_made : FnAt P w K mg base CX0 5 "_law_made" ["_law_hands_here", "_law_step_here", "_law_begin"] [] (spMadeL K) := by
    exact ⟨_, _, [], He.glo_ok X G (c.fact 28 (f := .glo "_law_made") rfl), F__law_made.kp, FunD.bindsN (ps := ["_law_hands_here", "_law_step_here", "_law_begin"]) F__law_made (fun _ _ _ _ _ _ us hl => match us, hl with | [_, _, _], _ => rfl), .nil, O__law_made⟩
  exact ok_law F_law T G__law_state G__law_rings G_Ring_left G_Ring___init___d G__law_done G__law_shown G__law_of G__law_made
end Lz
open PySem PySem.W PySem.Calls PyProof.Rows
set_option maxHeartbeats 0 in
theorem PySem.Challenge.cw_countout_k08_rings_counted_holds : PySem.Challenge.rw_countout_k08_rings_counted.Holds := by
  w_on; o_law
  refine HandSHeadRun.head_any (r := Lz.R) (q := view Lz.R.prog [43]) (H := Lz.hk) (ob := Lz.ob) (M := 6000) (loose := Lz.nms) (d := HandSHeadRun.topDef Lz.R.prog 43) (kwd := []) Lz.ob_eq
    (by kernel_rfl) (fun s => by kernel_rfl) Lz.run_top (by kernel_rfl) (by kernel_rfl) (by kernel_rfl) (by rfl) (by first | assumption | decide +kernel) (by decide +kernel) ⟨rfl, rfl, rfl, rfl, rfl, by decide +kernel⟩ ?hw ?hc
  case hw => w_witness2
  case hc =>
    refine L2.walk_ofE (l := PySem.Challenge.rw_countout_k08_rings_counted) (n := 63) (k := 7) (x := "_law_script") (CX := L2.CX0) rfl (by decide) (by kernel_rfl) ⟨rfl, by decide, by decide⟩ ?F (fun _ _ _ _ z => z)
    intro w mg fa h Y G hmg0
    obtain ⟨K, KX, c⟩ := Y
    have hmg : mg ("law" : PySem.Str) = some (.ref fa) := by
      have e : (HandSHeadRun.topDef Lz.R.prog 43).name = ("law" : PySem.Str) := by kernel_rfl
      rw [← e]
      exact hmg0
    obtain ⟨fd, hb, hF⟩ := Lz.facts (P := (PySem.Challenge.rw_countout_k08_rings_counted).prog) (w := w) KX G hmg c.t.d c.more
    exact ⟨K, fd, Lz.spLaw K, KX, hb, fun H a ns hl _ hS => ⟨a, ns, rfl, hS, hl, fun _ => rfl⟩, hF⟩
#print axioms PySem.Challenge.cw_countout_k08_rings_counted_holds
