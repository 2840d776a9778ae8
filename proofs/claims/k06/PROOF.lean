import PyProof.Rows.All
import Wide.All
import OpenK.AllK
import Wide.FinOn
import KE.KStateDown
import HandS.ForMost
import HandS.ForExc
import HandS.Defaults
import HandS.Wide
import HandS.IsInst
import HandS.Style
import HandS.More
import HandS.Deep
import HandS.Codes
import HandS.Conv
import HandS.Head0
import HandS.Head1
import HandS.Head2
import HandS.HeadEnd
import HandS.HeadHook1
import HandS.HeadHook2
import HandS.HeadHook3
import HandS.HeadHook4
import PySem.Challenge.RW_countout_k06_beginnings_wished
set_option Elab.async false
set_option linter.all false
set_option maxRecDepth 100000
set_option maxHeartbeats 4000000
namespace Jo
/-! ### rings as lists -/
def rotL {α : Type} (xs : List α) (k : Nat) : List α := xs.drop k ++ xs.take k
theorem rotL_length {α : Type} (xs : List α) (k : Nat) : (rotL xs k).length = xs.length := by
  unfold rotL
  rw [List.length_append, List.length_drop, List.length_take]
  omega
theorem rotL_map {α β : Type} (f : α → β) (xs : List α) (k : Nat) : rotL (xs.map f) k = (rotL xs k).map f := by
  unfold rotL
  rw [List.map_append, List.map_drop, List.map_take]
theorem rotL_perm {α : Type} (xs : List α) (k : Nat) : (rotL xs k).Perm xs := by
  unfold rotL
  have h : (xs.drop k ++ xs.take k).Perm (xs.take k ++ xs.drop k) := List.perm_append_comm
  rw [List.take_append_drop] at h
  exact h
theorem rotL_get {α : Type} (xs : List α) (k i : Nat) (hk : k ≤ xs.length) (hi : i < xs.length) : (rotL xs k)[i]? = xs[(i + k) % xs.length]? := by
  unfold rotL
  by_cases h : i < xs.length - k
  · rw [List.getElem?_append_left (by rw [List.length_drop]; exact h), List.getElem?_drop, Nat.mod_eq_of_lt (by omega)]
    congr 1
    omega
  · rw [List.getElem?_append_right (by rw [List.length_drop]; omega), List.length_drop, List.getElem?_take]
    have e : (i + k) % xs.length = i - (xs.length - k) := by
      rw [Nat.mod_eq_sub_mod (by omega), Nat.mod_eq_of_lt (by omega)]
      omega
    rw [e, if_pos (by omega)]
/-- counted out by the step t + 1: n turns -/
def outN {α : Type} (t : Nat) : Nat → List α → List α
  | 0, _ => []
  | n + 1, xs => match rotL xs (t % xs.length) with
    | [] => []
    | h :: r => h :: outN t n r
def out {α : Type} (t : Nat) (xs : List α) : List α := outN t xs.length xs
theorem out_nil {α : Type} (t : Nat) : out t ([] : List α) = [] := rfl
theorem out_step {α : Type} {t : Nat} {xs : List α} {h : α} {r : List α} (e : rotL xs (t % xs.length) = h :: r) : out t xs = h :: out t r := by
  have l : r.length + 1 = xs.length := by
    rw [← rotL_length xs (t % xs.length), e]
    rfl
  unfold out
  rw [← l]
  rw [outN, e]
theorem rot_cons {α : Type} (t : Nat) {xs : List α} (h : xs ≠ []) : ∃ x r, rotL xs (t % xs.length) = x :: r ∧ r.length + 1 = xs.length := by
  cases e : rotL xs (t % xs.length) with
  | nil =>
    have l := rotL_length xs (t % xs.length)
    rw [e] at l
    exact absurd (List.eq_nil_of_length_eq_zero l.symm) h
  | cons x r =>
    have l := rotL_length xs (t % xs.length)
    rw [e] at l
    exact ⟨x, r, rfl, l⟩
/-- induction along the counting out -/
theorem out_ind {α : Type} (t : Nat) {M : List α → Prop} (h0 : M []) (h1 : ∀ xs x r, xs ≠ [] → rotL xs (t % xs.length) = x :: r → r.length + 1 = xs.length → M r → M xs) (xs : List α) : M xs := by
  generalize hn : xs.length = n
  induction n generalizing xs with
  | zero => rw [List.eq_nil_of_length_eq_zero hn]; exact h0
  | succ n ih =>
    have hne : xs ≠ [] := fun q => by rw [q] at hn; cases hn
    obtain ⟨x, r, e, l⟩ := rot_cons t hne
    exact h1 xs x r hne e l (ih r (by omega))
theorem out_map {α β : Type} (t : Nat) (f : α → β) (xs : List α) : out t (xs.map f) = (out t xs).map f := by
  induction xs using out_ind t with
  | h0 => rfl
  | h1 xs x r hne e l ih =>
    rw [out_step e]
    have e2 : rotL (xs.map f) (t % (xs.map f).length) = f x :: r.map f := by
      rw [List.length_map, rotL_map, e, List.map_cons]
    rw [out_step e2, ih, List.map_cons]
theorem out_perm {α : Type} (t : Nat) (xs : List α) : (out t xs).Perm xs := by
  induction xs using out_ind t with
  | h0 => exact List.Perm.refl _
  | h1 xs x r hne e l ih =>
    rw [out_step e]
    have h : (x :: r).Perm xs := by
      rw [← e]
      exact rotL_perm xs _
    exact (List.Perm.cons x ih).trans h
theorem out_length {α : Type} (t : Nat) (xs : List α) : (out t xs).length = xs.length := (out_perm t xs).length_eq
theorem out_mod {α : Type} {t u : Nat} {n : Nat} {xs : List α} (hn : xs.length = n) (h : ∀ m, 0 < m → m ≤ n → t % m = u % m) : out t xs = out u xs := by
  induction xs using out_ind t generalizing n with
  | h0 => rfl
  | h1 xs x r hne e l ih =>
    rw [out_step e]
    have e2 : rotL xs (u % xs.length) = x :: r := by
      rw [← h xs.length (by omega) (by omega)]
      exact e
    rw [out_step e2, ih (n := r.length) rfl fun m h1 h2 => h m h1 (by omega)]
/-! ### places by numbers -/
/-- the place, begun at 0 in a ring of n, of the one who is told the number N, counted on and on (s the step) -/
def pos (s : Nat) : Nat → Nat → Nat
  | 0, _ => 0
  | n + 1, N => if N ≤ s then (N - 1) % (n + 1) else (pos s n (N - s) + s) % (n + 1)
theorem pos_lt (s n N : Nat) (h : 0 < n) : pos s n N < n := by
  cases n with
  | zero => cases h
  | succ n =>
    unfold pos
    split
    · exact Nat.mod_lt _ (Nat.succ_pos n)
    · exact Nat.mod_lt _ (Nat.succ_pos n)
theorem pos_low {s n N : Nat} (h : N ≤ s) : pos s (n + 1) N = (N - 1) % (n + 1) := if_pos h
theorem pos_high {s n N : Nat} (h : s < N) : pos s (n + 1) N = (pos s n (N - s) + s) % (n + 1) := if_neg (by omega)
/-- told at the first round -/
theorem pos_first {s : Nat} (hs : 1 ≤ s) : ∀ {n N : Nat}, 1 ≤ N → N ≤ n → pos s n N = N - 1
  | 0, N, h1, h2 => by omega
  | n + 1, N, h1, h2 => by
    by_cases h : N ≤ s
    · rw [pos_low h, Nat.mod_eq_of_lt (by omega)]
    · rw [pos_high (by omega), pos_first hs (n := n) (N := N - s) (by omega) (by omega), Nat.mod_eq_of_lt (by omega)]
      omega
theorem div_zero {a b : Nat} (h : a < b) : a / b = 0 := Nat.div_eq_of_lt h
/-- the number that one was told ahead of N -/
def prev (s n N : Nat) : Nat := N - n + (N - n - 1) / (s - 1)
theorem pos_prev {s : Nat} (hs : 2 ≤ s) : ∀ {n N : Nat}, n < N → N ≤ n * s → pos s n (prev s n N) = pos s n N
  | 0, N, h1, h2 => by
    rw [Nat.zero_mul] at h2
    omega
  | n + 1, N, h1, h2 => by
    by_cases h : N ≤ s
    · have z : (N - (n + 1) - 1) / (s - 1) = 0 := div_zero (by omega)
      have e : prev s (n + 1) N = N - (n + 1) := by
        unfold prev
        rw [z]
        omega
      rw [e, pos_low (by omega), pos_low h]
      have e2 : N - 1 = N - (n + 1) - 1 + (n + 1) := by omega
      rw [e2, Nat.add_mod_right]
    · have hN : N - s ≤ n * s := by
        rw [Nat.succ_mul] at h2
        omega
      rw [pos_high (show s < N by omega)]
      by_cases h3 : N - s ≤ n
      · rw [pos_first (by omega) (by omega) h3]
        have z : (N - (n + 1) - 1) / (s - 1) = 0 := div_zero (by omega)
        have e : prev s (n + 1) N = N - (n + 1) := by
          unfold prev
          rw [z]
          omega
        rw [e, pos_low (by omega)]
        have e2 : N - s - 1 + s = N - (n + 1) - 1 + (n + 1) := by omega
        rw [e2, Nat.add_mod_right]
      · have ih := pos_prev hs (n := n) (N := N - s) (by omega) hN
        have e : prev s (n + 1) N = prev s n (N - s) + s := by
          unfold prev
          have d : N - (n + 1) - 1 = N - s - n - 1 + (s - 1) := by omega
          rw [d, Nat.add_div_right _ (show 0 < s - 1 by omega)]
          omega
        have p : 1 ≤ prev s n (N - s) := by
          unfold prev
          generalize (N - s - n - 1) / (s - 1) = k
          omega
        rw [e, pos_high (by omega), Nat.add_sub_cancel, ih]
theorem prev_lt {s n N : Nat} (hs : 2 ≤ s) (h1 : n < N) (h2 : N ≤ n * s) : prev s n N < N := by
  unfold prev
  have h3 : (N - n - 1) / (s - 1) < n := by
    rw [Nat.div_lt_iff_lt_mul (by omega)]
    have e : n * s = n * (s - 1) + n := by
      have e2 : s = s - 1 + 1 := by omega
      rw [e2, Nat.mul_succ, Nat.add_sub_cancel]
    omega
  omega
theorem prev_pos {s n N : Nat} (h1 : n < N) : 1 ≤ prev s n N := by
  unfold prev
  generalize (N - n - 1) / (s - 1) = k
  omega
/-- the number that one is told next -/
theorem next_prev {s n N : Nat} (hs : 2 ≤ s) (h0 : 0 < N % s) (h2 : N ≤ n * s) : n < n + N - N / s ∧ n + N - N / s ≤ n * s ∧ N < n + N - N / s ∧ prev s n (n + N - N / s) = N := by
  have d := Nat.div_add_mod N s
  have m := Nat.mod_lt N (show 0 < s by omega)
  have q : N / s < n := by
    rw [Nat.div_lt_iff_lt_mul (by omega)]
    by_cases e : N = n * s
    · rw [e, Nat.mul_mod_left] at h0
      omega
    · omega
  have e1 : s * (N / s) = (s - 1) * (N / s) + N / s := by
    have e2 : s = s - 1 + 1 := by omega
    generalize N / s = k
    rw [e2, Nat.succ_mul, Nat.add_sub_cancel]
  have e3 : (s - 1) * (N / s + 1) ≤ (s - 1) * n := Nat.mul_le_mul_left _ q
  have e4 : n * s = (s - 1) * n + n := by
    have e2 : s = s - 1 + 1 := by omega
    generalize s - 1 = k at e2
    rw [e2, Nat.mul_succ, Nat.mul_comm]
  rw [Nat.mul_succ] at e3
  refine ⟨by omega, by omega, by omega, ?_⟩
  unfold prev
  have e5 : (n + N - N / s - n - 1) / (s - 1) = N / s := by
    have e6 : n + N - N / s - n - 1 = (N % s - 1) + (s - 1) * (N / s) := by omega
    rw [e6, Nat.add_mul_div_left _ _ (by omega), div_zero (by omega), Nat.zero_add]
  rw [e5]
  omega
/-! ### the ring of the places -/
theorem rot_range {n k : Nat} (hk : k < n + 1) : rotL (List.range (n + 1)) k = k :: (List.range n).map fun p => (p + 1 + k) % (n + 1) := by
  apply List.ext_getElem?
  intro i
  by_cases hi : i < n + 1
  · rw [rotL_get _ _ _ (by rw [List.length_range]; omega) (by rw [List.length_range]; exact hi), List.length_range, List.getElem?_range (Nat.mod_lt _ (Nat.succ_pos n))]
    cases i with
    | zero =>
      rw [Nat.zero_add, Nat.mod_eq_of_lt hk]
      rfl
    | succ i =>
      rw [List.getElem?_cons_succ, List.getElem?_map, List.getElem?_range (by omega)]
      rfl
  · rw [List.getElem?_eq_none (by rw [rotL_length, List.length_range]; omega), List.getElem?_eq_none (by rw [List.length_cons, List.length_map, List.length_range]; omega)]
theorem mod_add_mod2 (a b n : Nat) : (a + b % n) % n = (a + b) % n := Nat.add_mod_mod a b n
theorem out_range {s : Nat} (hs : 1 ≤ s) : ∀ {n c : Nat}, c < n → (out (s - 1) (List.range n))[c]? = some (pos s n ((c + 1) * s))
  | 0, c, h => by omega
  | n + 1, c, h => by
    have e := rot_range (n := n) (k := (s - 1) % (n + 1)) (Nat.mod_lt _ (Nat.succ_pos n))
    have e2 : rotL (List.range (n + 1)) ((s - 1) % (List.range (n + 1)).length) = (s - 1) % (n + 1) :: (List.range n).map fun p => (p + 1 + (s - 1) % (n + 1)) % (n + 1) := by
      rw [List.length_range]
      exact e
    rw [out_step e2, out_map]
    cases c with
    | zero =>
      rw [Nat.zero_add, Nat.one_mul, pos_low (Nat.le_refl s)]
      rfl
    | succ c =>
      rw [List.getElem?_cons_succ, List.getElem?_map, out_range hs (n := n) (c := c) (by omega)]
      have e3 : (c + 1 + 1) * s = (c + 1) * s + s := Nat.succ_mul _ _
      have e4 : 0 < (c + 1) * s := Nat.mul_pos (by omega) (by omega)
      rw [e3, pos_high (by omega), Nat.add_sub_cancel]
      show some ((pos s n ((c + 1) * s) + 1 + (s - 1) % (n + 1)) % (n + 1)) = _
      rw [mod_add_mod2]
      congr 2
      omega
theorem out_range_nodup (t n : Nat) : (out t (List.range n)).Nodup := (out_perm t (List.range n)).nodup_iff.mpr List.nodup_range
/-- different counts, different places -/
theorem pos_inj {s n c d : Nat} (hs : 1 ≤ s) (hc : c < n) (hd : d < n) (h : pos s n ((c + 1) * s) = pos s n ((d + 1) * s)) : c = d := by
  have e1 := out_range hs hc
  have e2 := out_range hs hd
  rw [h] at e1
  have hN := out_range_nodup (s - 1) n
  obtain ⟨l1, g1⟩ := List.getElem?_eq_some_iff.mp e1
  obtain ⟨l2, g2⟩ := List.getElem?_eq_some_iff.mp e2
  exact (List.getElem_inj hN).mp (g1.trans g2.symm)
end Jo
namespace Jo
/-! ### hand by hand -/
theorem rotL_zero {α : Type} (xs : List α) : rotL xs 0 = xs := by
  unfold rotL
  rw [List.drop_zero, List.take_zero, List.append_nil]
theorem rotL_ext {α : Type} {xs : List α} {k j : Nat} (hk : k ≤ xs.length) (ys : List α) (hl : ys.length = xs.length) (h : ∀ i, i < xs.length → ys[i]? = xs[(i + k) % xs.length]?) : ys = rotL xs k := by
  apply List.ext_getElem?
  intro i
  by_cases hi : i < xs.length
  · rw [rotL_get xs k i hk hi, h i hi]
  · rw [List.getElem?_eq_none (by omega), List.getElem?_eq_none (by rw [rotL_length]; omega)]
/-- one hand more -/
theorem rotL_more {α : Type} (x : α) (r : List α) (k : Nat) : rotL (r ++ [x]) (k % (x :: r).length) = rotL (x :: r) ((k + 1) % (x :: r).length) := by
  have hn : 0 < (x :: r).length := Nat.succ_pos _
  have l : (r ++ [x]).length = (x :: r).length := by rw [List.length_append]; rfl
  have m1 := Nat.mod_lt k hn
  have m2 := Nat.mod_lt (k + 1) hn
  refine rotL_ext (j := 0) (Nat.le_of_lt m2) _ (by rw [rotL_length, l]) fun i hi => ?_
  rw [rotL_get _ _ _ (by rw [l]; omega) (by rw [l]; exact hi), l]
  have e : ∀ j, j < (x :: r).length → (r ++ [x])[j]? = (x :: r)[(j + 1) % (x :: r).length]? := fun j hj => by
    have hj' : j < r.length + 1 := hj
    by_cases h : j < r.length
    · rw [List.getElem?_append_left h, Nat.mod_eq_of_lt (by show j + 1 < r.length + 1; omega), List.getElem?_cons_succ]
    · have ej : j = r.length := by omega
      subst ej
      rw [List.getElem?_append_right (Nat.le_refl _), Nat.sub_self]
      have z : (r.length + 1) % (x :: r).length = 0 := Nat.mod_self _
      rw [z]
      rfl
  rw [e _ (Nat.mod_lt _ hn)]
  congr 1
  rw [Nat.mod_add_mod, Nat.add_mod_mod]
  have a1 : i + k % (x :: r).length + 1 = (i + 1) + k % (x :: r).length := by omega
  rw [a1, Nat.add_mod_mod]
  congr 1
  omega
theorem told_mod {s n : Nat} (hs : 1 ≤ s) (hn : 0 < n) : (s % n + 2 * n - 1) % n = (s - 1) % n := by
  have h := Nat.div_add_mod s n
  by_cases e : s % n = 0
  · have e1 : s % n + 2 * n - 1 = n - 1 + n := by omega
    have hq : 0 < s / n := by
      rcases Nat.eq_zero_or_pos (s / n) with z | z
      · rw [z, Nat.mul_zero] at h
        omega
      · exact z
    have e2 : s - 1 = n - 1 + n * (s / n - 1) := by
      have e3 : n * (s / n) = n * (s / n - 1) + n := by
        have e4 : s / n = s / n - 1 + 1 := by omega
        generalize s / n - 1 = k at e4
        rw [e4, Nat.mul_succ]
      omega
    rw [e1, Nat.add_mod_right, e2, Nat.add_mul_mod_self_left]
  · have e1 : s % n + 2 * n - 1 = (s % n - 1) + n * 2 := by omega
    have e2 : s - 1 = (s % n - 1) + n * (s / n) := by omega
    rw [e1, Nat.add_mul_mod_self_left, e2, Nat.add_mul_mod_self_left]
end Jo
namespace Jo
theorem rot_range_map {n b : Nat} (hb : b < n) : rotL (List.range n) b = (List.range n).map fun p => (p + b) % n := by
  apply List.ext_getElem?
  intro i
  by_cases hi : i < n
  · rw [rotL_get _ _ _ (by rw [List.length_range]; omega) (by rw [List.length_range]; exact hi), List.length_range,
      List.getElem?_range (Nat.mod_lt _ (by omega)), List.getElem?_map, List.getElem?_range hi]
    rfl
  · rw [List.getElem?_eq_none (by rw [rotL_length, List.length_range]; omega), List.getElem?_eq_none (by rw [List.length_map, List.length_range]; omega)]
/-- a place told from the beginning b, and back -/
theorem turn_back {n b x : Nat} (hb : b < n) (hx : x < n) : ((b + x) % n + n - b) % n = x := by
  by_cases h : b + x < n
  · rw [Nat.mod_eq_of_lt h]
    have e : b + x + n - b = x + n := by omega
    rw [e, Nat.add_mod_right, Nat.mod_eq_of_lt hx]
  · have e : (b + x) % n = b + x - n := by rw [Nat.mod_eq_sub_mod (by omega), Nat.mod_eq_of_lt (by omega)]
    rw [e]
    have e2 : b + x - n + n - b = x := by omega
    rw [e2, Nat.mod_eq_of_lt hx]
theorem cnt_unique {n s b i c : Nat} (hs : 1 ≤ s) (hb : b < n) (hi : i < n) (c1 : 1 ≤ c) (c2 : c ≤ n)
    (h : pos s n (c * s) = ((b + pos s n ((i + 1) * s)) % n + n - b) % n) : c = i + 1 := by
  rw [turn_back hb (pos_lt _ _ _ (by omega))] at h
  have e : c = c - 1 + 1 := by omega
  rw [e] at h
  have := pos_inj hs (by omega) hi h
  omega
end Jo
namespace Jo
/-- many hands more at once, where no round ends -/
theorem pos_leap {s m N : Nat} (hs : 1 ≤ s) (hN : 1 ≤ N) : ∀ L : Nat, pos s m N + (s - 1) * L < m → pos s (m + L) (N + L * s) = pos s m N + s * L
  | 0, _ => by rw [Nat.zero_mul, Nat.mul_zero, Nat.add_zero, Nat.add_zero, Nat.add_zero]
  | L + 1, h => by
    have h1 : (s - 1) * (L + 1) = (s - 1) * L + (s - 1) := Nat.mul_succ _ _
    have h2 : s * (L + 1) = (s - 1) * (L + 1) + (L + 1) := by
      have e : s = s - 1 + 1 := by omega
      generalize s - 1 = k at e
      rw [e, Nat.succ_mul]
    have h3 : s * (L + 1) = s * L + s := Nat.mul_succ _ _
    have ih := pos_leap hs hN (m := m) L (by omega)
    have e1 : N + (L + 1) * s = N + L * s + s := by
      rw [Nat.succ_mul, Nat.add_assoc]
    have e2 : m + (L + 1) = m + L + 1 := rfl
    rw [e1, e2, pos_high (by omega), Nat.add_sub_cancel, ih, Nat.mod_eq_of_lt (by omega)]
    omega
/-- one hand more, or many where no round ends -/
theorem pos_leap1 {s m N L : Nat} (hs : 1 ≤ s) (hN : 1 ≤ N) (h : L = 1 ∨ pos s m N + (s - 1) * L < m) : pos s (m + L) (N + L * s) = (pos s m N + s * L) % (m + L) := by
  rcases h with rfl | h
  · rw [Nat.one_mul, Nat.mul_one, pos_high (by omega), Nat.add_sub_cancel]
  · rw [pos_leap hs hN L h, Nat.mod_eq_of_lt]
    have h2 : s * L = (s - 1) * L + L := by
      have e : s = s - 1 + 1 := by omega
      generalize s - 1 = k at e
      rw [e, Nat.succ_mul]
    omega
/-- a place turned by the beginning -/
theorem turn_fwd {n b p : Nat} (hb : b < n) (hp : p < n) : (b + (p + n - b) % n) % n = p := by
  rw [Nat.add_mod_mod]
  have e : b + (p + n - b) = p + n := by omega
  rw [e, Nat.add_mod_right, Nat.mod_eq_of_lt hp]
end Jo
namespace Jo
theorem turn_inv {n L b p : Nat} (hL : L < n) (hb : b < n) (hp : p < n) : (b + L) % n = p ↔ b = (p + n - L) % n := by
  constructor
  · intro h
    have e := turn_back hL hb
    rw [Nat.add_comm L b, h] at e
    exact e.symm
  · intro h
    have e := turn_fwd hL hp
    rw [← h, Nat.add_comm] at e
    exact e
end Jo
namespace Lz
open PySem PySem.Spec PyProof.Rows L2
/-! ### a def by its name: where it stands, how it binds, its promise -/
abbrev FnP (K : PySem.W.Frag) (x qual : Str) (st : Stmt) (dvs : List V) (f : Addr) (fd : FuncData) : Prop :=
  FunD K x qual (defArgs st) (defBody st) (defScope st) dvs [] f fd
abbrev CXr (P : Program) (w : World) : CXT := L2.CX P w
def FnAt (P : Program) (w : World) (K : PySem.W.Frag) (mg : Str → Option Value) (base : Heap) (C : CXT) (k : Nat)
    (x : Str) (ps : List Str) (dvs : List V) (sp : Sp) : Prop :=
  ∃ (f : Addr) (fd : FuncData) (ds : List Value), mg x = some (.ref f) ∧ PySem.W.keepIn K (.ref f) = true ∧
    Binds K fd ps ds ∧ Vals dvs ds ∧ FnOk P w K mg base C k f fd ps sp
/-- a method of the class at D -/
def FnMt (P : Program) (w : World) (K : PySem.W.Frag) (mg : Str → Option Value) (base : Heap) (C : CXT) (k : Nat)
    (D : Addr) (m : Str) (ps : List Str) (dvs : List V) (sp : Sp) : Prop :=
  ∃ (f : Addr) (fd : FuncData) (ds : List Value), Meth K D m f ∧ Binds K fd ps ds ∧ Vals dvs ds ∧
    FnOk P w K mg base C k f fd ps sp
/-- the maker of the class at D, by the module's name x -/
def FnMk (P : Program) (w : World) (K : PySem.W.Frag) (mg : Str → Option Value) (base : Heap) (C : CXT) (k : Nat)
    (x : Str) (D : Addr) (ps : List Str) (dvs : List V) (sp : Sp) : Prop :=
  ∃ (f : Addr) (fd : FuncData) (ds : List Value), Mk K D f ∧ mg x = some (.ref D) ∧ Binds K fd ps ds ∧ Vals dvs ds ∧
    FnOk P w K mg base C k f fd ps sp
section
variable {X : Cx} {C : CXT} {k : Nat} {x : Str} {ps : List Str} {dvs : List V} {sp : Sp} {E : XK} {p pos : Pos} {e o : Expr} {es : List Expr} {t : TA}
theorem pe_fn (G : FnAt X.prog X.w X.K X.mg X.base C k x ps dvs sp) (hr : Room k X.A) (hx : Passes C X E) (ha : PA X (e :: es) t)
    (hg : Gl X x := by rfl) (hdb : (x == ("__debug__" : Str)) = false := by decide)
    (he : starEach (e :: es) X.env = (false, eval e X.env) :: starEach es X.env := by rfl)
    (hpl : (backTo pos (starEach es X.env)).any (·.1) = false := by rfl) :
    PE X (.Call (.Name x p) (e :: es) [] pos) (tCall sp dvs E t) := by
  obtain ⟨f, fd, ds, h1, h2, h3, h4, h5⟩ := G
  exact pe_call h5 hr hg h1 h2 h3 h4 hx ha hdb he hpl
/-- a whole number of the module -/
theorem pe_gint {i : Int} (h : ∃ t, X.mg x = some (.int i t)) (hg : Gl X x := by rfl) (hdb : (x == ("__debug__" : Str)) = false := by decide) :
    PE X (.Name x pos) (tC (.int i)) := by
  obtain ⟨t, h⟩ := h
  exact pe_glob hg h ⟨t, rfl⟩ hdb
end
/-! ### heaps: all but some places is kept -/
def Kp (ws : List Addr) (H H' : Hp) : Prop := ∀ a o, H a = some o → a ∉ ws → H' a = some o
section
variable {ws vs : List Addr} {H H1 H2 : Hp} {a p : Addr} {o u : HO}
theorem Kp.refl (H : Hp) : Kp ws H H := fun _ _ h _ => h
theorem Kp.trans (x : Kp ws H H1) (y : Kp ws H1 H2) : Kp ws H H2 := fun a o h n => y a o (x a o h n) n
theorem Kp.mono (x : Kp ws H H1) (h : ∀ a, a ∈ ws → a ∈ vs) : Kp vs H H1 := fun a o e n => x a o e fun q => n (h a q)
theorem Kp.new (h : H p = none) : Kp ws H (upd H p o) := fun a u e _ => by
  rw [upd_ne (ne_of_none e h)]
  exact e
theorem Kp.put (h : p ∈ ws) : Kp ws H (upd H p o) := fun a u e n => by
  have q : a ≠ p := fun q => n (by rw [q]; exact h)
  rw [upd_ne q]
  exact e
/-- new since H -/
theorem Kp.late (x : Kp ws H H1) (h : H p = none) : Kp ws H (upd H1 p o) := fun a u e n => by
  rw [upd_ne (ne_of_none e h)]
  exact x a u e n
theorem Kp.same (x : Kp [] H H1) : Same H H1 := fun a o h => x a o h (List.not_mem_nil)
theorem Kp.of (x : Same H H1) : Kp ws H H1 := fun a o h _ => x a o h
theorem Kp.one (x : Kp [p] H H1) (h : H a = some o) (n : a ≠ p) : H1 a = some o := x a o h fun q => n (List.mem_singleton.mp q)
theorem Kp.lst {K : PySem.W.Frag} {xs : List V} (x : Kp ws H H1) (h : SqL K H a xs) (n : a ∉ ws) : SqL K H1 a xs := by
  rcases h with (h | ⟨o, h⟩) | h
  · exact .inl (.inl (x _ _ h n))
  · exact .inl (.inr ⟨o, x _ _ h n⟩)
  · exact .inr h
/-- where H knows and nothing was written, what is free behind was free before -/
theorem Kp.free (x : Kp ws H H1) (h : H1 p = none) (n : p ∉ ws) : H p = none := by
  cases q : H p with
  | none => rfl
  | some o =>
    have e := x p o q n
    rw [h] at e
    cases e
end
theorem sz (n : Nat) (h : n ≤ 1000000) : n ≤ sizeLine := Nat.le_trans h (by decide)
theorem szl (n : Nat) (h : n ≤ 1000000) : n < sizeLine := Nat.lt_of_le_of_lt h (by decide)
/-! ### exceptions of the program -/
structure ExcT (K : PySem.W.Frag) (C : Addr) : Prop where
  q : PySem.W.excIn K C He.veBase "ValueError.__new__" = true
  k : PySem.W.keepIn K (.ref C) = true
  s : PySem.W.subIn K (.ref C) (.type "BaseException") = some true
  t : PySem.W.typeIn K (.ref C) = some (.type "type")
theorem pmk_t {X : Cx} {C : Addr} {x m : Str} {j : Nat} {p p2 pos : Pos} (T : ExcT X.K C) (g : X.mg x = some (.ref C)) (hg : Gl X x := by rfl)
    (hdb : (x == ("__debug__" : Str)) = false := by decide) :
    PMk X (.Call (.Name x p) [.Constant (.str m) j p2] [] pos) (fun _ H Q => Q (.ref C) none H) :=
  pmk_own PySem.F.excBase_ValueError T.q g T.k (raises_own T.s T.t) hg hdb
/-! ### kinds of values -/
/-- not a whole number (True and False are none) -/
def NotNum (K : PySem.W.Frag) (H : Hp) (x : V) : Prop :=
  ∃ t : String, TyX K H x (.type t) ∧ t ∈ ["NoneType", "bool", "str", "list", "tuple", "dict"]
theorem NotNum.non {K : PySem.W.Frag} {H : Hp} : NotNum K H .non := ⟨_, .base .non, by simp⟩
theorem NotNum.bl {K : PySem.W.Frag} {H : Hp} {b : Bool} : NotNum K H (.bl b) := ⟨_, .base (.bl b), by simp⟩
theorem NotNum.str {K : PySem.W.Frag} {H : Hp} {z : Str} : NotNum K H (.str z) := ⟨_, .base (.str z), by simp⟩
theorem NotNum.lst {K : PySem.W.Frag} {H : Hp} {a : Addr} {xs : List V} (h : H a = some (.lst xs)) : NotNum K H (.ref a) := ⟨_, .base (.lst h), by simp⟩
theorem NotNum.tup {K : PySem.W.Frag} {H : Hp} {a : Addr} {xs : List V} (h : H a = some (.tup xs)) : NotNum K H (.ref a) := ⟨_, .base (.tup h), by simp⟩
/-- no whole number from lo to hi -/
def OutN (K : PySem.W.Frag) (H : Hp) (lo hi : Int) (x : V) : Prop := NotNum K H x ∨ ∃ i : Int, x = .int i ∧ ¬ (lo ≤ i ∧ i ≤ hi)
/-! ### lists of whole numbers and texts, compared -/
def PD : V → PyData
  | .int i => .int i
  | .str z => .str z
  | .bl b => .bool b
  | _ => .none
def isS : V → Bool
  | .int _ => true
  | .str z => PyData.strOk z
  | _ => false
theorem PD_dp {K : PySem.W.Frag} {H : Hp} {v : V} (h : isS v = true) : Dp K H v (PD v) := by
  cases v with
  | int i => exact .int i
  | str z => exact .str z
  | _ => cases h
theorem PD_all {K : PySem.W.Frag} {H : Hp} : ∀ {xs : List V}, xs.all isS = true → DpAll K H xs (xs.map PD)
  | [], _ => .nil
  | x :: xs, h => by
    rw [List.all_cons, Bool.and_eq_true] at h
    exact .cons (PD_dp h.1) (PD_all h.2)
theorem PD_lay : ∀ {xs : List V}, xs.all isS = true → PyData.canLayAll0 (xs.map PD) = true ∧ PyData.depthAll (xs.map PD) = 0
  | [], _ => ⟨by simp [PyData.canLayAll0], by simp [PyData.depthAll]⟩
  | x :: xs, h => by
    rw [List.all_cons, Bool.and_eq_true] at h
    obtain ⟨h1, h2⟩ := PD_lay h.2
    have h3 : PyData.canLay0 (PD x) = true ∧ PyData.depth (PD x) = 0 := by
      cases x with
      | int i => simp [PD, PyData.canLay0, PyData.depth]
      | str z =>
        have hz : PyData.strOk z = true := h.1
        simp [PD, PyData.canLay0, PyData.depth, hz]
      | _ => cases h.1
    exact ⟨by rw [List.map_cons, PyData.canLayAll0, h3.1, h1]; rfl, by rw [List.map_cons, PyData.depthAll, h3.2, h2]; rfl⟩
theorem PD_shaped {xs : List V} (h : xs.all isS = true) : SeqAt.shaped (.list (xs.map PD)) = true := by
  obtain ⟨h1, h2⟩ := PD_lay h
  unfold SeqAt.shaped
  rw [Bool.and_eq_true]
  exact ⟨by rw [PyData.canLay0]; exact h1, by rw [PyData.depth, h2]; rfl⟩
theorem PD_eqv1 {x y : V} (hx : isS x = true) (hy : isS y = true) : PyData.eqv (PD x) (PD y) = decide (x = y) := by
  cases x with
  | int i =>
    cases y with
    | int j =>
      show PyData.eqv (.int i) (.int j) = _
      rw [PyData.eqv]
      by_cases e : i = j
      · subst e
        simp
      · have e2 : ¬ (V.int i = V.int j) := fun q => e (V.int.inj q)
        rw [decide_eq_false e2]
        exact beq_eq_false_iff_ne.mpr e
    | str z =>
      show PyData.eqv (.int i) (.str z) = _
      rw [PyData.eqv]
      exact (decide_eq_false (fun q => nomatch q)).symm
    | _ => cases hy
  | str z =>
    cases y with
    | int j =>
      show PyData.eqv (.str z) (.int j) = _
      rw [PyData.eqv]
      exact (decide_eq_false (fun q => nomatch q)).symm
    | str u =>
      show PyData.eqv (.str z) (.str u) = _
      rw [PyData.eqv]
      by_cases e : z = u
      · subst e
        simp
      · have e2 : ¬ (V.str z = V.str u) := fun q => e (V.str.inj q)
        rw [decide_eq_false e2]
        exact beq_eq_false_iff_ne.mpr e
    | _ => cases hy
  | _ => cases hx
theorem PD_eqv : ∀ {xs ys : List V}, xs.all isS = true → ys.all isS = true → PyData.eqvAll (xs.map PD) (ys.map PD) = decide (xs = ys)
  | [], [], _, _ => by simp [PyData.eqvAll]
  | [], y :: ys, _, _ => by simp [PyData.eqvAll]
  | x :: xs, [], _, _ => by simp [PyData.eqvAll]
  | x :: xs, y :: ys, hx, hy => by
    rw [List.all_cons, Bool.and_eq_true] at hx hy
    rw [List.map_cons, List.map_cons, PyData.eqvAll, PD_eqv1 hx.1 hy.1, PD_eqv hx.2 hy.2, ← Bool.decide_and]
    exact decide_eq_decide.mpr (by rw [List.cons.injEq])
section
variable {K : PySem.W.Frag} {H : Hp} {p q : Addr} {xs ys : List V} {Q : VK}
theorem eqD_l (hp : SqL K H p xs) (hq : SqL K H q ys) (fx : xs.all isS = true) (fy : ys.all isS = true) (k : Q (.bl (decide (xs = ys))) H) : rEqD K (.ref p) (.ref q) H Q :=
  ⟨_, _, .lst hp (PD_all fx), .lst hq (PD_all fy), PD_shaped fx, PD_shaped fy, by
    have e : PyData.eqv (.list (xs.map PD)) (.list (ys.map PD)) = decide (xs = ys) := by rw [PyData.eqv, PD_eqv fx fy]
    rw [e]
    exact k⟩
theorem neD_l (hp : SqL K H p xs) (hq : SqL K H q ys) (fx : xs.all isS = true) (fy : ys.all isS = true) (k : Q (.bl (!decide (xs = ys))) H) : rNeD K (.ref p) (.ref q) H Q :=
  ⟨_, _, .lst hp (PD_all fx), .lst hq (PD_all fy), PD_shaped fx, PD_shaped fy, by
    have e : PyData.eqv (.list (xs.map PD)) (.list (ys.map PD)) = decide (xs = ys) := by rw [PyData.eqv, PD_eqv fx fy]
    rw [e]
    exact k⟩
end
theorem isS_ints {α : Type} (f : α → Int) (xs : List α) : (xs.map fun x => V.int (f x)).all isS = true := by
  rw [List.all_map, List.all_eq_true]
  intro x _
  rfl
/-! ### slices from and to a place -/
theorem cut_from (xs : List V) (k : Nat) : cutV xs (some (k : Int)) none = xs.drop k := by
  unfold cutV
  rw [HT.sIx_nat, HT.sIx_none]
  by_cases h : k ≤ xs.length
  · rw [Nat.min_eq_left h, List.take_of_length_le (by rw [List.length_drop]; exact Nat.le_refl _)]
  · rw [Nat.min_eq_right (by omega), List.drop_of_length_le (Nat.le_refl _), List.drop_of_length_le (by omega), List.take_nil]
theorem cut_to (xs : List V) (k : Nat) : cutV xs none (some (k : Int)) = xs.take k := by
  unfold cutV
  rw [HT.sIx_nat, HT.sIx_none, List.drop_zero, Nat.sub_zero]
  by_cases h : k ≤ xs.length
  · rw [Nat.min_eq_left h]
  · rw [Nat.min_eq_right (by omega), List.take_of_length_le (Nat.le_refl _), List.take_of_length_le (by omega)]
/-! ### for i, x in enumerate(xs) -/
theorem for_enum {K : PySem.W.Frag} {a : Addr} {xs : List V} {g : TG} {tb : TS} {D : Ends} {σ : L2.St} {H : Hp} (M : Nat → L2.St → Hp → Prop) (h0 : M 0 σ H)
    (hl : ∀ i σ H, i ≤ xs.length → M i σ H → SqL K H a xs)
    (hs : ∀ i x σ H T, xs[i]? = some x → M i σ H → H T = none → g (.ref T) σ (upd H T (.tup [.int (i : Nat), x])) fun σ2 H2 => tb { D with nx := M (i + 1), ct := M (i + 1), bk := D.nx } σ2 H2)
    (hd : ∀ σ H, M xs.length σ H → D.nx σ H) :
    ∃ W : Nat → Nat → L2.St → Hp → Prop, (∃ m, W 0 m σ H) ∧ ∀ i m σ H, W i m σ H →
      ((Ite K a).stop i H ∧ D.nx σ H) ∨ ((Ite K a).go i H ∧ ∃ N : L2.St → Hp → Prop, (∀ σ' H', N σ' H' → ∃ m', m' < m ∧ W (i + 1) m' σ' H') ∧
        ∀ x H', (Ite K a).yld i H x H' → g x σ H' fun σ2 H2 => tb { D with nx := N, ct := N, bk := D.nx } σ2 H2) := by
  refine ⟨fun i m σ H => m = xs.length - i ∧ i ≤ xs.length ∧ M i σ H, ⟨xs.length, by simp, Nat.zero_le _, h0⟩, ?_⟩
  rintro i m σ H ⟨rfl, hi, p⟩
  have q := hl i σ H hi p
  by_cases hlt : i < xs.length
  · refine .inr ⟨⟨xs, xs[i], q, by simp [hlt]⟩, M (i + 1), fun σ' H' p' => ⟨xs.length - (i + 1), by omega, rfl, hlt, p'⟩, fun v H' y => ?_⟩
    obtain ⟨T, x, rfl, hT, rfl, e⟩ := y
    exact hs i x σ H T (e xs q) p hT
  · have e : i = xs.length := by omega
    subst e
    exact .inl ⟨⟨xs, q, Nat.le_refl _⟩, hd σ H p⟩
/-! ### the law's draws: a list of one number -/
def StOk (s : Int) : Prop := 0 ≤ s ∧ s < 4294967296
def StAt (H : Hp) (st : Addr) : Prop := ∃ s, StOk s ∧ H st = some (.lst [.int s])
/-- some draws were made: the state's number changed, what is new may stand beside -/
def Drew (st : Addr) (H H' : Hp) : Prop := Kp [st] H H' ∧ StAt H' st
section
variable {st a p : Addr} {H H1 H2 : Hp} {o : HO}
theorem Drew.trans (x : Drew st H H1) (y : Drew st H1 H2) : Drew st H H2 := ⟨x.1.trans y.1, y.2⟩
theorem Drew.at (x : Drew st H H1) (h : H a = some o) (n : a ≠ st) : H1 a = some o := x.1.one h n
theorem Drew.lst {K : PySem.W.Frag} {xs : List V} (x : Drew st H H1) (h : SqL K H a xs) (n : a ≠ st) : SqL K H1 a xs := x.1.lst h fun q => n (List.mem_singleton.mp q)
theorem Drew.free (x : Drew st H H1) (h : H1 p = none) : H p = none := x.1.free h fun q => by
  obtain ⟨s, _, e⟩ := x.2
  rw [List.mem_singleton.mp q, e] at h
  cases h
theorem Drew.new (x : Drew st H H1) (h : H1 p = none) : Drew st H (upd H1 p o) := by
  obtain ⟨s, h1, e⟩ := id x.2
  exact ⟨x.1.trans (Kp.new h), s, h1, by rw [upd_ne (ne_of_none e h)]; exact e⟩
theorem StAt.new (x : StAt H st) (h : H p = none) : StAt (upd H p o) st := by
  obtain ⟨s, h1, e⟩ := x
  exact ⟨s, h1, by rw [upd_ne (ne_of_none e h)]; exact e⟩
theorem Drew.refl (x : StAt H st) : Drew st H H := ⟨Kp.refl H, x⟩
theorem StAt.ne {xs : List V} (x : StAt H st) (h : H a = some (.lst xs)) (n : 2 ≤ xs.length) : a ≠ st := fun q => by
  obtain ⟨s, _, e⟩ := x
  rw [q, e] at h
  injection h with h
  injection h with h
  rw [← h] at n
  exact absurd n (by simp)
end
/-! ### small facts -/
theorem emod_nat {s : Int} (n : Nat) (h : 0 ≤ s) : s % (n : Int) = ((s.toNat % n : Nat) : Int) := by
  obtain ⟨k, rfl⟩ := Int.eq_ofNat_of_zero_le h
  rfl
theorem seq0 {α : Type} (x : α) (c : List α) : seqIndex? 0 (x :: c).length = some 0 := by
  have h : (0 : Int) < ((c.length + 1 : Nat) : Int) := by omega
  simp [seqIndex?, h]
theorem StAt.fresh {H : Hp} {st p : Addr} (x : StAt H st) (h : H p = none) : p ≠ st := fun q => by
  obtain ⟨s, _, e⟩ := x
  rw [q, e] at h
  cases h
theorem StAt.keep {H H1 : Hp} {st : Addr} {ws : List Addr} (k : Kp ws H H1) (x : StAt H st) (n : st ∉ ws) : StAt H1 st := by
  obtain ⟨s, h1, e⟩ := x
  exact ⟨s, h1, k _ _ e n⟩
theorem StAt.same {H H1 : Hp} {st : Addr} (x : StAt H st) (k : Kp [] H H1) : StAt H1 st := x.keep k List.not_mem_nil
theorem Drew.kp {H H1 : Hp} {st : Addr} (k : Kp [] H H1) (x : StAt H st) : Drew st H H1 := ⟨k.mono fun _ h => absurd h List.not_mem_nil, x.same k⟩
theorem rotL_all {α : Type} {f : α → Bool} {xs : List α} (k : Nat) (h : xs.all f = true) : (Jo.rotL xs k).all f = true := by
  rw [List.all_eq_true] at h ⊢
  intro x hx
  exact h x ((Jo.rotL_perm xs k).mem_iff.mp hx)
theorem out_all {α : Type} {f : α → Bool} {xs : List α} (t : Nat) (h : xs.all f = true) : (Jo.out t xs).all f = true := by
  rw [List.all_eq_true] at h ⊢
  intro x hx
  exact h x ((Jo.out_perm t xs).mem_iff.mp hx)
theorem rgV_all (n : Nat) : (rgV 0 n).all isS = true := by
  unfold rgV
  rw [List.all_map, List.all_eq_true]
  intro x _
  rfl
theorem rgV_len (n : Nat) : (rgV 0 n).length = n := by
  rw [rgV_length]
  omega
/-- the places in the order in which they go -/
abbrev ordV (s n b : Nat) : List V := Jo.out (s - 1) (Jo.rotL (rgV 0 n) b)
theorem ordV_len (s n b : Nat) : (ordV s n b).length = n := by rw [Jo.out_length, Jo.rotL_length, rgV_len]
theorem ordV_all (s n b : Nat) : (ordV s n b).all isS = true := out_all _ (rotL_all _ (rgV_all n))
theorem ordV_get {s n b i : Nat} (hs : 1 ≤ s) (hb : b < n) (hi : i < n) : (ordV s n b)[i]? = some (.int (((b + Jo.pos s n ((i + 1) * s)) % n : Nat) : Int)) := by
  have e : rgV 0 n = (List.range n).map fun i => V.int ((i : Nat) : Int) := by
    unfold rgV
    have e1 : ((n : Int) - 0).toNat = n := by omega
    rw [e1]
    refine List.map_congr_left fun x _ => ?_
    rw [Int.zero_add]
  unfold ordV
  rw [e, Jo.rotL_map, Jo.rot_range_map hb, List.map_map, Jo.out_map, List.getElem?_map, Jo.out_range hs hi]
  show some (V.int (((Jo.pos s n ((i + 1) * s) + b) % n : Nat) : Int)) = _
  rw [Nat.add_comm]
theorem rotL_id {α : Type} (xs : List α) : Jo.rotL xs 0 = xs := Jo.rotL_zero xs
theorem at_last {α : Type} {xs : List α} {n : Nat} {v : α} (hl : xs.length = n) (hn : 0 < n) (h : xs[n - 1]? = some v) : atI xs (-1) = some v := by
  have e : ixN xs.length (-1) = some (n - 1) := by
    unfold ixN
    rw [hl, if_neg (by decide), if_pos (by omega)]
    congr 1
    omega
  unfold atI
  rw [e]
  exact h
section
variable {K : PySem.W.Frag} {H : Hp} {p q : Addr} {xs : List V} {x : V} {Q : VK}
theorem ne_same (h : scal x x = true) (k : Q (.bl false) H) : rNe x x H Q := ⟨h, by rw [decide_eq_true rfl]; exact k⟩
theorem eq_same (h : scal x x = true) (k : Q (.bl true) H) : rEq x x H Q := ⟨h, by rw [decide_eq_true rfl]; exact k⟩
theorem neD_same (hp : SqL K H p xs) (hq : SqL K H q xs) (fx : xs.all isS = true) (k : Q (.bl false) H) : rNeD K (.ref p) (.ref q) H Q :=
  neD_l hp hq fx fx (by rw [decide_eq_true rfl]; exact k)
theorem eqD_same (hp : SqL K H p xs) (hq : SqL K H q xs) (fx : xs.all isS = true) (k : Q (.bl true) H) : rEqD K (.ref p) (.ref q) H Q :=
  eqD_l hp hq fx fx (by rw [decide_eq_true rfl]; exact k)
end
theorem exct {K : PySem.W.Frag} {x : Str} (h : (He.Fa.exc x).ok K = true) : ExcT K (He.ga K x) := by
  obtain ⟨h1, h2, h3, h4⟩ := He.exc_ok h
  exact ⟨h1, h2, h3, h4⟩
/-- a def with defaults, called with all its arguments -/
theorem bindsFull {K : PySem.W.Frag} {x qual : Str} {params : Arguments} {body : List Stmt} {scope : Scope} {dvs : List V} {f : Addr} {fd : FuncData} {ps : List Str}
    (F : FunD K x qual params body scope dvs [] f fd) (hd : dvs ≠ [])
    (h : ∀ (T : Addr) (kV doc pm : Value) (an : Option Addr) (cdv ct : Value) (us : List Value), us.length = ps.length →
      bindArgs (PySem.W.fnOf x qual params body scope (.ref T) kV doc pm an cdv ct) ⟨us, []⟩ = pure (ps.zip us)) : Binds K fd ps [] := by
  obtain ⟨oc, od, dV, kV, doc, pm, an, cdv, ct, osl, rfl, lk, hcd, hD, hK⟩ := F.ex
  rcases hD with ⟨e, _⟩ | ⟨_, T, o, its, m, rfl, lT, oT, rT⟩
  · exact absurd e hd
  · exact .all (h T kV doc pm an cdv ct)
/-- what is written was not known at the start -/
theorem Kp.lst0 {K : PySem.W.Frag} {ws : List Addr} {H H1 : Hp} {a : Addr} {xs : List V} (x : Kp ws H H1) (h : SqL K H a xs) (n : ∀ w ∈ ws, H w = none) : SqL K H1 a xs := by
  rcases h with (h | ⟨o, h⟩) | h
  · exact .inl (.inl (x _ _ h fun q => by rw [n _ q] at h; cases h))
  · exact .inl (.inr ⟨o, x _ _ h fun q => by rw [n _ q] at h; cases h⟩)
  · exact .inr h
theorem Drew.lst0 {K : PySem.W.Frag} {H H1 : Hp} {a st : Addr} {xs : List V} (d : Drew st H H1) (h : SqL K H a xs) (n : H st = none) : SqL K H1 a xs :=
  d.1.lst0 h fun w q => by rw [List.mem_singleton.mp q]; exact n
theorem pow60 : (10 : Int) ^ (60 : Int).toNat = 10 ^ 60 := rfl
theorem sub_mod {n p L : Nat} (hL : L < n) (hp : p < n) : ((p : Int) - (L : Int)) % (n : Int) = (((p + n - L) % n : Nat) : Int) := by
  have e1 : ((p : Int) - (L : Int)) % (n : Int) = ((p : Int) - (L : Int) + (n : Int)) % (n : Int) := by rw [Int.add_emod_right]
  have e2 : (p : Int) - (L : Int) + (n : Int) = ((p + n - L : Nat) : Int) := by omega
  rw [e1, e2]
  rfl
/-! ### rules that name the written part K (within a comprehension's block) -/
section
variable {X : Cx} {K : PySem.W.Frag}
theorem ix_lK (e : X.K = K := by rfl) : IxR X (rIxL K) := by
  subst e
  exact ix_list
theorem lenK (e : X.K = K := by rfl) : CallR X (.builtin "len") (fun xs H Q => ∃ p ys, xs = [.ref p] ∧ (SqL K H p ys ∨ SqT K H p ys) ∧ Q (.int ys.length) H) := by
  subst e
  exact call_len_seq
theorem isiK (e : X.K = K := by rfl) : CallR X (.builtin "isinstance") (rIsi K) := by
  subst e
  exact call_isi
end
/-- the value that is stored, in another form -/
theorem set_eq {i : Nat} {x y : V} {σ : L2.St} {H : Hp} {Q : L2.St → Hp → Prop} (e : x = y) (h : gName i y σ H Q) : gName i x σ H Q := by
  rw [e]
  exact h
theorem tyes {σ : L2.St} {H : Hp} {Q : Bool → Hp → Prop} (h : Q true H) : tYes σ H Q := h
section
variable {H : Hp} {x y : V} {Q : VK}
theorem ne_no (e : x = y) (h : scal x x = true) (k : Q (.bl false) H) : rNe x y H Q := by
  subst e
  exact ne_same h k
theorem ne_yes (e : ¬ x = y) (h : scal x y = true) (k : Q (.bl true) H) : rNe x y H Q := ⟨h, by rw [decide_eq_false e]; exact k⟩
theorem eq_yes (e : x = y) (h : scal x x = true) (k : Q (.bl true) H) : rEq x y H Q := by
  subst e
  exact eq_same h k
theorem eq_no (e : ¬ x = y) (h : scal x y = true) (k : Q (.bl false) H) : rEq x y H Q := ⟨h, by rw [decide_eq_false e]; exact k⟩
end
theorem vint {a b : Int} (e : a = b) : V.int a = V.int b := congrArg V.int e
theorem vint_ne {a b : Int} (e : ¬ a = b) : ¬ V.int a = V.int b := fun q => e (V.int.inj q)
theorem vnat {a b : Nat} (e : a = b) : V.int (a : Int) = V.int (b : Int) := congrArg (fun q : Nat => V.int (q : Int)) e
theorem vnat_ne {a b : Nat} (e : ¬ a = b) : ¬ V.int (a : Int) = V.int (b : Int) := fun q => e (by have := V.int.inj q; omega)
end Lz
namespace Lz
open PySem PySem.Spec PyProof.Rows L2

def top (i : Nat) : Stmt := PySem.Challenge.pw_countout_k06_beginnings_wished.main.body.getD i (.Pass ⟨0, 0, 0, 0⟩)
abbrev cCountError (K : PySem.W.Frag) : Addr := He.ga K "CountError"
abbrev cNoMany (K : PySem.W.Frag) : Addr := He.ga K "NoMany"
abbrev cNoStep (K : PySem.W.Frag) : Addr := He.ga K "NoStep"
abbrev cNoPlace (K : PySem.W.Frag) : Addr := He.ga K "NoPlace"
structure Txt (K : PySem.W.Frag) (mg : Str → Option Value) : Prop where
  b_len : mg "len" = none
  b_range : mg "range" = none
  b_list : mg "list" = none
  b_min : mg "min" = none
  b_max : mg "max" = none
  b_isinstance : mg "isinstance" = none
  b_int : mg "int" = none
  b_bool : mg "bool" = none
  b_str : mg "str" = none
  b_enumerate : mg "enumerate" = none
  b_all : mg "all" = none
  b_set : mg "set" = none
  b_ValueError : mg "ValueError" = none
  c_GREATEST : ∃ t, mg "GREATEST" = some (.int (1000000000000000000000000000000000000000000000000000000000000) t)
  c_MOST_STEP : ∃ t, mg "MOST_STEP" = some (.int (100) t)
  g_CountError : mg "CountError" = some (.ref (cCountError K))
  g_NoMany : mg "NoMany" = some (.ref (cNoMany K))
  g_NoStep : mg "NoStep" = some (.ref (cNoStep K))
  g_NoPlace : mg "NoPlace" = some (.ref (cNoPlace K))
  x_CountError : PySem.W.keepIn K (.ref (cCountError K)) = true
  x_NoMany : ExcT K (cNoMany K)
  x_NoStep : ExcT K (cNoStep K)
  x_NoPlace : ExcT K (cNoPlace K)
end Lz
namespace Lz
open PySem PySem.Spec PyProof.Rows L2
abbrev s__law_cell_at : Stmt := top 19
def spCell (K : PySem.W.Frag) : Sp := fun vs H Q _ => ∃ (a : Addr) (ns : List Int) (k : Int), vs = [.ref a, .int k] ∧
  SqL K H a (ns.map V.int) ∧ 0 ≤ k ∧ ∀ v : Int, Q (.int v) H
section
variable {P : Program} {w : World} {K : PySem.W.Frag} {mg : Str → Option Value} {base : Heap}
theorem sc__law_cell_at : FnScope ["_law_script", "_law_k"] ["_law_script", "_law_k"] (defScope s__law_cell_at) := ⟨rfl, rfl, rfl, by decide +kernel, rfl, by decide +kernel, by decide +kernel⟩
theorem ok__law_cell_at {f : Addr} {fd : FuncData} (F : FnP K "_law_cell_at" "_law_cell_at" s__law_cell_at [] f fd) (T : Txt K mg)  :
    FnOk P w K mg base CX0 1 f fd ["_law_script", "_law_k"] (spCell K) := by
  have S := sc__law_cell_at
  refine F.ok S (fun vs H Q E h => ?_) (fun cdv A outer s H vs Q E hr h => ?_)
  · obtain ⟨a, ns, k, rfl, _⟩ := h
    rfl
  · obtain ⟨a, ns, k, rfl, hS, h0, hQ⟩ := h
    refine ⟨_, PSs.nox (pss_cons (ps_if (pt_cmpR op_lt (pv 1) (pe_callB call_len_seq (by rfl) T.b_len PySem.boot_len (pa_cons (pv 0) pa_nil)) (nomark _)) (pss_one (ps_ret (pe_ix ix_list (pv 0) (pv 1) (fun _ _ => rfl)))) pss_nil) (pss_one (ps_ret pe_int))), ?_⟩
    refine ⟨_, rfl, _, rfl, a, _, rfl, .inl hS, _, _, rfl, rfl, _, rfl, ite2 (fun c => ?_) (fun c => hQ 0)⟩
    have c1 : k < ((ns.map V.int).length : Int) := of_decide_eq_true c
    rw [List.length_map] at c1
    have c2 : k.toNat < ns.length := by omega
    have e : (ns.map V.int)[k.toNat]? = some (.int ns[k.toNat]) := by
      rw [List.getElem?_map, List.getElem?_eq_getElem c2]
      rfl
    exact ⟨_, rfl, _, rfl, a, _, _, _, rfl, rfl, hS, at_of (j := k.toNat) (by omega) e, hQ _⟩
end
end Lz
namespace Lz
open PySem PySem.Spec PyProof.Rows L2
abbrev s__law_state : Stmt := top 21
def spState (K : PySem.W.Frag) : Sp := fun vs H Q _ => ∃ (a : Addr) (ns : List Int) (k : Int), vs = [.ref a, .int k] ∧
  SqL K H a (ns.map V.int) ∧ 0 ≤ k ∧ ∀ (p : Addr) (H' : Hp), H p = none → Kp [] H H' → StAt H' p → Q (.ref p) H'
section
variable {P : Program} {w : World} {K : PySem.W.Frag} {mg : Str → Option Value} {base : Heap}
theorem sc__law_state : FnScope ["_law_script", "_law_first"] ["_law_script", "_law_first"] (defScope s__law_state) := ⟨rfl, rfl, rfl, by decide +kernel, rfl, by decide +kernel, by decide +kernel⟩
theorem ok__law_state {f : Addr} {fd : FuncData} (F : FnP K "_law_state" "_law_state" s__law_state [] f fd) (T : Txt K mg) (G__law_cell_at : FnAt P w K mg base CX0 1 "_law_cell_at" ["_law_script", "_law_k"] [] (spCell K)) :
    FnOk P w K mg base CX0 2 f fd ["_law_script", "_law_first"] (spState K) := by
  have S := sc__law_state
  refine F.ok S (fun vs H Q E h => ?_) (fun cdv A outer s H vs Q E hr h => ?_)
  · obtain ⟨a, ns, k, rfl, _⟩ := h
    rfl
  · obtain ⟨a, ns, k, rfl, hS, h0, hQ⟩ := h
    refine ⟨_, PSs.nox (pss_one (ps_ret (pe_lst (pa_cons (pe_op op_add (pe_op op_add pe_int (pe_op op_mod (pe_fn G__law_cell_at (hr.mono (by decide)) pass0 (pa_cons (pv 0) (pa_cons (pv 1) pa_nil))) pe_int)) (pe_op op_mod (pe_fn G__law_cell_at (hr.mono (by decide)) pass0 (pa_cons (pv 0) (pa_cons (pe_op op_add (pv 1) pe_int) pa_nil))) pe_int)) pa_nil)))), ?_⟩
    refine ⟨_, rfl, _, rfl, a, ns, k, rfl, hS, h0, fun v => ?_⟩
    refine ⟨_, _, rfl, rfl, (by show (0 : Int) < _; decide), _, _, rfl, rfl, ?_⟩
    refine ⟨_, rfl, _, rfl, _, _, rfl, rfl, a, ns, k + 1, rfl, hS, by omega, fun u => ?_⟩
    refine ⟨_, _, rfl, rfl, (by show (0 : Int) < _; decide), _, _, rfl, rfl, sz 1 (by decide), fun p hp => ?_⟩
    refine hQ p _ hp (Kp.new hp) ⟨_, ⟨?_, ?_⟩, upd_same⟩
    · omega
    · omega
end
end Lz
namespace Lz
open PySem PySem.Spec PyProof.Rows L2
abbrev s__law_next : Stmt := top 20
def spNext : Sp := fun vs H Q _ => ∃ st : Addr, vs = [.ref st] ∧ StAt H st ∧
  ∀ (H' : Hp) (r : Int), Drew st H H' → 0 ≤ r → r < 2147483648 → Q (.int r) H'
section
variable {P : Program} {w : World} {K : PySem.W.Frag} {mg : Str → Option Value} {base : Heap}
theorem sc__law_next : FnScope ["_law_state_here"] ["_law_state_here"] (defScope s__law_next) := ⟨rfl, rfl, rfl, by decide +kernel, rfl, by decide +kernel, by decide +kernel⟩
theorem ok__law_next {f : Addr} {fd : FuncData} (F : FnP K "_law_next" "_law_next" s__law_next [] f fd) (T : Txt K mg)  :
    FnOk P w K mg base CX0 1 f fd ["_law_state_here"] spNext := by
  have S := sc__law_next
  refine F.ok S (fun vs H Q E h => ?_) (fun cdv A outer s H vs Q E hr h => ?_)
  · obtain ⟨st, rfl, _⟩ := h
    rfl
  · obtain ⟨st, rfl, ⟨s, hs, h⟩, k⟩ := h
    refine ⟨_, PSs.nox (pss_cons (ps_asg (pe_op op_mod (pe_op op_add (pe_op op_mul (pe_ix ix_list (pv 0) pe_int (fun _ _ => rfl)) pe_int) pe_int) pe_int) (pg_sub (pv 0) pe_int set_list)) (pss_one (ps_ret (pe_op op_fdiv (pe_op op_mod (pe_op op_mul (pe_ix ix_list (pv 0) pe_int (fun _ _ => rfl)) (pe_ix ix_list (pv 0) pe_int (fun _ _ => rfl))) pe_int) pe_int)))), ?_⟩
    refine ⟨_, rfl, _, _, _, _, rfl, rfl, SqL.of h, rfl, _, _, rfl, rfl, .inr ⟨by decide, by decide⟩, _, _, rfl, rfl, _, _, rfl, rfl, (by show (0 : Int) < _; decide),
      _, rfl, _, _, _, 0, rfl, rfl, h, rfl, ?_⟩
    refine ⟨_, rfl, _, _, _, _, rfl, rfl, SqL.of upd_same, rfl, _, rfl, _, _, _, _, rfl, rfl, SqL.of upd_same, rfl, _, _, rfl, rfl, ?_, _, _, rfl, rfl, (by show (0 : Int) < _; decide),
      _, _, rfl, rfl, ⟨by decide, by decide⟩, ?_⟩
    · refine .inl ⟨?_, ?_⟩
      · show -(2 ^ 64) < (s * 48271 + 11) % 2147483647
        omega
      · show (s * 48271 + 11) % 2147483647 < 2 ^ 64
        omega
    · generalize (s * 48271 + 11) % 2147483647 * ((s * 48271 + 11) % 2147483647) = z
      refine k _ _ ⟨Kp.put (List.mem_singleton.mpr rfl), (s * 48271 + 11) % 2147483647, ⟨by omega, by omega⟩, upd_same⟩ ?_ ?_
      · show 0 ≤ z % 2147483629 / 7
        omega
      · show z % 2147483629 / 7 < 2147483648
        omega
end
end Lz
namespace Lz
open PySem PySem.Spec PyProof.Rows L2
abbrev s__law_of : Stmt := top 22
/-- one of the items of a list, one of the signs of a text -/
def spOf (K : PySem.W.Frag) : Sp := fun vs H Q _ => ∃ (st : Addr) (x : V), vs = [.ref st, x] ∧ StAt H st ∧
  ((∃ (p : Addr) (xs : List V), x = .ref p ∧ SqL K H p xs ∧ xs ≠ [] ∧ p ≠ st ∧ ∀ (H' : Hp) (v : V), v ∈ xs → Drew st H H' → Q v H') ∨
   (∃ z : Str, x = .str z ∧ 0 < z.length ∧ z.length ≤ 1000 ∧ ∀ (H' : Hp) (c : Nat), c ∈ z.cps.toList → Drew st H H' → Q (.str ⟨#[c]⟩) H'))
section
variable {P : Program} {w : World} {K : PySem.W.Frag} {mg : Str → Option Value} {base : Heap}
theorem sc__law_of : FnScope ["_law_state_here", "_law_some"] ["_law_state_here", "_law_some"] (defScope s__law_of) := ⟨rfl, rfl, rfl, by decide +kernel, rfl, by decide +kernel, by decide +kernel⟩
theorem ok__law_of {f : Addr} {fd : FuncData} (F : FnP K "_law_of" "_law_of" s__law_of [] f fd) (T : Txt K mg) (G__law_next : FnAt P w K mg base CX0 1 "_law_next" ["_law_state_here"] [] spNext) :
    FnOk P w K mg base CX0 2 f fd ["_law_state_here", "_law_some"] (spOf K) := by
  have S := sc__law_of
  refine F.ok S (fun vs H Q E h => ?_) (fun cdv A outer s H vs Q E hr h => ?_)
  · obtain ⟨st, x, rfl, _⟩ := h
    rfl
  · obtain ⟨st, x, rfl, hst, h⟩ := h
    refine ⟨_, PSs.nox (pss_one (ps_ret (pe_ix ix_seq (pv 1) (pe_op op_mod (pe_fn G__law_next (hr.mono (by decide)) pass0 (pa_cons (pv 0) pa_nil)) (pe_callB call_len (by rfl) T.b_len PySem.boot_len (pa_cons (pv 1) pa_nil))) (fun _ _ => rfl)))), ?_⟩
    refine ⟨_, rfl, _, rfl, st, rfl, hst, fun H1 r d r0 r1 => ?_⟩
    rcases h with ⟨p, xs, rfl, hS, hne, n, k⟩ | ⟨z, rfl, z0, z1, k⟩
    · have hl : 0 < xs.length := List.length_pos_iff.mpr hne
      refine ⟨_, rfl, _, xs.length, rfl, .inl ⟨_, d.lst hS n, rfl⟩, _, _, rfl, rfl, by omega, ?_⟩
      have m0 := Int.emod_nonneg r (show (xs.length : Int) ≠ 0 by omega)
      have m1 := Int.emod_lt_of_pos r (show 0 < (xs.length : Int) by omega)
      have hi : (r % (xs.length : Int)).toNat < xs.length := by omega
      exact .inl ⟨p, xs, _, _, rfl, rfl, d.lst hS n, at_of (j := (r % (xs.length : Int)).toNat) (by omega) (List.getElem?_eq_getElem hi), k _ _ (List.getElem_mem hi) d⟩
    · refine ⟨_, rfl, _, z.length, rfl, ⟨sz _ (by omega), rfl⟩, _, _, rfl, rfl, by omega, ?_⟩
      have m0 := Int.emod_nonneg r (show (z.length : Int) ≠ 0 by omega)
      have m1 := Int.emod_lt_of_pos r (show 0 < (z.length : Int) by omega)
      have hi : (r % (z.length : Int)).toNat < z.cps.toList.length := by
        show (r % (z.length : Int)).toNat < z.length
        omega
      have e : atI z.cps.toList (r % (z.length : Int)) = some z.cps.toList[(r % (z.length : Int)).toNat] := by
        have e1 : r % (z.length : Int) = (((r % (z.length : Int)).toNat : Nat) : Int) := by omega
        have e2 := atI_nat (List.getElem?_eq_getElem hi)
        rw [← e1] at e2
        exact e2
      exact .inr (.inr ⟨z, _, _, rfl, rfl, sz _ (by omega), e, k _ _ (List.getElem_mem hi) d⟩)
end
end Lz
namespace Lz
open PySem PySem.Spec PyProof.Rows L2
abbrev s__law_step : Stmt := top 26
def spStep (K : PySem.W.Frag) : Sp := fun vs H Q _ => ∃ (st : Addr) (m : Int), vs = [.ref st, .int m] ∧ StAt H st ∧ 12 ≤ m ∧
  ∀ (H' : Hp) (r : Int), Drew st H H' → 1 ≤ r → r ≤ m → Q (.int r) H'
section
variable {P : Program} {w : World} {K : PySem.W.Frag} {mg : Str → Option Value} {base : Heap}
theorem sc__law_step : FnScope ["_law_state_here", "_law_most"] ["_law_state_here", "_law_most"] (defScope s__law_step) := ⟨rfl, rfl, rfl, by decide +kernel, rfl, by decide +kernel, by decide +kernel⟩
theorem ok__law_step {f : Addr} {fd : FuncData} (F : FnP K "_law_step" "_law_step" s__law_step [] f fd) (T : Txt K mg) (G__law_of : FnAt P w K mg base CX0 2 "_law_of" ["_law_state_here", "_law_some"] [] (spOf K)) (G__law_next : FnAt P w K mg base CX0 1 "_law_next" ["_law_state_here"] [] spNext) :
    FnOk P w K mg base CX0 3 f fd ["_law_state_here", "_law_most"] (spStep K) := by
  have S := sc__law_step
  refine F.ok S (fun vs H Q E h => ?_) (fun cdv A outer s H vs Q E hr h => ?_)
  · obtain ⟨st, m, rfl, _⟩ := h
    rfl
  · obtain ⟨st, m, rfl, hst, hm, k⟩ := h
    refine ⟨_, PSs.nox (pss_one (ps_ret (pe_fn G__law_of (hr.mono (by decide)) pass0 (pa_cons (pv 0) (pa_cons (pe_lst (pa_cons pe_int (pa_cons pe_int (pa_cons pe_int (pa_cons (pe_op op_add pe_int (pe_op op_mod (pe_fn G__law_next (hr.mono (by decide)) pass0 (pa_cons (pv 0) pa_nil)) pe_int)) (pa_cons (pe_op op_add pe_int (pe_op op_mod (pe_fn G__law_next (hr.mono (by decide)) pass0 (pa_cons (pv 0) pa_nil)) (pv 1))) (pa_cons (pv 1) pa_nil))))))) pa_nil))))), ?_⟩
    refine ⟨_, rfl, _, rfl, st, rfl, hst, fun H1 r1 d1 a1 b1 => ?_⟩
    refine ⟨_, _, rfl, rfl, (by show (0 : Int) < _; decide), _, _, rfl, rfl, ?_⟩
    refine ⟨_, rfl, st, rfl, d1.2, fun H2 r2 d2 a2 b2 => ?_⟩
    refine ⟨_, rfl, _, _, rfl, rfl, by omega, _, _, rfl, rfl, _, rfl, sz 6 (by decide), fun p hp => ?_⟩
    obtain ⟨s2, ok2, e2⟩ := d2.2
    have ne : p ≠ st := fun q => by
      rw [q, e2] at hp
      cases hp
    refine ⟨st, _, rfl, StAt.new d2.2 hp, .inl ⟨p, _, rfl, SqL.of upd_same, by simp, ne, fun H' v hv d => ?_⟩⟩
    have D : Drew st H H' := ((d1.trans d2).new hp).trans d
    have q1 := Int.emod_nonneg r2 (show m ≠ 0 by omega)
    have q2 := Int.emod_lt_of_pos r2 (show 0 < m by omega)
    simp only [List.mem_cons, List.not_mem_nil, or_false] at hv
    rcases hv with rfl | rfl | rfl | rfl | rfl | rfl
    · exact k _ _ D (by omega) (by omega)
    · exact k _ _ D (by omega) (by omega)
    · exact k _ _ D (by omega) (by omega)
    · exact k _ _ D (by omega) (by omega)
    · exact k _ _ D (by omega) (by omega)
    · exact k _ _ D (by omega) (by omega)
end
end Lz
namespace Lz
open PySem PySem.Spec PyProof.Rows L2
abbrev s_is_number : Stmt := top 7
def spIsNum (K : PySem.W.Frag) : Sp := fun vs H Q _ => ∃ x, vs = [x] ∧ ((∃ i, x = .int i ∧ Q (.bl true) H) ∨ (NotNum K H x ∧ Q (.bl false) H))
section
variable {P : Program} {w : World} {K : PySem.W.Frag} {mg : Str → Option Value} {base : Heap}
theorem sc_is_number : FnScope ["thing"] ["thing"] (defScope s_is_number) := ⟨rfl, rfl, rfl, by decide +kernel, rfl, by decide +kernel, by decide +kernel⟩
theorem ok_is_number {f : Addr} {fd : FuncData} (F : FnP K "is_number" "is_number" s_is_number [] f fd) (T : Txt K mg)  :
    FnOk P w K mg base CX0 1 f fd ["thing"] (spIsNum K) := by
  have S := sc_is_number
  refine F.ok S (fun vs H Q E h => ?_) (fun cdv A outer s H vs Q E hr h => ?_)
  · obtain ⟨x, rfl, _⟩ := h
    rfl
  · obtain ⟨x, rfl, h⟩ := h
    refine ⟨_, PSs.nox (pss_one (ps_ret (pe_and (pe_callB call_isi (by rfl) T.b_isinstance (by decide +kernel) (pa_cons (pv 0) (pa_cons (pe_bltn (v := .ty "int") (by rfl) T.b_int (by decide +kernel) rfl) pa_nil))) (pe_one (pe_not (pe_callB call_isi (by rfl) T.b_isinstance (by decide +kernel) (pa_cons (pv 0) (pa_cons (pe_bltn (v := .ty "bool") (by rfl) T.b_bool (by decide +kernel) rfl) pa_nil)))))))), ?_⟩
    rcases h with ⟨i, rfl, k⟩ | ⟨⟨t, ht, hm⟩, k⟩
    · refine ⟨_, rfl, _, _, _, _, true, rfl, .ty _, .base (.int i), kit_ty (by decide +kernel), _, rfl, ?_⟩
      exact iteT ⟨_, rfl, _, _, _, _, false, rfl, .ty _, .base (.int i), kit_ty (by decide +kernel), _, rfl, k⟩
    · simp only [List.mem_cons, List.not_mem_nil, or_false] at hm
      rcases hm with rfl | rfl | rfl | rfl | rfl | rfl
      · exact ⟨_, rfl, _, _, _, _, false, rfl, .ty _, ht, kit_ty (by decide +kernel), _, rfl, iteF k⟩
      · refine ⟨_, rfl, _, _, _, _, true, rfl, .ty _, ht, kit_ty (by decide +kernel), _, rfl, iteT ?_⟩
        exact ⟨_, rfl, _, _, _, _, true, rfl, .ty _, ht, kit_ty (by decide +kernel), _, rfl, k⟩
      · exact ⟨_, rfl, _, _, _, _, false, rfl, .ty _, ht, kit_ty (by decide +kernel), _, rfl, iteF k⟩
      · exact ⟨_, rfl, _, _, _, _, false, rfl, .ty _, ht, kit_ty (by decide +kernel), _, rfl, iteF k⟩
      · exact ⟨_, rfl, _, _, _, _, false, rfl, .ty _, ht, kit_ty (by decide +kernel), _, rfl, iteF k⟩
      · exact ⟨_, rfl, _, _, _, _, false, rfl, .ty _, ht, kit_ty (by decide +kernel), _, rfl, iteF k⟩
end
end Lz
namespace Lz
open PySem PySem.Spec PyProof.Rows L2
abbrev s_need_many : Stmt := top 8
/-- a number from lo to the second, or the class's refusal -/
def spNeed (K : PySem.W.Frag) (C : Addr) (lo : Int) : Sp := fun vs H Q E => ∃ x m, vs = [x, .int m] ∧
  ((∃ i, x = .int i ∧ lo ≤ i ∧ i ≤ m ∧ Q .non H) ∨ (OutN K H lo m x ∧ E (.ref C) none H))
section
variable {P : Program} {w : World} {K : PySem.W.Frag} {mg : Str → Option Value} {base : Heap}
theorem sc_need_many : FnScope ["many", "most"] ["many", "most"] (defScope s_need_many) := ⟨rfl, rfl, rfl, by decide +kernel, rfl, by decide +kernel, by decide +kernel⟩
theorem ok_need_many {f : Addr} {fd : FuncData} (F : FnP K "need_many" "need_many" s_need_many [] f fd) (T : Txt K mg) (G_is_number : FnAt P w K mg base CX0 1 "is_number" ["thing"] [] (spIsNum K)) :
    FnOk P w K mg base (CXr P w) 2 f fd ["many", "most"] (spNeed K (cNoMany K) 1) := by
  have S := sc_need_many
  refine F.ok S (fun vs H Q E h => ?_) (fun cdv A outer s H vs Q E hr h => ?_)
  · obtain ⟨x, m, rfl, _⟩ := h
    rfl
  · obtain ⟨x, m, rfl, h⟩ := h
    refine ⟨_, (pss_one (ps_if (PW.pt (pw_or (pt_not (pt_val (pe_fn G_is_number (hr.mono (by decide)) pass0 (pa_cons (pv 0) pa_nil)))) (pw_or1 (pt_not (pt_chain op_le op_le pe_int (pv 0) (pv 1)))))) (pss_one (ps_raise rfl (takes_of rfl rfl rfl rfl) (pmk_t T.x_NoMany T.g_NoMany))) pss_nil)), ?_⟩
    rcases h with ⟨i, rfl, h1, h2, k⟩ | ⟨⟨hn⟩ | ⟨i, rfl, hn⟩, k⟩
    · refine ⟨_, rfl, _, rfl, .inl ⟨i, rfl, _, rfl, iteF ?_⟩⟩
      refine ⟨_, rfl, _, _, rfl, rfl, _, rfl, ?_⟩
      rw [decide_eq_true h1]
      refine iteT ⟨_, rfl, _, _, rfl, rfl, _, rfl, ?_⟩
      rw [decide_eq_true h2]
      exact iteF k
    · exact ⟨_, rfl, _, rfl, .inr ⟨‹_›, _, rfl, iteT (iteT k)⟩⟩
    · refine ⟨_, rfl, _, rfl, .inl ⟨i, rfl, _, rfl, iteF ?_⟩⟩
      refine ⟨_, rfl, _, _, rfl, rfl, _, rfl, ?_⟩
      by_cases h1 : 1 ≤ i
      · rw [decide_eq_true h1]
        refine iteT ⟨_, rfl, _, _, rfl, rfl, _, rfl, ?_⟩
        rw [decide_eq_false (by omega)]
        exact iteT k
      · rw [decide_eq_false h1]
        exact iteF ⟨_, rfl, iteT k⟩
end
end Lz
namespace Lz
open PySem PySem.Spec PyProof.Rows L2
abbrev s_need_step : Stmt := top 9
section
variable {P : Program} {w : World} {K : PySem.W.Frag} {mg : Str → Option Value} {base : Heap}
theorem sc_need_step : FnScope ["step", "most"] ["step", "most"] (defScope s_need_step) := ⟨rfl, rfl, rfl, by decide +kernel, rfl, by decide +kernel, by decide +kernel⟩
theorem ok_need_step {f : Addr} {fd : FuncData} (F : FnP K "need_step" "need_step" s_need_step [] f fd) (T : Txt K mg) (G_is_number : FnAt P w K mg base CX0 1 "is_number" ["thing"] [] (spIsNum K)) :
    FnOk P w K mg base (CXr P w) 2 f fd ["step", "most"] (spNeed K (cNoStep K) 1) := by
  have S := sc_need_step
  refine F.ok S (fun vs H Q E h => ?_) (fun cdv A outer s H vs Q E hr h => ?_)
  · obtain ⟨x, m, rfl, _⟩ := h
    rfl
  · obtain ⟨x, m, rfl, h⟩ := h
    refine ⟨_, (pss_one (ps_if (PW.pt (pw_or (pt_not (pt_val (pe_fn G_is_number (hr.mono (by decide)) pass0 (pa_cons (pv 0) pa_nil)))) (pw_or1 (pt_not (pt_chain op_le op_le pe_int (pv 0) (pv 1)))))) (pss_one (ps_raise rfl (takes_of rfl rfl rfl rfl) (pmk_t T.x_NoStep T.g_NoStep))) pss_nil)), ?_⟩
    rcases h with ⟨i, rfl, h1, h2, k⟩ | ⟨⟨hn⟩ | ⟨i, rfl, hn⟩, k⟩
    · refine ⟨_, rfl, _, rfl, .inl ⟨i, rfl, _, rfl, iteF ?_⟩⟩
      refine ⟨_, rfl, _, _, rfl, rfl, _, rfl, ?_⟩
      rw [decide_eq_true h1]
      refine iteT ⟨_, rfl, _, _, rfl, rfl, _, rfl, ?_⟩
      rw [decide_eq_true h2]
      exact iteF k
    · exact ⟨_, rfl, _, rfl, .inr ⟨‹_›, _, rfl, iteT (iteT k)⟩⟩
    · refine ⟨_, rfl, _, rfl, .inl ⟨i, rfl, _, rfl, iteF ?_⟩⟩
      refine ⟨_, rfl, _, _, rfl, rfl, _, rfl, ?_⟩
      by_cases h1 : 1 ≤ i
      · rw [decide_eq_true h1]
        refine iteT ⟨_, rfl, _, _, rfl, rfl, _, rfl, ?_⟩
        rw [decide_eq_false (by omega)]
        exact iteT k
      · rw [decide_eq_false h1]
        exact iteF ⟨_, rfl, iteT k⟩
end
end Lz
namespace Lz
open PySem PySem.Spec PyProof.Rows L2
abbrev s_need_place : Stmt := top 10
def spPlace (K : PySem.W.Frag) : Sp := fun vs H Q E => ∃ x m, vs = [.int m, x] ∧
  ((∃ i, x = .int i ∧ 0 ≤ i ∧ i < m ∧ Q .non H) ∨ (OutN K H 0 (m - 1) x ∧ E (.ref (cNoPlace K)) none H))
section
variable {P : Program} {w : World} {K : PySem.W.Frag} {mg : Str → Option Value} {base : Heap}
theorem sc_need_place : FnScope ["many", "place"] ["many", "place"] (defScope s_need_place) := ⟨rfl, rfl, rfl, by decide +kernel, rfl, by decide +kernel, by decide +kernel⟩
theorem ok_need_place {f : Addr} {fd : FuncData} (F : FnP K "need_place" "need_place" s_need_place [] f fd) (T : Txt K mg) (G_is_number : FnAt P w K mg base CX0 1 "is_number" ["thing"] [] (spIsNum K)) :
    FnOk P w K mg base (CXr P w) 2 f fd ["many", "place"] (spPlace K) := by
  have S := sc_need_place
  refine F.ok S (fun vs H Q E h => ?_) (fun cdv A outer s H vs Q E hr h => ?_)
  · obtain ⟨x, m, rfl, _⟩ := h
    rfl
  · obtain ⟨x, m, rfl, h⟩ := h
    refine ⟨_, (pss_one (ps_if (PW.pt (pw_or (pt_not (pt_val (pe_fn G_is_number (hr.mono (by decide)) pass0 (pa_cons (pv 1) pa_nil)))) (pw_or1 (pt_not (pt_chain op_le op_lt pe_int (pv 1) (pv 0)))))) (pss_one (ps_raise rfl (takes_of rfl rfl rfl rfl) (pmk_t T.x_NoPlace T.g_NoPlace))) pss_nil)), ?_⟩
    rcases h with ⟨i, rfl, h1, h2, k⟩ | ⟨⟨hn⟩ | ⟨i, rfl, hn⟩, k⟩
    · refine ⟨_, rfl, _, rfl, .inl ⟨i, rfl, _, rfl, iteF ?_⟩⟩
      refine ⟨_, rfl, _, _, rfl, rfl, _, rfl, ?_⟩
      rw [decide_eq_true h1]
      refine iteT ⟨_, rfl, _, _, rfl, rfl, _, rfl, ?_⟩
      rw [decide_eq_true h2]
      exact iteF k
    · exact ⟨_, rfl, _, rfl, .inr ⟨‹_›, _, rfl, iteT (iteT k)⟩⟩
    · refine ⟨_, rfl, _, rfl, .inl ⟨i, rfl, _, rfl, iteF ?_⟩⟩
      refine ⟨_, rfl, _, _, rfl, rfl, _, rfl, ?_⟩
      by_cases h1 : 0 ≤ i
      · rw [decide_eq_true h1]
        refine iteT ⟨_, rfl, _, _, rfl, rfl, _, rfl, ?_⟩
        rw [decide_eq_false (by omega)]
        exact iteT k
      · rw [decide_eq_false h1]
        exact iteF ⟨_, rfl, iteT k⟩
end
end Lz
namespace Lz
open PySem PySem.Spec PyProof.Rows L2
abbrev s_need_told : Stmt := top 14
/-- a ring's number of hands, its step, its beginning, looked at from the left -/
def Told (K : PySem.W.Frag) (H : Hp) (E : XK) (x y z : V) (k : Nat → Nat → Nat → Prop) : Prop :=
  (OutN K H 1 (10 ^ 60) x ∧ E (.ref (cNoMany K)) none H) ∨ ∃ n : Nat, x = .int n ∧ 1 ≤ n ∧ n ≤ 10 ^ 60 ∧
  ((OutN K H 1 100 y ∧ E (.ref (cNoStep K)) none H) ∨ ∃ s : Nat, y = .int s ∧ 1 ≤ s ∧ s ≤ 100 ∧
  ((OutN K H 0 ((n : Int) - 1) z ∧ E (.ref (cNoPlace K)) none H) ∨ ∃ b : Nat, z = .int b ∧ b < n ∧ k n s b))
def spTold (K : PySem.W.Frag) : Sp := fun vs H Q E => ∃ x y z, vs = [x, y, z] ∧ Told K H E x y z fun _ _ _ => Q .non H
section
variable {P : Program} {w : World} {K : PySem.W.Frag} {mg : Str → Option Value} {base : Heap}
theorem sc_need_told : FnScope ["many", "step", "begin"] ["many", "step", "begin"] (defScope s_need_told) := ⟨rfl, rfl, rfl, by decide +kernel, rfl, by decide +kernel, by decide +kernel⟩
theorem ok_need_told {f : Addr} {fd : FuncData} (F : FnP K "need_told" "need_told" s_need_told [] f fd) (T : Txt K mg) (G_need_many : FnAt P w K mg base (CXr P w) 2 "need_many" ["many", "most"] [] (spNeed K (cNoMany K) 1)) (G_need_step : FnAt P w K mg base (CXr P w) 2 "need_step" ["step", "most"] [] (spNeed K (cNoStep K) 1)) (G_need_place : FnAt P w K mg base (CXr P w) 2 "need_place" ["many", "place"] [] (spPlace K)) :
    FnOk P w K mg base (CXr P w) 3 f fd ["many", "step", "begin"] (spTold K) := by
  have S := sc_need_told
  refine F.ok S (fun vs H Q E h => ?_) (fun cdv A outer s H vs Q E hr h => ?_)
  · obtain ⟨x, y, z, rfl, _⟩ := h
    rfl
  · obtain ⟨x, y, z, rfl, h⟩ := h
    refine ⟨_, (pss_cons (ps_expr (pe_fn G_need_many (hr.mono (by decide)) (passes_call (takes_of rfl rfl rfl rfl) (fun _ _ _ _ h => h)) (pa_cons (pv 0) (pa_cons (pe_gint T.c_GREATEST) pa_nil)))) (pss_cons (ps_expr (pe_fn G_need_step (hr.mono (by decide)) (passes_call (takes_of rfl rfl rfl rfl) (fun _ _ _ _ h => h)) (pa_cons (pv 1) (pa_cons (pe_gint T.c_MOST_STEP) pa_nil)))) (pss_one (ps_expr (pe_fn G_need_place (hr.mono (by decide)) (passes_call (takes_of rfl rfl rfl rfl) (fun _ _ _ _ h => h)) (pa_cons (pv 0) (pa_cons (pv 2) pa_nil))))))), ?_⟩
    rcases h with ⟨o, k⟩ | ⟨n, rfl, n1, n2, h⟩
    · exact ⟨_, rfl, _, _, rfl, .inr ⟨o, k⟩⟩
    refine ⟨_, rfl, _, _, rfl, .inl ⟨n, rfl, by omega, by omega, ?_⟩⟩
    rcases h with ⟨o, k⟩ | ⟨s', rfl, s1, s2, h⟩
    · exact ⟨_, rfl, _, _, rfl, .inr ⟨o, k⟩⟩
    refine ⟨_, rfl, _, _, rfl, .inl ⟨s', rfl, by omega, by omega, ?_⟩⟩
    rcases h with ⟨o, k⟩ | ⟨b, rfl, b1, h⟩
    · exact ⟨_, rfl, _, rfl, _, _, rfl, .inr ⟨o, k⟩⟩
    exact ⟨_, rfl, _, rfl, _, _, rfl, .inl ⟨b, rfl, by omega, by omega, h⟩⟩
end
end Lz
namespace Lz
open PySem PySem.Spec PyProof.Rows L2
abbrev s_first_number : Stmt := top 13
def spFirst : Sp := fun vs H Q _ => ∃ n s c : Nat, vs = [.int n, .int s, .int c] ∧ 1 ≤ s ∧ s ≤ 100 ∧ 1 ≤ c ∧ c ≤ n ∧ Q (.int ((Jo.pos s n (c * s) + 1 : Nat) : Int)) H
section
variable {P : Program} {w : World} {K : PySem.W.Frag} {mg : Str → Option Value} {base : Heap}
theorem sc_first_number : FnScope ["many", "step", "count", "number", "passed"] ["many", "step", "count"] (defScope s_first_number) := ⟨rfl, rfl, rfl, by decide +kernel, rfl, by decide +kernel, by decide +kernel⟩
theorem ok_first_number {f : Addr} {fd : FuncData} (F : FnP K "first_number" "first_number" s_first_number [] f fd) (T : Txt K mg)  :
    FnOk P w K mg base CX0 1 f fd ["many", "step", "count"] spFirst := by
  have S := sc_first_number
  refine F.ok S (fun vs H Q E h => ?_) (fun cdv A outer s H vs Q E hr h => ?_)
  · obtain ⟨n, s, N, rfl, _⟩ := h
    rfl
  · obtain ⟨n, s, c, rfl, hs, hs2, hc, hc2, k⟩ := h
    refine ⟨_, PSs.nox (pss_cons (ps_set (i := 3) S.nd rfl (Or.inl rfl) (pe_op op_mul (pv 2) (pv 1))) (pss_cons (ps_while PassesOwn.never (pt_cmpR op_gt (pv 3) (pv 0) (nomark _)) (pss_cons (ps_set (i := 4) S.nd rfl (Or.inl rfl) (pe_op op_sub (pv 3) (pv 0))) (pss_one (ps_set (i := 3) S.nd rfl (Or.inl rfl) (pe_op op_add (pv 4) (pe_op op_fdiv (pe_op op_sub (pv 4) pe_int) (pe_op op_sub (pv 1) pe_int))))))) (pss_one (ps_ret (pv 3))))), ?_⟩
    refine ⟨_, rfl, _, rfl, _, _, rfl, rfl, .inr ⟨by omega, by omega⟩, ?_⟩
    have hcs : 1 ≤ c * s := Nat.mul_pos (by omega) (by omega)
    refine ⟨fun m σ H' => ∃ (M : Nat) (v : Option V), σ = [some (.int n), some (.int s), some (.int c), some (.int M), v] ∧ H' = H ∧ m = M ∧ 1 ≤ M ∧ M ≤ n * s ∧ Jo.pos s n M = Jo.pos s n (c * s),
      ⟨_, c * s, none, ?_, rfl, rfl, hcs, Nat.mul_le_mul_right s hc2, rfl⟩, ?_⟩
    · have e : (c : Int) * (s : Int) = ((c * s : Nat) : Int) := (Int.natCast_mul c s).symm
      show [some (V.int n), some (V.int s), some (V.int c), some (V.int ((c : Int) * (s : Int))), none] = _
      rw [e]
    rintro m σ H' ⟨M, v, rfl, rfl, em, h1, h2, h3⟩
    refine ⟨_, rfl, _, rfl, _, _, rfl, rfl, _, rfl, ite2 (fun z => ?_) (fun z => ?_)⟩
    · have z1 : (n : Int) < (M : Int) := of_decide_eq_true z
      have z2 : n < M := by omega
      have hs1 : 2 ≤ s := by
        by_cases e : s = 1
        · rw [e, Nat.mul_one] at h2
          omega
        · omega
      have a1 := Jo.pos_prev hs1 z2 h2
      have a2 := Jo.prev_lt hs1 z2 h2
      have a3 := Jo.prev_pos (s := s) z2
      refine ⟨_, fun _ _ h => h, ?_⟩
      refine ⟨_, rfl, _, rfl, _, _, rfl, rfl, ?_⟩
      refine ⟨_, rfl, _, rfl, _, _, rfl, rfl, _, rfl, _, _, rfl, rfl, _, _, rfl, rfl, ⟨by omega, by omega⟩, _, _, rfl, rfl, ?_⟩
      refine ⟨Jo.prev s n M, by omega, Jo.prev s n M, some (.int ((M : Int) - (n : Int))), ?_, rfl, rfl, a3, by omega, ?_⟩
      · have e : (M : Int) - (n : Int) + ((M : Int) - (n : Int) - 1) / ((s : Int) - 1) = ((Jo.prev s n M : Nat) : Int) := by
          have e1 : (M : Int) - (n : Int) - 1 = ((M - n - 1 : Nat) : Int) := by omega
          have e2 : (s : Int) - 1 = ((s - 1 : Nat) : Int) := by omega
          have e3 : ((M - n - 1 : Nat) : Int) / ((s - 1 : Nat) : Int) = (((M - n - 1) / (s - 1) : Nat) : Int) := rfl
          rw [e1, e2, e3]
          unfold Jo.prev
          generalize (M - n - 1) / (s - 1) = q
          omega
        show [some (V.int n), some (V.int s), some (V.int c), some (V.int ((M : Int) - (n : Int) + ((M : Int) - (n : Int) - 1) / ((s : Int) - 1))), _] = _
        rw [e]
      · rw [a1, h3]
    · have z1 : ¬ (n : Int) < (M : Int) := fun q => z (decide_eq_true q)
      refine ⟨_, rfl, ?_⟩
      have e := Jo.pos_first hs h1 (show M ≤ n by omega)
      have e2 : M = Jo.pos s n (c * s) + 1 := by
        rw [← h3, e]
        omega
      show Q (.int (M : Int)) H'
      rw [e2]
      exact k
end
end Lz
namespace Lz
open PySem PySem.Spec PyProof.Rows L2
abbrev s_last_of : Stmt := top 15
def spLastOf (K : PySem.W.Frag) : Sp := fun vs H Q E => ∃ x y z, vs = [x, y, z] ∧ Told K H E x y z fun n s b =>
  Q (.int (((b + Jo.pos s n (n * s)) % n : Nat) : Int)) H
section
variable {P : Program} {w : World} {K : PySem.W.Frag} {mg : Str → Option Value} {base : Heap}
theorem sc_last_of : FnScope ["many", "step", "begin"] ["many", "step", "begin"] (defScope s_last_of) := ⟨rfl, rfl, rfl, by decide +kernel, rfl, by decide +kernel, by decide +kernel⟩
theorem ok_last_of {f : Addr} {fd : FuncData} (F : FnP K "last_of" "last_of" s_last_of [V.int (0)] f fd) (T : Txt K mg) (G_need_told : FnAt P w K mg base (CXr P w) 3 "need_told" ["many", "step", "begin"] [] (spTold K)) (G_first_number : FnAt P w K mg base CX0 1 "first_number" ["many", "step", "count"] [] spFirst) :
    FnOk P w K mg base (CXr P w) 4 f fd ["many", "step", "begin"] (spLastOf K) := by
  have S := sc_last_of
  refine F.ok S (fun vs H Q E h => ?_) (fun cdv A outer s H vs Q E hr h => ?_)
  · obtain ⟨x, y, z, rfl, _⟩ := h
    rfl
  · obtain ⟨x, y, z, rfl, h⟩ := h
    refine ⟨_, (pss_cons (ps_expr (pe_fn G_need_told (hr.mono (by decide)) (passes_call (takes_of rfl rfl rfl rfl) (fun _ _ _ _ h => h)) (pa_cons (pv 0) (pa_cons (pv 1) (pa_cons (pv 2) pa_nil))))) (PSs.nox (pss_one (ps_ret (pe_op op_mod (pe_op op_sub (pe_op op_add (pv 2) (pe_fn G_first_number (hr.mono (by decide)) pass0 (pa_cons (pv 0) (pa_cons (pv 1) (pa_cons (pv 0) pa_nil))))) pe_int) (pv 0)))))), ?_⟩
    refine ⟨_, rfl, _, rfl, _, rfl, _, _, _, rfl, ?_⟩
    rcases h with h | ⟨n, rfl, n1, n2, h⟩
    · exact .inl h
    refine .inr ⟨n, rfl, n1, n2, ?_⟩
    rcases h with h | ⟨s', rfl, s1, s2, h⟩
    · exact .inl h
    refine .inr ⟨s', rfl, s1, s2, ?_⟩
    rcases h with h | ⟨b, rfl, b1, k⟩
    · exact .inl h
    refine .inr ⟨b, rfl, b1, ?_⟩
    refine ⟨_, rfl, _, rfl, _, rfl, _, rfl, n, s', n, rfl, s1, s2, n1, Nat.le_refl n, ?_⟩
    refine ⟨_, _, rfl, rfl, _, _, rfl, rfl, _, rfl, _, _, rfl, rfl, by show (0 : Int) < (n : Int); omega, ?_⟩
    generalize Jo.pos s' n (n * s') = q at k ⊢
    have e : ((b : Int) + ((q + 1 : Nat) : Int) - 1) % (n : Int) = (((b + q) % n : Nat) : Int) := by
      have e2 : (b : Int) + ((q + 1 : Nat) : Int) - 1 = ((b + q : Nat) : Int) := by omega
      rw [e2]
      rfl
    show Q (.int (((b : Int) + ((q + 1 : Nat) : Int) - 1) % (n : Int))) H
    rw [e]
    exact k
end
end Lz
namespace Lz
open PySem PySem.Spec PyProof.Rows L2
abbrev s_begin_for : Stmt := top 17
def spBeginFor (K : PySem.W.Frag) : Sp := fun vs H Q E => ∃ x y z, vs = [x, y, z] ∧ Told K H E x y (.int 0) fun n s _ =>
  (OutN K H 0 ((n : Int) - 1) z ∧ E (.ref (cNoPlace K)) none H) ∨ ∃ p : Nat, z = .int p ∧ p < n ∧ Q (.int (((p + n - Jo.pos s n (n * s)) % n : Nat) : Int)) H
section
variable {P : Program} {w : World} {K : PySem.W.Frag} {mg : Str → Option Value} {base : Heap}
theorem sc_begin_for : FnScope ["many", "step", "place", "found"] ["many", "step", "place"] (defScope s_begin_for) := ⟨rfl, rfl, rfl, by decide +kernel, rfl, by decide +kernel, by decide +kernel⟩
theorem ok_begin_for {f : Addr} {fd : FuncData} (F : FnP K "begin_for" "begin_for" s_begin_for [] f fd) (T : Txt K mg) (G_last_of_d : FnAt P w K mg base (CXr P w) 4 "last_of" ["many", "step", "begin"] [V.int (0)] (spLastOf K)) (G_need_place : FnAt P w K mg base (CXr P w) 2 "need_place" ["many", "place"] [] (spPlace K)) :
    FnOk P w K mg base (CXr P w) 5 f fd ["many", "step", "place"] (spBeginFor K) := by
  have S := sc_begin_for
  refine F.ok S (fun vs H Q E h => ?_) (fun cdv A outer s H vs Q E hr h => ?_)
  · obtain ⟨x, y, z, rfl, _⟩ := h
    rfl
  · obtain ⟨x, y, z, rfl, h⟩ := h
    refine ⟨_, (pss_cons (ps_set (i := 3) S.nd rfl (Or.inl rfl) (pe_fn G_last_of_d (hr.mono (by decide)) (passes_call (takes_of rfl rfl rfl rfl) (fun _ _ _ _ h => h)) (pa_cons (pv 0) (pa_cons (pv 1) pa_nil)))) (pss_cons (ps_expr (pe_fn G_need_place (hr.mono (by decide)) (passes_call (takes_of rfl rfl rfl rfl) (fun _ _ _ _ h => h)) (pa_cons (pv 0) (pa_cons (pv 2) pa_nil)))) (PSs.nox (pss_one (ps_ret (pe_op op_mod (pe_op op_sub (pv 2) (pv 3)) (pv 0))))))), ?_⟩
    refine ⟨_, rfl, _, rfl, _, _, _, rfl, ?_⟩
    rcases h with h | ⟨n, rfl, n1, n2, h⟩
    · exact .inl h
    refine .inr ⟨n, rfl, n1, n2, ?_⟩
    rcases h with h | ⟨s', rfl, s1, s2, h⟩
    · exact .inl h
    refine .inr ⟨s', rfl, s1, s2, ?_⟩
    rcases h with h | ⟨b, eb, b1, h⟩
    · exact .inl h
    refine .inr ⟨b, eb, b1, ?_⟩
    have e0 : b = 0 := by
      have := V.int.inj eb
      omega
    subst e0
    have hL := Jo.pos_lt s' n (n * s') (by omega)
    have eL : (0 + Jo.pos s' n (n * s')) % n = Jo.pos s' n (n * s') := by rw [Nat.zero_add, Nat.mod_eq_of_lt hL]
    dsimp only
    rw [eL]
    rcases h with ⟨o, k⟩ | ⟨p, rfl, p1, k⟩
    · exact ⟨_, rfl, _, rfl, _, _, rfl, .inr ⟨o, k⟩⟩
    refine ⟨_, rfl, _, rfl, _, _, rfl, .inl ⟨p, rfl, by omega, by omega, ?_⟩⟩
    refine ⟨_, rfl, _, rfl, _, _, rfl, rfl, _, rfl, _, _, rfl, rfl, by show (0 : Int) < (n : Int); omega, ?_⟩
    show Q (.int (((p : Int) - ((Jo.pos s' n (n * s') : Nat) : Int)) % (n : Int))) H
    rw [sub_mod hL p1]
    exact k
end
end Lz
namespace Lz
open PySem PySem.Spec PyProof.Rows L2
abbrev s__law_out : Stmt := top 25
def spOut (K : PySem.W.Frag) : Sp := fun vs H Q _ => ∃ (p : Addr) (s : Int) (xs : List V), vs = [.ref p, .int s] ∧ SqL K H p xs ∧ 1 ≤ s ∧
  xs.all isS = true ∧ xs.length ≤ 1000 ∧
  ∀ (q : Addr) (H' : Hp), Kp [] H H' → H q = none → H' q = some (.lst (Jo.out (s.toNat - 1) xs)) → Q (.ref q) H'
/-- behind some rounds: who went stands at f, who is left at l -/
structure OutW (s : Int) (p f l : Addr) (xs : List V) (H : Hp) (m : Nat) (σ : L2.St) (H' : Hp) (v : Option V) (a r : List V) : Prop where
  sl : σ = [some (.ref p), some (.int s), some (.ref f), some (.ref l), v]
  kp : Kp [] H H'
  hf : H' f = some (.lst a)
  hl : H' l = some (.lst r)
  e : a ++ Jo.out (s.toNat - 1) r = Jo.out (s.toNat - 1) xs
  m : m = r.length
  fl : r.all isS = true
theorem outW_len {s : Int} {p f l : Addr} {xs : List V} {H H' : Hp} {m : Nat} {σ : L2.St} {v : Option V} {a r : List V} (h : OutW s p f l xs H m σ H' v a r) : a.length + r.length = xs.length := by
  have e := congrArg List.length h.e
  rw [List.length_append, Jo.out_length, Jo.out_length] at e
  exact e
section
variable {P : Program} {w : World} {K : PySem.W.Frag} {mg : Str → Option Value} {base : Heap}
theorem sc__law_out : FnScope ["_law_row", "_law_step_here", "_law_found", "_law_left", "_law_told"] ["_law_row", "_law_step_here"] (defScope s__law_out) := ⟨rfl, rfl, rfl, by decide +kernel, rfl, by decide +kernel, by decide +kernel⟩
theorem ok__law_out {f : Addr} {fd : FuncData} (F : FnP K "_law_out" "_law_out" s__law_out [] f fd) (T : Txt K mg)  :
    FnOk P w K mg base CX0 1 f fd ["_law_row", "_law_step_here"] (spOut K) := by
  have S := sc__law_out
  refine F.ok S (fun vs H Q E h => ?_) (fun cdv A outer s H vs Q E hr h => ?_)
  · obtain ⟨p, s, xs, rfl, _⟩ := h
    rfl
  · obtain ⟨p, s, xs, rfl, hS, hs, hfl, hlen, k⟩ := h
    refine ⟨_, PSs.nox (pss_cons (ps_set (i := 2) S.nd rfl (Or.inl rfl) (pe_lst pa_nil)) (pss_cons (ps_set (i := 3) S.nd rfl (Or.inl rfl) (pe_callTy call_list_of (by rfl) T.b_list (by decide +kernel) (pa_cons (pv 0) pa_nil))) (pss_cons (ps_while PassesOwn.never (pt_cmpR (op_neD hr.units) (pv 3) (pe_lst pa_nil) (nomark _)) (pss_cons (ps_set (i := 4) S.nd rfl (Or.inl rfl) (pv 1)) (C8.pss_cut (ps_if (pt_cmpR op_gt (pv 1) (pe_op op_mul pe_int (pe_callB call_len_seq (by rfl) T.b_len PySem.boot_len (pa_cons (pv 3) pa_nil))) (nomark _)) (pss_one (ps_set (i := 4) S.nd rfl (Or.inl rfl) (pe_op op_add (pe_op op_mod (pv 1) (pe_callB call_len_seq (by rfl) T.b_len PySem.boot_len (pa_cons (pv 3) pa_nil))) (pe_op op_mul pe_int (pe_callB call_len_seq (by rfl) T.b_len PySem.boot_len (pa_cons (pv 3) pa_nil)))))) pss_nil) (pss_cons (ps_while PassesOwn.never (pt_cmpR op_gt (pv 4) pe_int (nomark _)) (pss_cons (ps_expr (pe_bm PySem.F.plainAttrs_list PySem.F.slot_list_append PySem.F.type_list_append mt_append (pv 3) (pa_cons (pe_bm PySem.F.plainAttrs_list PySem.F.slot_list_pop PySem.F.type_list_pop mt_popAt (pv 3) (pa_cons pe_int pa_nil)) pa_nil))) (pss_one (ps_set (i := 4) S.nd rfl (Or.inl rfl) (pe_op op_sub (pv 4) pe_int))))) (pss_one (ps_expr (pe_bm PySem.F.plainAttrs_list PySem.F.slot_list_append PySem.F.type_list_append mt_append (pv 2) (pa_cons (pe_bm PySem.F.plainAttrs_list PySem.F.slot_list_pop PySem.F.type_list_pop mt_popAt (pv 3) (pa_cons pe_int pa_nil)) pa_nil)))))))) (pss_one (ps_ret (pv 2)))))), ?_⟩
    refine ⟨Nat.zero_le _, fun f hf => ?_⟩
    refine ⟨_, rfl, p, xs, rfl, .inl ((Kp.new (ws := []) hf).lst hS (by simp)), fun l hl => ?_⟩
    have nfl : f ≠ l := ne_of_none upd_same hl
    have hl0 : H l = none := (Kp.new (ws := []) (o := .lst []) hf).free hl (by simp)
    refine ⟨fun m σ H' => ∃ v a r, OutW s p f l xs H m σ H' v a r, ⟨_, none, [], xs, rfl, (Kp.new hf).trans (Kp.new hl), ?_, upd_same, rfl, rfl, hfl⟩, ?_⟩
    · rw [upd_ne nfl]
      exact upd_same
    rintro m σ H1 ⟨v, a, r, W⟩
    have wl := outW_len W
    obtain ⟨rfl, kp, h1, h2, e, rfl, fl⟩ := W
    refine ⟨_, rfl, Nat.zero_le _, fun z hz => ?_⟩
    have kz := kp.trans (Kp.new (o := .lst []) hz)
    have h1z : upd H1 z (.lst []) f = some (.lst a) := by rw [upd_ne (ne_of_none h1 hz)]; exact h1
    have h2z : upd H1 z (.lst []) l = some (.lst r) := by rw [upd_ne (ne_of_none h2 hz)]; exact h2
    refine neD_l (SqL.of h2z) (SqL.of upd_same) fl rfl ⟨_, rfl, ?_⟩
    generalize upd H1 z (.lst []) = H2 at kz h1z h2z ⊢
    by_cases hr0 : r = []
    · rw [decide_eq_true hr0]
      refine iteF ⟨_, rfl, ?_⟩
      refine k f H2 kz hf ?_
      rw [h1z, ← e, hr0, Jo.out_nil, List.append_nil]
    rw [decide_eq_false hr0]
    have hrl : 0 < r.length := List.length_pos_iff.mpr hr0
    refine iteT ⟨_, fun _ _ h => h, ?_⟩
    refine ⟨_, rfl, ?_⟩
    refine ⟨fun σ' H' => ∃ told : Int, σ' = [some (.ref p), some (.int s), some (.ref f), some (.ref l), some (.int told)] ∧ H' = H2 ∧ 1 ≤ told ∧
      (told.toNat - 1) % r.length = (s.toNat - 1) % r.length, ?_, ?_⟩
    · refine ⟨_, rfl, _, rfl, l, _, rfl, .inl (SqL.of h2z), _, _, rfl, rfl, .inl ⟨by decide, by decide⟩, _, _, rfl, rfl, _, rfl, ite2 (fun c => ?_) (fun c => ?_)⟩
      · refine ⟨_, rfl, _, rfl, l, _, rfl, .inl (SqL.of h2z), _, _, rfl, rfl, by show (0 : Int) < (r.length : Int); omega,
          _, rfl, l, _, rfl, .inl (SqL.of h2z), _, _, rfl, rfl, .inl ⟨by decide, by decide⟩, _, _, rfl, rfl, ?_⟩
        refine ⟨_, rfl, rfl, ?_, ?_⟩
        · have m0 := Int.emod_nonneg s (show (r.length : Int) ≠ 0 by omega)
          show 1 ≤ s % (r.length : Int) + 2 * (r.length : Int)
          omega
        · have e1 : (s % (r.length : Int) + 2 * (r.length : Int)).toNat = s.toNat % r.length + 2 * r.length := by
            rw [emod_nat r.length (by omega)]
            omega
          show ((s % (r.length : Int) + 2 * (r.length : Int)).toNat - 1) % r.length = _
          rw [e1, Jo.told_mod (by omega) hrl]
      · exact ⟨s, rfl, rfl, hs, rfl⟩
    rintro σ' H' ⟨told, rfl, rfl, ht1, ht2⟩
    refine ⟨fun m σ' H' => ∃ (told : Int) (c : List V), σ' = [some (.ref p), some (.int s), some (.ref f), some (.ref l), some (.int told)] ∧ m = told.toNat ∧ 1 ≤ told ∧
      c.length = r.length ∧ Jo.rotL c ((told.toNat - 1) % r.length) = Jo.rotL r ((s.toNat - 1) % r.length) ∧ Kp [] H H' ∧ H' f = some (.lst a) ∧ H' l = some (.lst c),
      ⟨_, told, r, rfl, rfl, ht1, rfl, by rw [ht2], kz, h1z, h2z⟩, ?_⟩
    rintro m σ' H3 ⟨told, c, rfl, rfl, ht1, hcl, hrot, k3, g1, g2⟩
    refine ⟨_, rfl, _, _, rfl, rfl, _, rfl, ite2 (fun ht => ?_) (fun ht => ?_)⟩
    · -- a hand more
      have ht : 1 < told := of_decide_eq_true ht
      obtain ⟨x, c', rfl⟩ : ∃ x c', c = x :: c' := by
        cases c with
        | nil =>
          rw [← hcl] at hrl
          exact absurd hrl (Nat.lt_irrefl 0)
        | cons x c' => exact ⟨x, c', rfl⟩
      have n1 : c'.length + 1 = r.length := hcl
      have n2 : ((x :: c').eraseIdx 0).length < sizeLine := szl c'.length (by omega)
      refine ⟨_, fun _ _ h => h, ?_⟩
      refine ⟨_, rfl, .inl ⟨rfl, _, SqL.of g2⟩, _, rfl, .inl ⟨rfl, _, SqL.of g2⟩, l, _, 0, 0, x, rfl, rfl, g2, by decide, by decide, seq0 x c', rfl, l, _, x, rfl, rfl, upd_same, n2, ?_⟩
      refine ⟨_, rfl, _, _, rfl, rfl, ?_⟩
      refine ⟨_, ?_, told - 1, c' ++ [x], rfl, rfl, by omega, ?_, ?_, ?_, ?_, ?_⟩
      · omega
      · rw [List.length_append]
        exact hcl
      · rw [← hrot, ← hcl]
        have e1 := Jo.rotL_more x c' ((told - 1).toNat - 1)
        have e2 : (told - 1).toNat - 1 + 1 = told.toNat - 1 := by omega
        rw [e2] at e1
        exact e1
      · exact (k3.late hl0).late hl0
      · rw [upd_ne nfl, upd_ne nfl]
        exact g1
      · exact upd_same
    · -- it is the told one
      have ht : ¬ 1 < told := of_decide_eq_false (by simpa using ht)
      have et : told = 1 := by omega
      subst et
      have e0 : ((1 : Int).toNat - 1) % r.length = 0 := Nat.zero_mod _
      rw [e0, Jo.rotL_zero] at hrot
      obtain ⟨x, c', rfl⟩ : ∃ x c', c = x :: c' := by
        cases c with
        | nil =>
          rw [← hcl] at hrl
          exact absurd hrl (Nat.lt_irrefl 0)
        | cons x c' => exact ⟨x, c', rfl⟩
      have n1 : c'.length + 1 = r.length := hcl
      refine ⟨_, rfl, .inl ⟨rfl, _, SqL.of g1⟩, _, rfl, .inl ⟨rfl, _, SqL.of g2⟩, l, _, 0, 0, x, rfl, rfl, g2, by decide, by decide, seq0 x c', rfl, f, a, x, rfl, rfl,
        by rw [upd_ne nfl]; exact g1, szl _ (by omega), ?_⟩
      have e3 := Jo.out_step (t := s.toNat - 1) hrot.symm
      refine ⟨c'.length, by omega, _, a ++ [x], c', rfl, (k3.late hl0).late hf, upd_same, ?_, ?_, rfl, ?_⟩
      · rw [upd_ne nfl.symm]
        exact upd_same
      · rw [List.append_assoc, ← e, e3]
        rfl
      · have q : (x :: c').all isS = true := by
          rw [List.all_eq_true] at fl ⊢
          intro y hy
          rw [hrot] at hy
          exact fl y ((Jo.rotL_perm r _).mem_iff.mp hy)
        rw [List.all_cons, Bool.and_eq_true] at q
        exact q.2
end
end Lz
namespace Lz
open PySem PySem.Spec PyProof.Rows L2
abbrev s__law_turned : Stmt := top 24
def spTurned (K : PySem.W.Frag) : Sp := fun vs H Q _ => ∃ (p : Addr) (m : Int) (xs : List V), vs = [.ref p, .int m] ∧ SqL K H p xs ∧ xs ≠ [] ∧ xs.length ≤ 1000 ∧
  ∀ (q : Addr) (H' : Hp), Kp [] H H' → H q = none → H' q = some (.lst (Jo.rotL xs (m % (xs.length : Int)).toNat)) → Q (.ref q) H'
section
variable {P : Program} {w : World} {K : PySem.W.Frag} {mg : Str → Option Value} {base : Heap}
theorem sc__law_turned : FnScope ["_law_row", "_law_many"] ["_law_row", "_law_many"] (defScope s__law_turned) := ⟨rfl, rfl, rfl, by decide +kernel, rfl, by decide +kernel, by decide +kernel⟩
theorem ok__law_turned {f : Addr} {fd : FuncData} (F : FnP K "_law_turned" "_law_turned" s__law_turned [] f fd) (T : Txt K mg)  :
    FnOk P w K mg base CX0 1 f fd ["_law_row", "_law_many"] (spTurned K) := by
  have S := sc__law_turned
  refine F.ok S (fun vs H Q E h => ?_) (fun cdv A outer s H vs Q E hr h => ?_)
  · obtain ⟨p, m, xs, rfl, _⟩ := h
    rfl
  · obtain ⟨p, m, xs, rfl, hS, hne, hlen, k⟩ := h
    have hl : 0 < xs.length := List.length_pos_iff.mpr hne
    refine ⟨_, PSs.nox (pss_cons (ps_set (i := 1) S.nd rfl (Or.inl rfl) (pe_op op_mod (pv 1) (pe_callB call_len_seq (by rfl) T.b_len PySem.boot_len (pa_cons (pv 0) pa_nil)))) (pss_one (ps_ret (pe_op op_cat (pe_slice sl_list (pv 0) (po_some (pv 1)) po_none) (pe_slice sl_list (pv 0) po_none (po_some (pv 1))))))), ?_⟩
    refine ⟨_, rfl, _, rfl, p, xs, rfl, .inl hS, _, _, rfl, rfl, by omega, ?_⟩
    have m0 := Int.emod_nonneg m (show (xs.length : Int) ≠ 0 by omega)
    have m1 := Int.emod_lt_of_pos m (show 0 < (xs.length : Int) by omega)
    have e : m % (xs.length : Int) = (((m % (xs.length : Int)).toNat : Nat) : Int) := by omega
    refine ⟨_, rfl, _, rfl, ((m % (xs.length : Int)).toNat : Int), congrArg V.int e, p, xs, rfl, hS, fun a ha => ?_⟩
    refine ⟨_, rfl, _, rfl, ((m % (xs.length : Int)).toNat : Int), congrArg V.int e, p, xs, rfl, (Kp.new (ws := []) ha).lst hS (by simp), fun b hb => ?_⟩
    generalize (m % (xs.length : Int)).toNat = j at k ha hb ⊢
    have hab : a ≠ b := ne_of_none upd_same hb
    refine ⟨a, b, _, _, rfl, rfl, by rw [upd_ne hab]; exact upd_same, upd_same, ?_, fun c hc => ?_⟩
    · rw [cut_from, cut_to, List.length_drop, List.length_take]
      exact sz _ (by omega)
    · have hc1 := (Kp.new (ws := []) (o := .lst (cutV xs none (some (j : Int)))) hb).free hc (by simp)
      have hc0 := (Kp.new (ws := []) (o := .lst (cutV xs (some (j : Int)) none)) ha).free hc1 (by simp)
      refine k c _ (((Kp.new ha).trans (Kp.new hb)).trans (Kp.new hc)) hc0 ?_
      rw [upd_same, cut_from, cut_to]
      rfl
end
end Lz
namespace Lz
open PySem PySem.Spec PyProof.Rows L2
abbrev s__law_whole : Stmt := top 27
section
variable {P : Program} {w : World} {K : PySem.W.Frag} {mg : Str → Option Value} {base : Heap}
theorem sc__law_whole : FnScope ["_law_found"] ["_law_found"] (defScope s__law_whole) := ⟨rfl, rfl, rfl, by decide +kernel, rfl, by decide +kernel, by decide +kernel⟩
theorem ok__law_whole {f : Addr} {fd : FuncData} (F : FnP K "_law_whole" "_law_whole" s__law_whole [] f fd) (T : Txt K mg)  :
    FnOk P w K mg base CX0 1 f fd ["_law_found"] (spIsNum K) := by
  have S := sc__law_whole
  refine F.ok S (fun vs H Q E h => ?_) (fun cdv A outer s H vs Q E hr h => ?_)
  · obtain ⟨x, rfl, _⟩ := h
    rfl
  · obtain ⟨x, rfl, h⟩ := h
    refine ⟨_, PSs.nox (pss_one (ps_ret (pe_and (pe_callB call_isi (by rfl) T.b_isinstance (by decide +kernel) (pa_cons (pv 0) (pa_cons (pe_bltn (v := .ty "int") (by rfl) T.b_int (by decide +kernel) rfl) pa_nil))) (pe_one (pe_not (pe_callB call_isi (by rfl) T.b_isinstance (by decide +kernel) (pa_cons (pv 0) (pa_cons (pe_bltn (v := .ty "bool") (by rfl) T.b_bool (by decide +kernel) rfl) pa_nil)))))))), ?_⟩
    rcases h with ⟨i, rfl, k⟩ | ⟨⟨t, ht, hm⟩, k⟩
    · refine ⟨_, rfl, _, _, _, _, true, rfl, .ty _, .base (.int i), kit_ty (by decide +kernel), _, rfl, ?_⟩
      exact iteT ⟨_, rfl, _, _, _, _, false, rfl, .ty _, .base (.int i), kit_ty (by decide +kernel), _, rfl, k⟩
    · simp only [List.mem_cons, List.not_mem_nil, or_false] at hm
      rcases hm with rfl | rfl | rfl | rfl | rfl | rfl
      · exact ⟨_, rfl, _, _, _, _, false, rfl, .ty _, ht, kit_ty (by decide +kernel), _, rfl, iteF k⟩
      · refine ⟨_, rfl, _, _, _, _, true, rfl, .ty _, ht, kit_ty (by decide +kernel), _, rfl, iteT ?_⟩
        exact ⟨_, rfl, _, _, _, _, true, rfl, .ty _, ht, kit_ty (by decide +kernel), _, rfl, k⟩
      · exact ⟨_, rfl, _, _, _, _, false, rfl, .ty _, ht, kit_ty (by decide +kernel), _, rfl, iteF k⟩
      · exact ⟨_, rfl, _, _, _, _, false, rfl, .ty _, ht, kit_ty (by decide +kernel), _, rfl, iteF k⟩
      · exact ⟨_, rfl, _, _, _, _, false, rfl, .ty _, ht, kit_ty (by decide +kernel), _, rfl, iteF k⟩
      · exact ⟨_, rfl, _, _, _, _, false, rfl, .ty _, ht, kit_ty (by decide +kernel), _, rfl, iteF k⟩
end
end Lz
namespace Lz
open PySem PySem.Spec PyProof.Rows L2
abbrev s__law_far : Stmt := top 23
def spFar : Sp := fun vs H Q _ => ∃ (st : Addr) (m : Int), vs = [.ref st, .int m] ∧ StAt H st ∧ 0 < m ∧
  ∀ (H' : Hp) (r : Int), Drew st H H' → 0 ≤ r → r < m → Q (.int r) H'
section
variable {P : Program} {w : World} {K : PySem.W.Frag} {mg : Str → Option Value} {base : Heap}
theorem sc__law_far : FnScope ["_law_state_here", "_law_many", "_law_found", "_law_k"] ["_law_state_here", "_law_many"] (defScope s__law_far) := ⟨rfl, rfl, rfl, by decide +kernel, rfl, by decide +kernel, by decide +kernel⟩
theorem ok__law_far {f : Addr} {fd : FuncData} (F : FnP K "_law_far" "_law_far" s__law_far [] f fd) (T : Txt K mg) (G__law_next : FnAt P w K mg base CX0 1 "_law_next" ["_law_state_here"] [] spNext) :
    FnOk P w K mg base CX0 2 f fd ["_law_state_here", "_law_many"] spFar := by
  have S := sc__law_far
  refine F.ok S (fun vs H Q E h => ?_) (fun cdv A outer s H vs Q E hr h => ?_)
  · obtain ⟨st, m, rfl, _⟩ := h
    rfl
  · obtain ⟨st, m, rfl, hst, hm, k⟩ := h
    refine ⟨_, PSs.nox (pss_cons (ps_set (i := 2) S.nd rfl (Or.inl rfl) pe_int) (pss_cons (ps_for PassesOwn.never rfl (pi_range1 (by rfl) T.b_range (pa_cons pe_int pa_nil)) (pg_name (i := 3) S.nd rfl (Or.inl rfl)) (pss_one (ps_set (i := 2) S.nd rfl (Or.inl rfl) (pe_op op_add (pe_op op_mul (pv 2) (pe_op op_pow pe_int pe_int)) (pe_op op_mod (pe_fn G__law_next (hr.mono (by decide)) pass0 (pa_cons (pv 0) pa_nil)) (pe_op op_pow pe_int pe_int)))))) (pss_one (ps_ret (pe_op op_mod (pv 2) (pv 1)))))), ?_⟩
    refine ⟨7, rfl, by decide, by decide, for_range (lo := 0) (n := 7) (fun i σ H' => ∃ (v : Option V) (z : Int), σ = [some (.ref st), some (.int m), some (.int z), v] ∧ 0 ≤ z ∧ Drew st H H')
      ⟨none, 0, rfl, Int.le_refl 0, Drew.refl hst⟩ ?_ ?_⟩
    · rintro i σ H1 _ ⟨v, z, rfl, hz, d⟩
      have e9 : (10 : Int) ^ (9 : Int).toNat = 1000000000 := by decide
      refine ⟨_, rfl, _, _, rfl, rfl, ⟨by decide, by decide, by decide⟩, _, _, rfl, rfl, .inr ⟨by decide, by decide⟩, _, rfl, st, rfl, d.2, fun H2 r d2 r0 r1 => ?_⟩
      refine ⟨_, _, rfl, rfl, ⟨by decide, by decide, by decide⟩, _, _, rfl, rfl, by show (0 : Int) < 10 ^ (9 : Int).toNat; decide, _, _, rfl, rfl, ?_⟩
      refine ⟨_, _, rfl, ?_, d.trans d2⟩
      show 0 ≤ z * 10 ^ (9 : Int).toNat + r % 10 ^ (9 : Int).toNat
      rw [e9]
      omega
    · rintro σ H1 ⟨v, z, rfl, hz, d⟩
      refine ⟨_, rfl, _, rfl, _, _, rfl, rfl, hm, ?_⟩
      exact k _ _ d (Int.emod_nonneg z (by omega)) (Int.emod_lt_of_pos z hm)
end
end Lz
namespace Lz
open PySem PySem.Spec PyProof.Rows L2
abbrev s_law : Stmt := top 28
def spLaw (K : PySem.W.Frag) : Sp := fun vs H Q _ => ∃ (a : Addr) (ns : List Int), vs = [.ref a] ∧ SqL K H a (ns.map V.int) ∧ ns.length ≤ 63 ∧ ∀ H', Q (.bl true) H'
section
variable {P : Program} {w : World} {K : PySem.W.Frag} {mg : Str → Option Value} {base : Heap}
theorem sc_law : FnScope ["_law_script", "_law_state_here", "_law_many", "_law_step_here", "_law_place", "_law_found", "_law_lasts", "_law_begin"] ["_law_script"] (defScope s_law) := ⟨rfl, rfl, rfl, by decide +kernel, rfl, by decide +kernel, by decide +kernel⟩
theorem ok_law {f : Addr} {fd : FuncData} (F : FnP K "law" "law" s_law [] f fd) (T : Txt K mg) (G__law_state : FnAt P w K mg base CX0 2 "_law_state" ["_law_script", "_law_first"] [] (spState K)) (G__law_of : FnAt P w K mg base CX0 2 "_law_of" ["_law_state_here", "_law_some"] [] (spOf K)) (G__law_next : FnAt P w K mg base CX0 1 "_law_next" ["_law_state_here"] [] spNext) (G__law_step : FnAt P w K mg base CX0 3 "_law_step" ["_law_state_here", "_law_most"] [] (spStep K)) (G_begin_for : FnAt P w K mg base (CXr P w) 5 "begin_for" ["many", "step", "place"] [] (spBeginFor K)) (G__law_out : FnAt P w K mg base CX0 1 "_law_out" ["_law_row", "_law_step_here"] [] (spOut K)) (G__law_turned : FnAt P w K mg base CX0 1 "_law_turned" ["_law_row", "_law_many"] [] (spTurned K)) (G__law_whole : FnAt P w K mg base CX0 1 "_law_whole" ["_law_found"] [] (spIsNum K)) (G__law_far : FnAt P w K mg base CX0 2 "_law_far" ["_law_state_here", "_law_many"] [] spFar) (G_last_of : FnAt P w K mg base (CXr P w) 4 "last_of" ["many", "step", "begin"] [] (spLastOf K)) :
    FnOk P w K mg base CX0 6 f fd ["_law_script"] (spLaw K) := by
  have S := sc_law
  refine F.ok S (fun vs H Q E h => ?_) (fun cdv A outer s H vs Q E hr h => ?_)
  · obtain ⟨a, ns, rfl, _⟩ := h
    rfl
  · obtain ⟨a, ns, rfl, hS, hlen, hQ⟩ := h
    refine ⟨_, PSs.nox (pss_cons (ps_set (i := 1) S.nd rfl (Or.inl rfl) (pe_fn G__law_state (hr.mono (by decide)) pass0 (pa_cons (pv 0) (pa_cons pe_int pa_nil)))) (pss_cons (ps_set (i := 2) S.nd rfl (Or.inr rfl) (pe_fn G__law_of (hr.mono (by decide)) pass0 (pa_cons (pv 1) (pa_cons (pe_lst (pa_cons pe_int (pa_cons pe_int (pa_cons (pe_op op_add pe_int (pe_op op_mod (pe_fn G__law_next (hr.mono (by decide)) pass0 (pa_cons (pv 1) pa_nil)) pe_int)) pa_nil)))) pa_nil)))) (pss_cons (ps_set (i := 3) S.nd rfl (Or.inr rfl) (pe_fn G__law_step (hr.mono (by decide)) pass0 (pa_cons (pv 1) (pa_cons pe_int pa_nil)))) (pss_cons (ps_set (i := 4) S.nd rfl (Or.inr rfl) (pe_op op_mod (pe_fn G__law_next (hr.mono (by decide)) pass0 (pa_cons (pv 1) pa_nil)) (pv 2))) (pss_cons (ps_set (i := 5) S.nd rfl (Or.inl rfl) (pe_fn G_begin_for (hr.mono (by decide)) passL (pa_cons (pv 2) (pa_cons (pv 3) (pa_cons (pv 4) pa_nil))))) (pss_cons (ps_set (i := 6) S.nd rfl (Or.inr rfl) (pe_lc (own := [("_law_begin", 7)]) (g := gName 7) (by rfl) S.nd (pi_range1 (by rfl) T.b_range (pa_cons (pv 2) pa_nil)) (blkOk_by (own := [("_law_begin", 7)]) (N := ["_law_script", "_law_state_here", "_law_many", "_law_step_here", "_law_place", "_law_found", "_law_lasts", "_law_begin"]) (sc := defScope s_law) (by decide +kernel)) (fun _ _ _ _ _ => pg_name (i := 7) S.nd rfl (Or.inl rfl)) (fun _ _ _ _ _ => pts_nil) (fun _ _ _ _ _ => (pe_ix (ix_lK (K := K)) (pe_fn G__law_out (hr.mono (by decide)) pass0 (pa_cons (pe_fn G__law_turned (hr.mono (by decide)) pass0 (pa_cons (pe_listRg rfl (by rfl) T.b_list (prg_1 (by rfl) T.b_range (pv 2))) (pa_cons (pv 7) pa_nil))) (pa_cons (pv 3) pa_nil))) (pe_un un_neg pe_int) (fun _ _ => rfl))))) (pss_cons (ps_if (PW.pt (pw_or (pt_not (pt_val (pe_fn G__law_whole (hr.mono (by decide)) pass0 (pa_cons (pv 5) pa_nil)))) (pw_or1 (pt_cmpR (op_neD hr.units) (pe_lc (tt := tTest (tOp rEq (tOp (rIxL K) (tVar 6) (tVar 7)) (tVar 4))) (own := [("_law_begin", 7)]) (g := gName 7) (by rfl) S.nd (pi_range1 (by rfl) T.b_range (pa_cons (pv 2) pa_nil)) (blkOk_by (own := [("_law_begin", 7)]) (N := ["_law_script", "_law_state_here", "_law_many", "_law_step_here", "_law_place", "_law_found", "_law_lasts", "_law_begin"]) (sc := defScope s_law) (by decide +kernel)) (fun _ _ _ _ _ => pg_name (i := 7) S.nd rfl (Or.inl rfl)) (fun _ _ _ _ _ => (pts_one (pt_cmpR op_eq (pe_ix (ix_lK (K := K)) (pv 6) (pv 7) (fun _ _ => rfl)) (pv 4) (nomark _)))) (fun _ _ _ _ _ => (pv 7))) (pe_lst (pa_cons (pv 5) pa_nil)) (nomark _))))) (pss_one (ps_ret pe_bl)) pss_nil) (pss_cons (ps_set (i := 2) S.nd rfl (Or.inr rfl) (pe_fn G__law_of (hr.mono (by decide)) pass0 (pa_cons (pv 1) (pa_cons (pe_lst (pa_cons (pe_op op_pow pe_int pe_int) (pa_cons (pe_op op_add pe_int (pe_fn G__law_far (hr.mono (by decide)) pass0 (pa_cons (pv 1) (pa_cons (pe_op op_pow pe_int pe_int) pa_nil)))) (pa_cons pe_int pa_nil)))) pa_nil)))) (pss_cons (ps_set (i := 3) S.nd rfl (Or.inr rfl) (pe_op op_add pe_int (pe_op op_mod (pe_fn G__law_next (hr.mono (by decide)) pass0 (pa_cons (pv 1) pa_nil)) pe_int))) (pss_cons (ps_set (i := 4) S.nd rfl (Or.inr rfl) (pe_fn G__law_of (hr.mono (by decide)) pass0 (pa_cons (pv 1) (pa_cons (pe_lst (pa_cons pe_int (pa_cons (pe_op op_sub (pv 2) pe_int) (pa_cons (pe_fn G__law_far (hr.mono (by decide)) pass0 (pa_cons (pv 1) (pa_cons (pv 2) pa_nil))) pa_nil)))) pa_nil)))) (pss_cons (ps_set (i := 5) S.nd rfl (Or.inl rfl) (pe_fn G_begin_for (hr.mono (by decide)) passL (pa_cons (pv 2) (pa_cons (pv 3) (pa_cons (pv 4) pa_nil))))) (pss_cons (ps_if (PW.pt (pw_or (pt_not (pt_val (pe_fn G__law_whole (hr.mono (by decide)) pass0 (pa_cons (pv 5) pa_nil)))) (pw_or (pt_not (pt_chain op_le op_lt pe_int (pv 5) (pv 2))) (pw_or1 (pt_cmpR op_ne (pe_fn G_last_of (hr.mono (by decide)) passL (pa_cons (pv 2) (pa_cons (pv 3) (pa_cons (pv 5) pa_nil)))) (pv 4) (nomark _)))))) (pss_one (ps_ret pe_bl)) pss_nil) (pss_one (ps_ret (pe_or (pe_cmpR op_eq (pv 2) pe_int (nomark _)) (pe_one (pe_cmpR op_ne (pe_fn G_last_of (hr.mono (by decide)) passL (pa_cons (pv 2) (pa_cons (pv 3) (pa_cons (pe_op op_mod (pe_op op_add (pv 5) pe_int) (pv 2)) pa_nil)))) (pv 4) (nomark _)))))))))))))))))), ?_⟩
    refine ⟨_, rfl, a, ns, 0, rfl, hS, by decide, fun st H1 hst k1 t1 => ?_⟩
    -- many
    refine ⟨_, rfl, _, rfl, st, rfl, t1, fun H2 r2 d2 _ _ => ?_⟩
    refine ⟨_, _, rfl, rfl, by show (0 : Int) < _; decide, _, _, rfl, rfl, sz 3 (by decide), fun p hp => ?_⟩
    refine ⟨st, _, rfl, d2.2.new hp, .inl ⟨p, _, rfl, SqL.of upd_same, by simp, d2.2.fresh hp, fun H3 v hv d3 => ?_⟩⟩
    obtain ⟨n, rfl, n1, n2⟩ : ∃ n : Nat, v = .int n ∧ 1 ≤ n ∧ n ≤ 30 := by
      simp only [List.mem_cons, List.not_mem_nil, or_false] at hv
      rcases hv with rfl | rfl | rfl
      · exact ⟨1, rfl, by omega, by omega⟩
      · exact ⟨2, rfl, by omega, by omega⟩
      · exact ⟨(1 + r2 % 30).toNat, congrArg V.int (by omega), by omega, by omega⟩
    -- step, place
    refine ⟨_, rfl, st, 100, rfl, d3.2, by decide, fun H4 z d4 s1 s2 => ?_⟩
    obtain ⟨s, rfl⟩ := Int.eq_ofNat_of_zero_le (show 0 ≤ z by omega)
    have s1 : 1 ≤ s := by omega
    have s2 : s ≤ 100 := by omega
    refine ⟨_, rfl, st, rfl, d4.2, fun H5 r5 d5 _ _ => ?_⟩
    refine ⟨_, rfl, _, _, rfl, rfl, by show (0 : Int) < (n : Int); omega, ?_⟩
    have q0 := Int.emod_nonneg r5 (show (n : Int) ≠ 0 by omega)
    have q1 := Int.emod_lt_of_pos r5 (show 0 < (n : Int) by omega)
    obtain ⟨x, ex⟩ := Int.eq_ofNat_of_zero_le q0
    have x1 : x < n := by omega
    refine set_eq (y := .int x) (congrArg V.int ex) ?_
    have hL := Jo.pos_lt s n (n * s) (by omega)
    -- begin_for
    refine ⟨_, rfl, _, rfl, _, rfl, _, _, _, rfl, .inr ⟨n, rfl, n1, by omega, .inr ⟨s, rfl, s1, s2, .inr ⟨0, rfl, by omega, .inr ⟨x, rfl, x1, ?_⟩⟩⟩⟩⟩
    -- lasts
    refine ⟨_, rfl, (n : Int), rfl, by omega, by omega, fun D hD => lc_range (lo := 0) (n := n)
      (fun i H' => StAt H' st ∧ H' D = some (.lst ((List.range i).map fun b => V.int (((b + Jo.pos s n (n * s)) % n : Nat) : Int))))
      ⟨d5.2.new hD, upd_same⟩ ?_ ?_⟩
    · rintro i H6 hi ⟨t6, e6⟩
      have hin : i < n := by omega
      refine ⟨rfl, tyes (iteT ?_)⟩
      refine ⟨_, rfl, (n : Int), rfl, .of_le (by decide) (by omega) (by decide) (by omega), fun q hq => ?_⟩
      refine ⟨_, rfl, q, _, rgV 0 n, rfl, SqL.of upd_same, ?_, by rw [rgV_len]; omega, fun q8 H8 k8 _ e8 => ?_⟩
      · intro e
        have := rgV_len n
        rw [e] at this
        simp at this
        omega
      have eb : ((0 + (i : Int)) % ((rgV 0 n).length : Int)).toNat = i := by
        rw [rgV_len, emod_nat n (by omega), Nat.mod_eq_of_lt (show (0 + (i : Int)).toNat < n by omega)]
        omega
      rw [eb] at e8
      refine ⟨_, rfl, q8, s, _, rfl, SqL.of e8, by omega, rotL_all _ (rgV_all n), by rw [Jo.rotL_length, rgV_len]; omega, fun o H9 k9 _ e9 => ?_⟩
      have es : (s : Int).toNat - 1 = s - 1 := by omega
      rw [es] at e9
      have hl := ordV_get s1 hin (show n - 1 < n by omega)
      have en : n - 1 + 1 = n := by omega
      rw [en] at hl
      refine ⟨_, rfl, o, _, _, _, rfl, rfl, SqL.of e9, at_last (ordV_len s n i) (by omega) hl, ?_⟩
      have kk := ((Kp.new (ws := []) (o := .lst (rgV 0 n)) hq).trans k8).trans k9
      have e10 := kk _ _ e6 List.not_mem_nil
      refine ⟨_, e10, ?_, (t6.same kk).keep (Kp.put (ws := [D]) (List.mem_singleton.mpr rfl)) ?_, ?_⟩
      · rw [List.length_map, List.length_range]
        exact szl _ (by omega)
      · intro hm
        exact d5.2.fresh hD (List.mem_singleton.mp hm).symm
      · rw [upd_same, List.range_succ, List.map_append]
        rfl
    rintro H6 ⟨t6, e6⟩
    -- the one beginning
    refine ⟨_, rfl, _, rfl, .inl ⟨_, rfl, _, rfl, iteF ?_⟩⟩
    refine ⟨_, rfl, (n : Int), rfl, by omega, by omega, fun G hG => lc_range (lo := 0) (n := n)
      (fun i H' => StAt H' st ∧ H' D = some (.lst ((List.range n).map fun b => V.int (((b + Jo.pos s n (n * s)) % n : Nat) : Int))) ∧
        H' G = some (.lst (if (x + n - Jo.pos s n (n * s)) % n < i then [V.int (((x + n - Jo.pos s n (n * s)) % n : Nat) : Int)] else [])))
      ⟨t6.new hG, by rw [upd_ne (ne_of_none e6 hG)]; exact e6, upd_same⟩ ?_ ?_⟩
    · rintro i H7 hi ⟨t7, e7, g7⟩
      have hin : i < n := by omega
      have at7 : atI ((List.range n).map fun b => V.int (((b + Jo.pos s n (n * s)) % n : Nat) : Int)) (0 + (i : Int)) = some (V.int (((i + Jo.pos s n (n * s)) % n : Nat) : Int)) :=
        at_of (j := i) (by omega) (by rw [List.getElem?_map, List.getElem?_range hin]; rfl)
      refine ⟨rfl, _, rfl, _, rfl, D, _, _, _, rfl, rfl, SqL.of e7, at7, _, rfl, rfl, _, rfl, ?_⟩
      have iff := Jo.turn_inv hL hin x1
      by_cases c : (i + Jo.pos s n (n * s)) % n = x
      · have c1 : V.int (((i + Jo.pos s n (n * s)) % n : Nat) : Int) = V.int (x : Int) := congrArg (fun q : Nat => V.int (q : Int)) c
        rw [decide_eq_true c1]
        have ei := iff.mp c
        rw [← ei, if_neg (Nat.lt_irrefl i)] at g7
        refine iteT ⟨_, rfl, _, g7, szl 0 (by decide), t7.keep (Kp.put (ws := [G]) (List.mem_singleton.mpr rfl)) ?_, ?_, ?_⟩
        · intro hm
          have := List.mem_singleton.mp hm
          exact (t6.fresh hG) this.symm
        · rw [upd_ne (ne_of_none e6 hG)]
          exact e7
        · rw [upd_same, ← ei, if_pos (Nat.lt_succ_self i)]
          show some (HO.lst [V.int (0 + (i : Int))]) = _
          rw [Int.zero_add]
      · have c1 : ¬ V.int (((i + Jo.pos s n (n * s)) % n : Nat) : Int) = V.int (x : Int) := fun q => c (by have := V.int.inj q; omega)
        rw [decide_eq_false c1]
        refine iteF ⟨t7, e7, ?_⟩
        rw [g7]
        have ni : ¬ (x + n - Jo.pos s n (n * s)) % n = i := fun q => c (iff.mpr q.symm)
        by_cases c2 : (x + n - Jo.pos s n (n * s)) % n < i
        · rw [if_pos c2, if_pos (by omega)]
        · rw [if_neg c2, if_neg (by omega)]
    rintro H7 ⟨t7, e7, g7⟩
    have hx := Nat.mod_lt (x + n - Jo.pos s n (n * s)) (show 0 < n by omega)
    rw [if_pos hx] at g7
    refine ⟨_, rfl, sz 1 (by decide), fun F hF => ?_⟩
    refine neD_same (SqL.of (by rw [upd_ne (ne_of_none g7 hF)]; exact g7)) (SqL.of upd_same) rfl ⟨_, rfl, iteF ?_⟩
    have t8 := t7.new (o := .lst [V.int (((x + n - Jo.pos s n (n * s)) % n : Nat) : Int)]) hF
    generalize upd H7 F (.lst [V.int (((x + n - Jo.pos s n (n * s)) % n : Nat) : Int)]) = H8 at t8 ⊢
    clear hx q1 x1 hL s2 n2 n1 e6 e7 g7
    -- a great ring
    refine ⟨_, rfl, _, _, rfl, rfl, ⟨by decide, by decide, by decide⟩, _, rfl, _, _, rfl, rfl, ⟨by decide, by decide, by decide⟩, st, _, rfl, t8, by show (0 : Int) < 10 ^ (60 : Int).toNat; decide, fun H9 r9 d9 r90 r91 => ?_⟩
    refine ⟨_, _, rfl, rfl, sz 3 (by decide), fun p9 hp9 => ?_⟩
    refine ⟨st, _, rfl, d9.2.new hp9, .inl ⟨p9, _, rfl, SqL.of upd_same, by simp, d9.2.fresh hp9, fun H10 v hv d10 => ?_⟩⟩
    have r91 : r9 < 10 ^ 60 := r91
    obtain ⟨n, rfl, n1, n2⟩ : ∃ n : Nat, v = .int n ∧ 1 ≤ n ∧ n ≤ 10 ^ 60 := by
      simp only [List.mem_cons, List.not_mem_nil, or_false] at hv
      rcases hv with rfl | rfl | rfl
      · exact ⟨10 ^ 60, rfl, by decide, by decide⟩
      · exact ⟨(1 + r9).toNat, congrArg V.int (by omega), by omega, by omega⟩
      · exact ⟨2, rfl, by decide, by decide⟩
    refine ⟨_, rfl, st, rfl, d10.2, fun H11 r11 d11 _ _ => ?_⟩
    refine ⟨_, _, rfl, rfl, by show (0 : Int) < _; decide, _, _, rfl, rfl, ?_⟩
    have q0 := Int.emod_nonneg r11 (show (12 : Int) ≠ 0 by decide)
    have q1 := Int.emod_lt_of_pos r11 (show 0 < (12 : Int) by decide)
    obtain ⟨s, es⟩ := Int.eq_ofNat_of_zero_le (show 0 ≤ 1 + r11 % 12 by omega)
    refine set_eq (y := .int s) (congrArg V.int es) ?_
    have s1 : 1 ≤ s := by omega
    have s2 : s ≤ 100 := by omega
    refine ⟨_, rfl, _, rfl, _, _, rfl, rfl, _, rfl, _, rfl, st, _, rfl, d11.2, by omega, fun H12 r12 d12 r120 r121 => ?_⟩
    refine ⟨sz 3 (by decide), fun p12 hp12 => ?_⟩
    refine ⟨st, _, rfl, d12.2.new hp12, .inl ⟨p12, _, rfl, SqL.of upd_same, by simp, d12.2.fresh hp12, fun H13 v hv d13 => ?_⟩⟩
    obtain ⟨x, rfl, x1⟩ : ∃ b : Nat, v = .int b ∧ b < n := by
      simp only [List.mem_cons, List.not_mem_nil, or_false] at hv
      rcases hv with rfl | rfl | rfl
      · exact ⟨0, rfl, by omega⟩
      · exact ⟨n - 1, congrArg V.int (by omega), by omega⟩
      · exact ⟨r12.toNat, congrArg V.int (by omega), by omega⟩
    have hL := Jo.pos_lt s n (n * s) (by omega)
    refine ⟨_, rfl, _, rfl, _, rfl, _, _, _, rfl, .inr ⟨n, rfl, n1, n2, .inr ⟨s, rfl, s1, s2, .inr ⟨0, rfl, by omega, .inr ⟨x, rfl, x1, ?_⟩⟩⟩⟩⟩
    have hx := Nat.mod_lt (x + n - Jo.pos s n (n * s)) (show 0 < n by omega)
    have iff := Jo.turn_inv hL hx x1
    generalize (x + n - Jo.pos s n (n * s)) % n = b at hx iff ⊢
    refine ⟨_, rfl, _, rfl, .inl ⟨_, rfl, _, rfl, iteF ?_⟩⟩
    refine ⟨_, rfl, _, _, rfl, rfl, _, rfl, ?_⟩
    rw [decide_eq_true (show (0 : Int) ≤ (b : Int) by omega)]
    refine iteT ⟨_, rfl, _, _, rfl, rfl, _, rfl, ?_⟩
    rw [decide_eq_true (show (b : Int) < (n : Int) by omega)]
    refine iteF ⟨_, rfl, _, rfl, _, rfl, _, _, _, rfl, .inr ⟨n, rfl, n1, n2, .inr ⟨s, rfl, s1, s2, .inr ⟨b, rfl, hx, ?_⟩⟩⟩⟩
    refine ⟨_, rfl, ne_no (vnat (iff.mpr rfl)) rfl ⟨_, rfl, iteF ?_⟩⟩
    refine ⟨_, rfl, rfl, _, rfl, ?_⟩
    by_cases c : n = 1
    · have c1 : V.int (n : Int) = V.int 1 := congrArg V.int (by omega)
      rw [decide_eq_true c1]
      exact iteT (hQ _)
    · have c1 : ¬ V.int (n : Int) = V.int 1 := fun q => c (by have := V.int.inj q; omega)
      rw [decide_eq_false c1]
      refine iteF ⟨_, rfl, _, rfl, _, rfl, _, _, rfl, rfl, _, rfl, _, _, rfl, rfl, by show (0 : Int) < (n : Int); omega, _, _, _, rfl, .inr ⟨n, rfl, n1, n2, .inr ⟨s, rfl, s1, s2, .inr ⟨(b + 1) % n, rfl, Nat.mod_lt _ (by omega), ?_⟩⟩⟩⟩
      have e2 := iff.mpr rfl
      have ne : ¬ ((b + 1) % n + Jo.pos s n (n * s)) % n = x := by
        rw [Nat.mod_add_mod]
        intro q
        have e3 : b + 1 + Jo.pos s n (n * s) = b + Jo.pos s n (n * s) + 1 := by omega
        rw [e3] at q
        have e4 : (b + Jo.pos s n (n * s) + 1) % n = ((b + Jo.pos s n (n * s)) % n + 1) % n := by rw [Nat.mod_add_mod]
        rw [e4, e2] at q
        by_cases c3 : x + 1 < n
        · rw [Nat.mod_eq_of_lt c3] at q
          omega
        · have c4 : x + 1 = n := by omega
          rw [c4, Nat.mod_self] at q
          omega
      refine ⟨_, rfl, rfl, ?_⟩
      have ne2 : ¬ V.int ((((b + 1) % n + Jo.pos s n (n * s)) % n : Nat) : Int) = V.int (x : Int) := fun q => ne (by have := V.int.inj q; omega)
      rw [decide_eq_false ne2]
      exact hQ _
end
end Lz
namespace Lz
open PySem PySem.Spec PyProof.Rows L2

def d__law_cell_at : He.DefD := ⟨("_law_cell_at", none), "_law_cell_at", "_law_cell_at", defArgs s__law_cell_at, defBody s__law_cell_at, defScope s__law_cell_at, [], []⟩
def d__law_state : He.DefD := ⟨("_law_state", none), "_law_state", "_law_state", defArgs s__law_state, defBody s__law_state, defScope s__law_state, [], []⟩
def d__law_next : He.DefD := ⟨("_law_next", none), "_law_next", "_law_next", defArgs s__law_next, defBody s__law_next, defScope s__law_next, [], []⟩
def d__law_of : He.DefD := ⟨("_law_of", none), "_law_of", "_law_of", defArgs s__law_of, defBody s__law_of, defScope s__law_of, [], []⟩
def d__law_step : He.DefD := ⟨("_law_step", none), "_law_step", "_law_step", defArgs s__law_step, defBody s__law_step, defScope s__law_step, [], []⟩
def d_is_number : He.DefD := ⟨("is_number", none), "is_number", "is_number", defArgs s_is_number, defBody s_is_number, defScope s_is_number, [], []⟩
def d_need_many : He.DefD := ⟨("need_many", none), "need_many", "need_many", defArgs s_need_many, defBody s_need_many, defScope s_need_many, [], []⟩
def d_need_step : He.DefD := ⟨("need_step", none), "need_step", "need_step", defArgs s_need_step, defBody s_need_step, defScope s_need_step, [], []⟩
def d_need_place : He.DefD := ⟨("need_place", none), "need_place", "need_place", defArgs s_need_place, defBody s_need_place, defScope s_need_place, [], []⟩
def d_need_told : He.DefD := ⟨("need_told", none), "need_told", "need_told", defArgs s_need_told, defBody s_need_told, defScope s_need_told, [], []⟩
def d_first_number : He.DefD := ⟨("first_number", none), "first_number", "first_number", defArgs s_first_number, defBody s_first_number, defScope s_first_number, [], []⟩
def d_last_of : He.DefD := ⟨("last_of", none), "last_of", "last_of", defArgs s_last_of, defBody s_last_of, defScope s_last_of, [.int (0)], []⟩
def d_begin_for : He.DefD := ⟨("begin_for", none), "begin_for", "begin_for", defArgs s_begin_for, defBody s_begin_for, defScope s_begin_for, [], []⟩
def d__law_out : He.DefD := ⟨("_law_out", none), "_law_out", "_law_out", defArgs s__law_out, defBody s__law_out, defScope s__law_out, [], []⟩
def d__law_turned : He.DefD := ⟨("_law_turned", none), "_law_turned", "_law_turned", defArgs s__law_turned, defBody s__law_turned, defScope s__law_turned, [], []⟩
def d__law_whole : He.DefD := ⟨("_law_whole", none), "_law_whole", "_law_whole", defArgs s__law_whole, defBody s__law_whole, defScope s__law_whole, [], []⟩
def d__law_far : He.DefD := ⟨("_law_far", none), "_law_far", "_law_far", defArgs s__law_far, defBody s__law_far, defScope s__law_far, [], []⟩
def d_law : He.DefD := ⟨("law", none), "law", "law", defArgs s_law, defBody s_law, defScope s_law, [], []⟩
def fn : List He.DefD := [d__law_cell_at, d__law_state, d__law_next, d__law_of, d__law_step, d_is_number, d_need_many, d_need_step, d_need_place, d_need_told, d_first_number, d_last_of, d_begin_for, d__law_out, d__law_turned, d__law_whole, d__law_far, d_law]
def fa : List He.Fa := [.glo "_law_cell_at", .glo "_law_state", .glo "_law_next", .glo "_law_of", .glo "_law_step", .glo "is_number", .glo "need_many", .glo "need_step", .glo "need_place", .glo "need_told", .glo "first_number", .glo "last_of", .glo "begin_for", .glo "_law_out", .glo "_law_turned", .glo "_law_whole", .glo "_law_far", .glo "law", .free "len", .free "range", .free "list", .free "min", .free "max", .free "isinstance", .free "int", .free "bool", .free "str", .free "enumerate", .free "all", .free "set", .free "ValueError", .int "GREATEST" (1000000000000000000000000000000000000000000000000000000000000), .int "MOST_STEP" (100), .glo "CountError", .glo "NoMany", .glo "NoStep", .glo "NoPlace", .keep "CountError", .exc "NoMany", .exm "NoMany" "CountError" true, .exc "NoStep", .exm "NoStep" "CountError" true, .exc "NoPlace", .exm "NoPlace" "CountError" true]
def nm0 : List PySem.Str := ["CountError", "NoMany", "NoStep", "NoPlace", "is_number", "need_many", "need_step", "need_place", "first_number", "need_told", "last_of", "begin_for", "_law_cell_at", "_law_next", "_law_state", "_law_of", "_law_far", "_law_turned", "_law_out", "_law_step", "_law_whole", "GREATEST", "MOST_STEP"]
def nms : List PySem.Str := nm0
abbrev R : PySem.W.OpenRow := PySem.W.OpenLaw.row PySem.Challenge.rw_countout_k06_beginnings_wished
abbrev hk : PySem.W.Hook := He.hookD 5 fa fn
def ob (s : PySem.W.SharedT) : He.AlD := He.obsDG 5 fa fn (HandSHeadRun.getT s)
theorem ob_eq (s : PySem.W.SharedT) : ob s = hk.obs s.abs := He.obsDG_eq (HandSHeadRun.getT_eq s)
theorem run_top (w : World) : HandSHeadRun.RunEq R (PySem.W.view R.prog [28]) hk ob 6000 nms w := by
  intro os
  kernel_rfl
theorem txt_of {K : PySem.W.Frag} {h : Heap} {mg : Str → Option Value} (X : K.In h) (G : h.Ns mainGlobals mg) (c : He.SaysD fa fn K) : Txt K mg where
  b_len := He.free_ok X G (c.fact 18 (f := .free "len") rfl)
  b_range := He.free_ok X G (c.fact 19 (f := .free "range") rfl)
  b_list := He.free_ok X G (c.fact 20 (f := .free "list") rfl)
  b_min := He.free_ok X G (c.fact 21 (f := .free "min") rfl)
  b_max := He.free_ok X G (c.fact 22 (f := .free "max") rfl)
  b_isinstance := He.free_ok X G (c.fact 23 (f := .free "isinstance") rfl)
  b_int := He.free_ok X G (c.fact 24 (f := .free "int") rfl)
  b_bool := He.free_ok X G (c.fact 25 (f := .free "bool") rfl)
  b_str := He.free_ok X G (c.fact 26 (f := .free "str") rfl)
  b_enumerate := He.free_ok X G (c.fact 27 (f := .free "enumerate") rfl)
  b_all := He.free_ok X G (c.fact 28 (f := .free "all") rfl)
  b_set := He.free_ok X G (c.fact 29 (f := .free "set") rfl)
  b_ValueError := He.free_ok X G (c.fact 30 (f := .free "ValueError") rfl)
  c_GREATEST := He.int_ok X G (c.fact 31 (f := .int "GREATEST" (1000000000000000000000000000000000000000000000000000000000000)) rfl)
  c_MOST_STEP := He.int_ok X G (c.fact 32 (f := .int "MOST_STEP" (100)) rfl)
  g_CountError := He.glo_ok X G (c.fact 33 (f := .glo "CountError") rfl)
  g_NoMany := He.glo_ok X G (c.fact 34 (f := .glo "NoMany") rfl)
  g_NoStep := He.glo_ok X G (c.fact 35 (f := .glo "NoStep") rfl)
  g_NoPlace := He.glo_ok X G (c.fact 36 (f := .glo "NoPlace") rfl)
  x_CountError := He.keep_ok (c.fact 37 (f := .keep "CountError") rfl)
  x_NoMany := exct (c.fact 38 (f := .exc "NoMany") rfl)
  x_NoStep := exct (c.fact 40 (f := .exc "NoStep") rfl)
  x_NoPlace := exct (c.fact 42 (f := .exc "NoPlace") rfl)
theorem facts {P : Program} {w : World} {K : PySem.W.Frag} {h : Heap} {mg : Str → Option Value} {f : Addr} (X : K.In h) (G : h.Ns mainGlobals mg) (hfa : mg ("law" : Str) = some (.ref f)) (c : He.SaysD fa fn K) :
    ∃ fd : FuncData, (∀ (s : Shared) (v : Value), BindsTo s fd ⟨[v], []⟩ [("_law_script", v)]) ∧ ∀ base : Heap, K.In base → base.Ns mainGlobals mg → FnOk P w K mg base CX0 6 f fd ["_law_script"] (spLaw K) := by
  have T := txt_of X G c
  obtain ⟨fd__law_cell_at, F__law_cell_at⟩ := c.def_ 0 (d := d__law_cell_at) rfl
  obtain ⟨fd__law_state, F__law_state⟩ := c.def_ 1 (d := d__law_state) rfl
  obtain ⟨fd__law_next, F__law_next⟩ := c.def_ 2 (d := d__law_next) rfl
  obtain ⟨fd__law_of, F__law_of⟩ := c.def_ 3 (d := d__law_of) rfl
  obtain ⟨fd__law_step, F__law_step⟩ := c.def_ 4 (d := d__law_step) rfl
  obtain ⟨fd_is_number, F_is_number⟩ := c.def_ 5 (d := d_is_number) rfl
  obtain ⟨fd_need_many, F_need_many⟩ := c.def_ 6 (d := d_need_many) rfl
  obtain ⟨fd_need_step, F_need_step⟩ := c.def_ 7 (d := d_need_step) rfl
  obtain ⟨fd_need_place, F_need_place⟩ := c.def_ 8 (d := d_need_place) rfl
  obtain ⟨fd_need_told, F_need_told⟩ := c.def_ 9 (d := d_need_told) rfl
  obtain ⟨fd_first_number, F_first_number⟩ := c.def_ 10 (d := d_first_number) rfl
  obtain ⟨fd_last_of, F_last_of⟩ := c.def_ 11 (d := d_last_of) rfl
  obtain ⟨fd_begin_for, F_begin_for⟩ := c.def_ 12 (d := d_begin_for) rfl
  obtain ⟨fd__law_out, F__law_out⟩ := c.def_ 13 (d := d__law_out) rfl
  obtain ⟨fd__law_turned, F__law_turned⟩ := c.def_ 14 (d := d__law_turned) rfl
  obtain ⟨fd__law_whole, F__law_whole⟩ := c.def_ 15 (d := d__law_whole) rfl
  obtain ⟨fd__law_far, F__law_far⟩ := c.def_ 16 (d := d__law_far) rfl
  obtain ⟨fd_law, F_law⟩ := c.def_ 17 (d := d_law) rfl
  have e := hfa.symm.trans (He.glo_ok X G (c.fact 17 (f := .glo "law") rfl))
  cases e
  refine ⟨fd_law, fun s v => FunD.bindsA (ps := ["_law_script"]) F_law (fun _ _ _ _ _ _ us hl => match us, hl with | [_], _ => rfl) s [v] rfl, fun base _ _ => ?_⟩
  have O__law_cell_at := ok__law_cell_at (P := P) (w := w) (base := base) F__law_cell_at T 
  have G__law_cell_at : FnAt P w K mg base CX0 1 "_law_cell_at" ["_law_script", "_law_k"] [] (spCell K) := by
    exact ⟨_, _, [], He.glo_ok X G (c.fact 0 (f := .glo "_law_cell_at") rfl), F__law_cell_at.kp, FunD.bindsN (ps := ["_law_script", "_law_k"]) F__law_cell_at (fun _ _ _ _ _ _ us hl => match us, hl with | [_, _], _ => rfl), .nil, O__law_cell_at⟩
  have O__law_state := ok__law_state (P := P) (w := w) (base := base) F__law_state T G__law_cell_at
  have G__law_state : FnAt P w K mg base CX0 2 "_law_state" ["_law_script", "_law_first"] [] (spState K) := by
    exact ⟨_, _, [], He.glo_ok X G (c.fact 1 (f := .glo "_law_state") rfl), F__law_state.kp, FunD.bindsN (ps := ["_law_script", "_law_first"]) F__law_state (fun _ _ _ _ _ _ us hl => match us, hl with | [_, _], _ => rfl), .nil, O__law_state⟩
  have O__law_next := ok__law_next (P := P) (w := w) (base := base) F__law_next T 
  have G__law_next : FnAt P w K mg base CX0 1 "_law_next" ["_law_state_here"] [] spNext := by
    exact ⟨_, _, [], He.glo_ok X G (c.fact 2 (f := .glo "_law_next") rfl), F__law_next.kp, FunD.bindsN (ps := ["_law_state_here"]) F__law_next (fun _ _ _ _ _ _ us hl => match us, hl with | [_], _ => rfl), .nil, O__law_next⟩
  have O__law_of := ok__law_of (P := P) (w := w) (base := base) F__law_of T G__law_next
  have G__law_of : FnAt P w K mg base CX0 2 "_law_of" ["_law_state_here", "_law_some"] [] (spOf K) := by
    exact ⟨_, _, [], He.glo_ok X G (c.fact 3 (f := .glo "_law_of") rfl), F__law_of.kp, FunD.bindsN (ps := ["_law_state_here", "_law_some"]) F__law_of (fun _ _ _ _ _ _ us hl => match us, hl with | [_, _], _ => rfl), .nil, O__law_of⟩
  have O__law_step := ok__law_step (P := P) (w := w) (base := base) F__law_step T G__law_of G__law_next
  have G__law_step : FnAt P w K mg base CX0 3 "_law_step" ["_law_state_here", "_law_most"] [] (spStep K) := by
    exact ⟨_, _, [], He.glo_ok X G (c.fact 4 (f := .glo "_law_step") rfl), F__law_step.kp, FunD.bindsN (ps := ["_law_state_here", "_law_most"]) F__law_step (fun _ _ _ _ _ _ us hl => match us, hl with | [_, _], _ => rfl), .nil, O__law_step⟩
  have O_is_number := ok_is_number (P := P) (w := w) (base := base) F_is_number T 
  have G_is_number : FnAt P w K mg base CX0 1 "is_number" ["thing"] [] (spIsNum K) := by
    exact ⟨_, _, [], He.glo_ok X G (c.fact 5 (f := .glo "is_number") rfl), F_is_number.kp, FunD.bindsN (ps := ["thing"]) F_is_number (fun _ _ _ _ _ _ us hl => match us, hl with | [_], _ => rfl), .nil, O_is_number⟩
  have O_need_many := ok_need_many (P := P) (w := w) (base := base) F_need_many T G_is_number
  have G_need_many : FnAt P w K mg base (CXr P w) 2 "need_many" ["many", "most"] [] (spNeed K (cNoMany K) 1) := by
    exact ⟨_, _, [], He.glo_ok X G (c.fact 6 (f := .glo "need_many") rfl), F_need_many.kp, FunD.bindsN (ps := ["many", "most"]) F_need_many (fun _ _ _ _ _ _ us hl => match us, hl with | [_, _], _ => rfl), .nil, O_need_many⟩
  have O_need_step := ok_need_step (P := P) (w := w) (base := base) F_need_step T G_is_number
  have G_need_step : FnAt P w K mg base (CXr P w) 2 "need_step" ["step", "most"] [] (spNeed K (cNoStep K) 1) := by
    exact ⟨_, _, [], He.glo_ok X G (c.fact 7 (f := .glo "need_step") rfl), F_need_step.kp, FunD.bindsN (ps := ["step", "most"]) F_need_step (fun _ _ _ _ _ _ us hl => match us, hl with | [_, _], _ => rfl), .nil, O_need_step⟩
  have O_need_place := ok_need_place (P := P) (w := w) (base := base) F_need_place T G_is_number
  have G_need_place : FnAt P w K mg base (CXr P w) 2 "need_place" ["many", "place"] [] (spPlace K) := by
    exact ⟨_, _, [], He.glo_ok X G (c.fact 8 (f := .glo "need_place") rfl), F_need_place.kp, FunD.bindsN (ps := ["many", "place"]) F_need_place (fun _ _ _ _ _ _ us hl => match us, hl with | [_, _], _ => rfl), .nil, O_need_place⟩
  have O_need_told := ok_need_told (P := P) (w := w) (base := base) F_need_told T G_need_many G_need_step G_need_place
  have G_need_told : FnAt P w K mg base (CXr P w) 3 "need_told" ["many", "step", "begin"] [] (spTold K) := by
    exact ⟨_, _, [], He.glo_ok X G (c.fact 9 (f := .glo "need_told") rfl), F_need_told.kp, FunD.bindsN (ps := ["many", "step", "begin"]) F_need_told (fun _ _ _ _ _ _ us hl => match us, hl with | [_, _, _], _ => rfl), .nil, O_need_told⟩
  have O_first_number := ok_first_number (P := P) (w := w) (base := base) F_first_number T 
  have G_first_number : FnAt P w K mg base CX0 1 "first_number" ["many", "step", "count"] [] spFirst := by
    exact ⟨_, _, [], He.glo_ok X G (c.fact 10 (f := .glo "first_number") rfl), F_first_number.kp, FunD.bindsN (ps := ["many", "step", "count"]) F_first_number (fun _ _ _ _ _ _ us hl => match us, hl with | [_, _, _], _ => rfl), .nil, O_first_number⟩
  have O_last_of := ok_last_of (P := P) (w := w) (base := base) F_last_of T G_need_told G_first_number
  have G_last_of : FnAt P w K mg base (CXr P w) 4 "last_of" ["many", "step", "begin"] [] (spLastOf K) := by
    obtain ⟨ds_last_of, v_last_of, b_last_of⟩ := FunD.binds1 (ps := ["many", "step", "begin"]) F_last_of 3 1 (by simp [d_last_of, He.DefD.dvs]) rfl (fun _ _ _ _ _ _ _ us its hl hi => match us, hl, its, hi with | [_, _, _], _, [_], _ => ⟨_, rfl, rfl⟩)
    exact ⟨_, _, ds_last_of, He.glo_ok X G (c.fact 11 (f := .glo "last_of") rfl), F_last_of.kp, b_last_of, v_last_of, O_last_of⟩
  have G_last_of_d : FnAt P w K mg base (CXr P w) 4 "last_of" ["many", "step", "begin"] [V.int (0)] (spLastOf K) := by
    obtain ⟨ds_last_of, v_last_of, b_last_of⟩ := FunD.binds1 (ps := ["many", "step", "begin"]) F_last_of 2 0 (by simp [d_last_of, He.DefD.dvs]) rfl (fun _ _ _ _ _ _ _ us its hl hi => match us, hl, its, hi with | [_, _], _, [_], _ => ⟨_, rfl, rfl⟩)
    exact ⟨_, _, ds_last_of, He.glo_ok X G (c.fact 11 (f := .glo "last_of") rfl), F_last_of.kp, b_last_of, v_last_of, O_last_of⟩
  have O_begin_for := ok_begin_for (P := P) (w := w) (base := base) F_begin_for T G_last_of_d G_need_place
  have G_begin_for : FnAt P w K mg base (CXr P w) 5 "begin_for" ["many", "step", "place"] [] (spBeginFor K) := by
    exact ⟨_, _, [], He.glo_ok X G (c.fact 12 (f := .glo "begin_for") rfl), F_begin_for.kp, FunD.bindsN (ps := ["many", "step", "place"]) F_begin_for (fun _ _ _ _ _ _ us hl => match us, hl with | [_, _, _], _ => rfl), .nil, O_begin_for⟩
  have O__law_out := ok__law_out (P := P) (w := w) (base := base) F__law_out T 
  have G__law_out : FnAt P w K mg base CX0 1 "_law_out" ["_law_row", "_law_step_here"] [] (spOut K) := by
    exact ⟨_, _, [], He.glo_ok X G (c.fact 13 (f := .glo "_law_out") rfl), F__law_out.kp, FunD.bindsN (ps := ["_law_row", "_law_step_here"]) F__law_out (fun _ _ _ _ _ _ us hl => match us, hl with | [_, _], _ => rfl), .nil, O__law_out⟩
  have O__law_turned := ok__law_turned (P := P) (w := w) (base := base) F__law_turned T 
  have G__law_turned : FnAt P w K mg base CX0 1 "_law_turned" ["_law_row", "_law_many"] [] (spTurned K) := by
    exact ⟨_, _, [], He.glo_ok X G (c.fact 14 (f := .glo "_law_turned") rfl), F__law_turned.kp, FunD.bindsN (ps := ["_law_row", "_law_many"]) F__law_turned (fun _ _ _ _ _ _ us hl => match us, hl with | [_, _], _ => rfl), .nil, O__law_turned⟩
  have O__law_whole := ok__law_whole (P := P) (w := w) (base := base) F__law_whole T 
  have G__law_whole : FnAt P w K mg base CX0 1 "_law_whole" ["_law_found"] [] (spIsNum K) := by
    exact ⟨_, _, [], He.glo_ok X G (c.fact 15 (f := .glo "_law_whole") rfl), F__law_whole.kp, FunD.bindsN (ps := ["_law_found"]) F__law_whole (fun _ _ _ _ _ _ us hl => match us, hl with | [_], _ => rfl), .nil, O__law_whole⟩
  have O__law_far := ok__law_far (P := P) (w := w) (base := base) F__law_far T G__law_next
  have G__law_far : FnAt P w K mg base CX0 2 "_law_far" ["_law_state_here", "_law_many"] [] spFar := by
    exact ⟨_, _, [], He.glo_ok X G (c.fact 16 (f := .glo "_law_far") rfl), F__law_far.kp, FunD.bindsN (ps := ["_law_state_here", "_law_many"]) F__law_far (fun _ _ _ _ _ _ us hl => match us, hl with | [_, _], _ => rfl), .nil, O__law_far⟩
  exact ok_law F_law T G__law_state G__law_of G__law_next G__law_step G_begin_for G__law_out G__law_turned G__law_whole G__law_far G_last_of
end Lz
open PySem PySem.W PySem.Calls PyProof.Rows
set_option maxHeartbeats 0 in
theorem PySem.Challenge.cw_countout_k06_beginnings_wished_holds : PySem.Challenge.rw_countout_k06_beginnings_wished.Holds := by
  w_on; o_law
  refine HandSHeadRun.head_any (r := Lz.R) (q := view Lz.R.prog [28]) (H := Lz.hk) (ob := Lz.ob) (M := 6000) (loose := Lz.nms) (d := HandSHeadRun.topDef Lz.R.prog 28) (kwd := []) Lz.ob_eq
    (by kernel_rfl) (fun s => by kernel_rfl) Lz.run_top (by kernel_rfl) (by kernel_rfl) (by kernel_rfl) (by rfl) (by first | assumption | decide +kernel) (by decide +kernel) ⟨rfl, rfl, rfl, rfl, rfl, by decide +kernel⟩ ?hw ?hc
  case hw => w_witness2
  case hc =>
    refine L2.walk_ofE (l := PySem.Challenge.rw_countout_k06_beginnings_wished) (n := 63) (k := 6) (x := "_law_script") (CX := L2.CX0) rfl (by decide) (by kernel_rfl) ⟨rfl, by decide, by decide⟩ ?F (fun _ _ _ _ z => z)
    intro w mg fa h Y G hmg0
    obtain ⟨K, KX, c⟩ := Y
    have hmg : mg ("law" : PySem.Str) = some (.ref fa) := by
      have e : (HandSHeadRun.topDef Lz.R.prog 28).name = ("law" : PySem.Str) := by kernel_rfl
      rw [← e]
      exact hmg0
    obtain ⟨fd, hb, hF⟩ := Lz.facts (P := (PySem.Challenge.rw_countout_k06_beginnings_wished).prog) (w := w) KX G hmg c
    exact ⟨K, fd, Lz.spLaw K, KX, hb, fun H a ns hl _ hS => ⟨a, ns, rfl, hS, hl, fun _ => rfl⟩, hF⟩
#print axioms PySem.Challenge.cw_countout_k06_beginnings_wished_holds
