import PyProof.Rows.All
import Wide.All
import OpenK.AllK
import Wide.FinOn
import KE.KStateDown
import Lean
import HandS.ForMost
import HandS.More
import HandS.Defaults
import HandS.Head0
import HandS.Head1
import HandS.Head2
import HandS.HeadEnd
import HandS.HeadHook1
import HandS.HeadHook2
import PySem.Challenge.RW_plugnets_k31_groups_of_whole_parts
import HandS.Evl
import HandS.IsInst
import HandS.Wide
import HandS.Deep
import HandS.Star
import HandS.SetFor
import HandS.SortRule
import HandS.SortInts
import HandS.Strs
import HandS.TupSets
import HandS.Zip
import HandS.Conv
import PyProof.SeqIndex
import KE.LtSeq
import KE.KSortAsk
import PyProof.ReprRoads
import PyProof.FitsInt
section
/-! Sums and products over the first n numbers, choices, common divisors. -/
set_option linter.all false
namespace Pn

def S (n : Nat) (f : Nat → Nat) : Nat := match n with
  | 0 => 0
  | n + 1 => S n f + f n
def Pr (n : Nat) (f : Nat → Nat) : Nat := match n with
  | 0 => 1
  | n + 1 => Pr n f * f n

theorem S_congr {n : Nat} {f g : Nat → Nat} (h : ∀ i, i < n → f i = g i) : S n f = S n g := by
  induction n with
  | zero => rfl
  | succ n ih => simp only [S]; rw [ih (fun i hi => h i (by omega)), h n (by omega)]
theorem Pr_congr {n : Nat} {f g : Nat → Nat} (h : ∀ i, i < n → f i = g i) : Pr n f = Pr n g := by
  induction n with
  | zero => rfl
  | succ n ih => simp only [Pr]; rw [ih (fun i hi => h i (by omega)), h n (by omega)]
theorem S_add {n : Nat} {f g : Nat → Nat} : S n (fun i => f i + g i) = S n f + S n g := by
  induction n with
  | zero => rfl
  | succ n ih => simp only [S]; omega
theorem S_mul {n c : Nat} {f : Nat → Nat} : S n (fun i => c * f i) = c * S n f := by
  induction n with
  | zero => rfl
  | succ n ih => simp only [S]; rw [ih, Nat.mul_add]
theorem S_mulr {n c : Nat} {f : Nat → Nat} : S n (fun i => f i * c) = S n f * c := by
  induction n with
  | zero => simp [S]
  | succ n ih => simp only [S]; rw [ih, Nat.add_mul]
theorem S_zero {n : Nat} : S n (fun _ => 0) = 0 := by
  induction n with
  | zero => rfl
  | succ n ih => simp only [S]; omega
theorem S_zero' {n : Nat} {f : Nat → Nat} (h : ∀ i, i < n → f i = 0) : S n f = 0 := by
  rw [S_congr h, S_zero]
theorem S_le {n : Nat} {f g : Nat → Nat} (h : ∀ i, i < n → f i ≤ g i) : S n f ≤ S n g := by
  induction n with
  | zero => exact Nat.le_refl _
  | succ n ih => simp only [S]; have := ih (fun i hi => h i (by omega)); have := h n (by omega); omega
theorem S_ge {n i : Nat} {f : Nat → Nat} (hi : i < n) : f i ≤ S n f := by
  induction n with
  | zero => omega
  | succ n ih =>
    simp only [S]
    by_cases e : i = n
    · subst e; omega
    · have := ih (by omega); omega
theorem S_ge2 {n i j : Nat} {f : Nat → Nat} (hi : i < n) (hj : j < n) (hne : i ≠ j) : f i + f j ≤ S n f := by
  induction n with
  | zero => omega
  | succ n ih =>
    simp only [S]
    by_cases e : i = n
    · subst e; have := S_ge (f := f) (show j < i by omega); omega
    · by_cases e' : j = n
      · subst e'; have := S_ge (f := f) (show i < j by omega); omega
      · have := ih (by omega) (by omega); omega
theorem S_ge3 {n i j k : Nat} {f : Nat → Nat} (hi : i < n) (hj : j < n) (hk : k < n) (h1 : i ≠ j) (h2 : i ≠ k) (h3 : j ≠ k) : f i + f j + f k ≤ S n f := by
  induction n with
  | zero => omega
  | succ n ih =>
    simp only [S]
    by_cases e : i = n
    · subst e; have := S_ge2 (f := f) (show j < i by omega) (show k < i by omega) h3; omega
    · by_cases e' : j = n
      · subst e'; have := S_ge2 (f := f) (show i < j by omega) (show k < j by omega) h2; omega
      · by_cases e'' : k = n
        · subst e''; have := S_ge2 (f := f) (show i < k by omega) (show j < k by omega) h1; omega
        · have := ih (by omega) (by omega) (by omega); omega
theorem S_pos {n : Nat} {f : Nat → Nat} (h : 0 < S n f) : ∃ i, i < n ∧ 0 < f i := by
  induction n with
  | zero => simp [S] at h
  | succ n ih =>
    simp only [S] at h
    by_cases e : 0 < f n
    · exact ⟨n, by omega, e⟩
    · obtain ⟨i, h1, h2⟩ := ih (by omega)
      exact ⟨i, by omega, h2⟩
theorem S_upd {n i : Nat} {f g : Nat → Nat} (hi : i < n) (h : ∀ j, j < n → j ≠ i → g j = f j) : S n g + f i = S n f + g i := by
  induction n with
  | zero => omega
  | succ n ih =>
    simp only [S]
    by_cases e : i = n
    · subst e
      rw [S_congr (f := g) (g := f) (fun j hj => h j (by omega) (by omega))]; omega
    · have := ih (by omega) (fun j hj => h j (by omega))
      have := h n (by omega) (by omega)
      omega
theorem Pr_upd {n i : Nat} {f g : Nat → Nat} (hi : i < n) (h : ∀ j, j < n → j ≠ i → g j = f j) : Pr n g * f i = Pr n f * g i := by
  induction n with
  | zero => omega
  | succ n ih =>
    simp only [Pr]
    by_cases e : i = n
    · subst e
      rw [Pr_congr (f := g) (g := f) (fun j hj => h j (by omega) (by omega))]
      rw [Nat.mul_assoc, Nat.mul_assoc, Nat.mul_comm (g i)]
    · have h1 := ih (by omega) (fun j hj => h j (by omega))
      have h2 := h n (by omega) (by omega)
      rw [h2, Nat.mul_right_comm, h1, Nat.mul_right_comm]
theorem Pr_zero {n i : Nat} {f : Nat → Nat} (hi : i < n) (h : f i = 0) : Pr n f = 0 := by
  induction n with
  | zero => omega
  | succ n ih =>
    simp only [Pr]
    by_cases e : i = n
    · subst e; rw [h, Nat.mul_zero]
    · rw [ih (by omega), Nat.zero_mul]
theorem Pr_pos {n : Nat} {f : Nat → Nat} (h : ∀ i, i < n → 0 < f i) : 0 < Pr n f := by
  induction n with
  | zero => simp [Pr]
  | succ n ih => exact Nat.mul_pos (ih fun i hi => h i (by omega)) (h n (by omega))
theorem Pr_one {n : Nat} {f : Nat → Nat} (h : ∀ i, i < n → f i = 1) : Pr n f = 1 := by
  induction n with
  | zero => rfl
  | succ n ih => simp only [Pr]; rw [ih fun i hi => h i (by omega), h n (by omega)]
theorem S_comm {n m : Nat} {f : Nat → Nat → Nat} : S n (fun i => S m (fun j => f i j)) = S m (fun j => S n (fun i => f i j)) := by
  induction n with
  | zero => simp only [S]; rw [S_zero]
  | succ n ih => simp only [S]; rw [ih, ← S_add]
theorem S_single {n k : Nat} {f : Nat → Nat} (hk : k < n) : S n (fun i => if i = k then f i else 0) = f k := by
  have := S_upd (n := n) (i := k) (f := fun _ => 0) (g := fun i => if i = k then f i else 0) hk (fun j _ h => by simp [h])
  rw [S_zero] at this
  simpa using this
theorem S_single' {n k : Nat} {f : Nat → Nat} (hk : k < n) : S n (fun i => if k = i then f i else 0) = f k := by
  rw [← S_single (f := f) hk]; exact S_congr fun i _ => by simp [eq_comm]
/-- group by label -/
theorem S_group {n : Nat} {l : Nat → Nat} {f : Nat → Nat} (h : ∀ i, i < n → l i < n) : S n (fun r => S n (fun i => if l i = r then f i else 0)) = S n f := by
  rw [S_comm]
  refine S_congr fun i hi => ?_
  exact S_single' (n := n) (k := l i) (f := fun _ => f i) (h i hi)
theorem S_list {n : Nat} {f : Nat → Nat} : ((List.range n).map f).sum = S n f := by
  induction n with
  | zero => rfl
  | succ n ih => simp only [S, List.range_succ, List.map_append, List.sum_append, ih]; simp
theorem S_filter {n : Nat} {p : Nat → Bool} {f : Nat → Nat} : (((List.range n).filter p).map f).sum = S n (fun i => if p i then f i else 0) := by
  induction n with
  | zero => rfl
  | succ n ih =>
    simp only [S, List.range_succ, List.filter_append, List.map_append, List.sum_append, ih]
    cases h : p n <;> simp [h]
theorem S_count {n : Nat} {p : Nat → Bool} : ((List.range n).filter p).length = S n (fun i => if p i then 1 else 0) := by
  induction n with
  | zero => rfl
  | succ n ih =>
    simp only [S, List.range_succ, List.filter_append, List.length_append, ih]
    cases h : p n <;> simp [h]

/-! ### factorials, choices -/
def fact : Nat → Nat
  | 0 => 1
  | n + 1 => (n + 1) * fact n
theorem fact_pos : ∀ n, 0 < fact n
  | 0 => Nat.one_pos
  | n + 1 => Nat.mul_pos (Nat.succ_pos n) (fact_pos n)
theorem fact_pred {n : Nat} (h : 1 ≤ n) : fact n = n * fact (n - 1) := by
  cases n with
  | zero => omega
  | succ n => rfl
def ch : Nat → Nat → Nat
  | _, 0 => 1
  | 0, _ + 1 => 0
  | n + 1, k + 1 => ch n k + ch n (k + 1)
theorem ch_zero (n : Nat) : ch n 0 = 1 := by cases n <;> rfl
theorem ch_out : ∀ {n k : Nat}, n < k → ch n k = 0
  | _, 0, h => by omega
  | 0, _ + 1, _ => rfl
  | n + 1, k + 1, h => by simp only [ch]; rw [ch_out (n := n) (k := k) (by omega), ch_out (n := n) (k := k + 1) (by omega)]
theorem ch_pos : ∀ {n k : Nat}, k ≤ n → 0 < ch n k
  | n, 0, _ => by rw [ch_zero]; exact Nat.one_pos
  | 0, k + 1, h => by omega
  | n + 1, k + 1, h => by simp only [ch]; have := ch_pos (n := n) (k := k) (by omega); omega
theorem ch_self : ∀ n, ch n n = 1
  | 0 => rfl
  | n + 1 => by simp only [ch]; rw [ch_self n, ch_out (n := n) (k := n + 1) (by omega)]
/-- the next one in a row -/
theorem ch_next : ∀ (n k : Nat), k ≤ n → ch n (k + 1) * (k + 1) = ch n k * (n - k)
  | 0, 0, _ => rfl
  | 0, k + 1, h => by omega
  | n + 1, 0, _ => by
    simp only [ch]
    have := ch_next n 0 (by omega)
    rw [ch_zero] at this
    have h1 : ch n (0 + 1) = n := by simpa using this
    rw [h1]; try rw [ch_zero]
    omega
  | n + 1, k + 1, h => by
    have e1 : ch (n + 1) (k + 1 + 1) = ch n (k + 1) + ch n (k + 1 + 1) := rfl
    have e2 : ch (n + 1) (k + 1) = ch n k + ch n (k + 1) := rfl
    by_cases hk : k = n
    · subst hk
      rw [ch_out (n := k + 1) (k := k + 1 + 1) (by omega)]
      simp
    · have h1 := ch_next n k (by omega)
      have h2 := ch_next n (k + 1) (by omega)
      rw [e1, e2]
      have e3 : n + 1 - (k + 1) = (n - (k + 1)) + 1 := by omega
      have e4 : n - k = (n - (k + 1)) + 1 := by omega
      rw [e3]
      rw [e4] at h1
      generalize n - (k + 1) = m at *
      generalize ch n (k + 1) = X at *
      generalize ch n (k + 1 + 1) = Y at *
      generalize ch n k = Z at *
      have : Y * (k + 1 + 1) = X * m := h2
      calc (X + Y) * (k + 1 + 1) = X * (k + 1) + X + Y * (k + 1 + 1) := by rw [Nat.add_mul, Nat.mul_succ X]
        _ = Z * (m + 1) + X + X * m := by rw [h1, this]
        _ = (Z + X) * (m + 1) := by rw [Nat.add_mul, Nat.mul_succ X]; omega
theorem ch_fact : ∀ (b c : Nat), ch (b + c) b * fact b * fact c = fact (b + c)
  | 0, c => by simp [ch_zero, fact]
  | b + 1, 0 => by
    have := ch_self (b + 1)
    simp only [Nat.add_zero]
    rw [this]; simp [fact]
  | b + 1, c + 1 => by
    have h1 := ch_fact b (c + 1)
    have h2 := ch_fact (b + 1) c
    have e : b + 1 + (c + 1) = (b + (c + 1)) + 1 := by omega
    have e' : b + 1 + c = b + (c + 1) := by omega
    rw [e] at *
    rw [e'] at h2
    have e1 : ch (b + (c + 1) + 1) (b + 1) = ch (b + (c + 1)) b + ch (b + (c + 1)) (b + 1) := rfl
    rw [e1]
    have f1 : fact (b + 1) = (b + 1) * fact b := rfl
    have f2 : fact (c + 1) = (c + 1) * fact c := rfl
    have f3 : fact (b + (c + 1) + 1) = (b + (c + 1) + 1) * fact (b + (c + 1)) := rfl
    rw [f3, Nat.add_mul, Nat.add_mul]
    have a1 : ch (b + (c + 1)) b * fact (b + 1) * fact (c + 1) = (b + 1) * fact (b + (c + 1)) := by
      rw [← h1, f1]
      simp only [Nat.mul_assoc, Nat.mul_comm, Nat.mul_left_comm]
    have a2 : ch (b + (c + 1)) (b + 1) * fact (b + 1) * fact (c + 1) = (c + 1) * fact (b + (c + 1)) := by
      rw [← h2, f2]
      simp only [Nat.mul_assoc, Nat.mul_comm, Nat.mul_left_comm]
    rw [a1, a2, ← Nat.add_mul]
    congr 1
    omega
theorem ch_symm {n k : Nat} (h : k ≤ n) : ch n (n - k) = ch n k := by
  have h1 := ch_fact k (n - k)
  have h2 := ch_fact (n - k) k
  rw [show k + (n - k) = n by omega] at h1
  rw [show n - k + k = n by omega] at h2
  have h3 : ch n (n - k) * (fact k * fact (n - k)) = ch n k * (fact k * fact (n - k)) := by
    rw [← Nat.mul_assoc, ← Nat.mul_assoc, h1, Nat.mul_right_comm, h2]
  exact Nat.eq_of_mul_eq_mul_right (Nat.mul_pos (fact_pos _) (fact_pos _)) h3
/-- one turn of the loop that reckons choices -/
theorem ch_turn {n k : Nat} (h : k ≤ n) : ch n k * (n - k) / (k + 1) = ch n (k + 1) := by
  rw [← ch_next n k h]
  exact Nat.mul_div_cancel _ (Nat.succ_pos k)

/-! ### fractions -/
def low (t b : Nat) : Nat × Nat := (t / Nat.gcd t b, b / Nat.gcd t b)
theorem low_eq {t b t' b' : Nat} (hb : 0 < b) (hb' : 0 < b') (h : t * b' = t' * b) : low t b = low t' b' := by
  have hg : 0 < Nat.gcd t b := Nat.gcd_pos_of_pos_right _ hb
  have hg' : 0 < Nat.gcd t' b' := Nat.gcd_pos_of_pos_right _ hb'
  obtain ⟨g, x, y, hg0, hc, ex, ey⟩ := Nat.exists_coprime' (m := t) (n := b) hg
  obtain ⟨g', x', y', hg0', hc', ex', ey'⟩ := Nat.exists_coprime' (m := t') (n := b') hg'
  subst ex; subst ey; subst ex'; subst ey'
  have e1 : Nat.gcd (x * g) (y * g) = g := by rw [Nat.gcd_mul_right, hc, Nat.one_mul]
  have e2 : Nat.gcd (x' * g') (y' * g') = g' := by rw [Nat.gcd_mul_right, hc', Nat.one_mul]
  unfold low
  rw [e1, e2, Nat.mul_div_cancel _ hg0, Nat.mul_div_cancel _ hg0, Nat.mul_div_cancel _ hg0', Nat.mul_div_cancel _ hg0']
  have e3 : x * y' = x' * y := by
    have : (x * y') * (g * g') = (x' * y) * (g * g') := by
      calc (x * y') * (g * g') = x * g * (y' * g') := by simp only [Nat.mul_assoc, Nat.mul_comm, Nat.mul_left_comm]
        _ = x' * g' * (y * g) := h
        _ = (x' * y) * (g * g') := by simp only [Nat.mul_assoc, Nat.mul_comm, Nat.mul_left_comm]
    exact Nat.eq_of_mul_eq_mul_right (Nat.mul_pos hg0 hg0') this
  have d1 : y ∣ y' := by
    have : y ∣ x * y' := ⟨x', by rw [e3, Nat.mul_comm]⟩
    exact Nat.Coprime.dvd_of_dvd_mul_left (Nat.Coprime.symm hc) this
  have d2 : y' ∣ y := by
    have : y' ∣ x' * y := ⟨x, by rw [← e3, Nat.mul_comm]⟩
    exact Nat.Coprime.dvd_of_dvd_mul_left (Nat.Coprime.symm hc') this
  have e4 : y = y' := Nat.dvd_antisymm d1 d2
  subst e4
  have hy : 0 < y := by
    rcases Nat.eq_zero_or_pos y with e | e
    · subst e; simp at hb
    · exact e
  have e5 : x = x' := Nat.eq_of_mul_eq_mul_right hy e3
  rw [e5]
theorem low_self {t : Nat} (h : 0 < t) : low t t = (1, 1) := by
  unfold low
  rw [Nat.gcd_self, Nat.div_self h]
end Pn
end
section
/-! Nets by leaf removal: degrees, connections, bridges. -/
set_option linter.all false
namespace Pn
abbrev Cab := Nat × Nat
def up (d : Nat → Nat) (i x : Nat) : Nat → Nat := fun j => if j = i then x else d j
theorem up_same {d : Nat → Nat} {i x : Nat} : up d i x i = x := by simp [up]
theorem up_ne {d : Nat → Nat} {i j x : Nat} (h : j ≠ i) : up d i x j = d j := by simp [up, h]
def hang (d : Nat → Nat) (v u : Nat) : Nat → Nat := up (up d v 0) u (d u - 1)
theorem hang_v {d : Nat → Nat} {v u : Nat} (h : u ≠ v) : hang d v u v = 0 := by
  unfold hang; rw [up_ne (Ne.symm h), up_same]
theorem hang_u {d : Nat → Nat} {v u : Nat} : hang d v u u = d u - 1 := by
  unfold hang; rw [up_same]
theorem hang_o {d : Nat → Nat} {v u x : Nat} (h1 : x ≠ v) (h2 : x ≠ u) : hang d v u x = d x := by
  unfold hang; rw [up_ne h2, up_ne h1]
def cab (u v : Nat) : Cab := (min u v, max u v)
def tch (c : Cab) (x : Nat) : Bool := c.1 == x || c.2 == x
def deg (L : List Cab) (x : Nat) : Nat := L.countP (fun c => tch c x)
theorem tch_iff {c : Cab} {x : Nat} : tch c x = true ↔ c.1 = x ∨ c.2 = x := by simp [tch]
theorem tch_cab {u v x : Nat} : tch (cab u v) x = true ↔ x = u ∨ x = v := by
  rw [tch_iff]; unfold cab
  simp only []
  omega
theorem cab_eq {u v : Nat} {c : Cab} (h : c.1 < c.2) (hu : tch c u = true) (hv : tch c v = true) (hne : u ≠ v) : c = cab u v := by
  rw [tch_iff] at hu hv
  obtain ⟨a, b⟩ := c
  unfold cab
  simp only [Prod.mk.injEq] at *
  omega
theorem deg_nil {x : Nat} : deg [] x = 0 := rfl
theorem deg_cons {c : Cab} {L : List Cab} {x : Nat} : deg (c :: L) x = deg L x + (if tch c x then 1 else 0) := by
  unfold deg; rw [List.countP_cons]
theorem deg_perm {L M : List Cab} (h : L.Perm M) (x : Nat) : deg L x = deg M x := h.countP_eq _
theorem deg_pos {L : List Cab} {x : Nat} : 0 < deg L x ↔ ∃ c ∈ L, tch c x = true := by
  unfold deg; rw [List.countP_pos_iff]
theorem deg_zero {L : List Cab} {x : Nat} : deg L x = 0 ↔ ∀ c ∈ L, tch c x = false := by
  unfold deg; rw [List.countP_eq_zero]; simp
theorem deg_erase {L : List Cab} {c : Cab} (h : c ∈ L) (x : Nat) : deg (L.erase c) x + (if tch c x then 1 else 0) = deg L x := by
  have := deg_perm (List.perm_cons_erase h) x
  rw [this, deg_cons]

/-- cables without a copy, all among others: they are counted no more than those -/
theorem countP_sub {p : Cab → Bool} : ∀ {L N : List Cab}, L.Nodup → (∀ c ∈ L, c ∈ N) → L.countP p ≤ N.countP p
  | [], N, _, _ => by simp
  | c :: L, N, hn, hs => by
    have hc : c ∈ N := hs c (by simp)
    have hn' := List.nodup_cons.mp hn
    have h1 : ∀ x ∈ L, x ∈ N.erase c := fun x hx => by
      rw [List.mem_erase_of_ne (by rintro rfl; exact hn'.1 hx)]
      exact hs x (by simp [hx])
    have ih := countP_sub (p := p) hn'.2 h1
    have hp := (List.perm_cons_erase hc).countP_eq p
    rw [hp, List.countP_cons, List.countP_cons]
    omega
theorem length_sub {L N : List Cab} (hn : L.Nodup) (hs : ∀ c ∈ L, c ∈ N) : L.length ≤ N.length := by
  have := countP_sub (p := fun _ => true) hn hs
  simpa using this

/-! ### hanging together -/
inductive Conn (L : List Cab) : Nat → Nat → Prop
  | refl (x : Nat) : Conn L x x
  | cable {c : Cab} : c ∈ L → Conn L c.1 c.2
  | symm {x y : Nat} : Conn L x y → Conn L y x
  | trans {x y z : Nat} : Conn L x y → Conn L y z → Conn L x z
theorem Conn.mono {L M : List Cab} (h : ∀ c ∈ L, c ∈ M) {x y : Nat} (k : Conn L x y) : Conn M x y := by
  induction k with
  | refl x => exact .refl x
  | cable hc => exact .cable (h _ hc)
  | symm _ ih => exact ih.symm
  | trans _ _ i1 i2 => exact i1.trans i2
/-- what every cable keeps -/
theorem Conn.keep {L : List Cab} {p : Nat → Prop} (h : ∀ c ∈ L, (p c.1 ↔ p c.2)) {x y : Nat} (k : Conn L x y) : p x ↔ p y := by
  induction k with
  | refl x => exact Iff.rfl
  | cable hc => exact h _ hc
  | symm _ ih => exact ih.symm
  | trans _ _ i1 i2 => exact i1.trans i2
theorem Conn.same {L : List Cab} {l : Nat → Nat} (h : ∀ c ∈ L, l c.1 = l c.2) {x y : Nat} (k : Conn L x y) : l x = l y := by
  induction k with
  | refl x => rfl
  | cable hc => exact h _ hc
  | symm _ ih => exact ih.symm
  | trans _ _ i1 i2 => exact i1.trans i2
theorem Conn.cab {L : List Cab} {u v : Nat} (h : cab u v ∈ L) : Conn L u v := by
  have := Conn.cable h
  unfold Pn.cab at this
  rcases Nat.le_total u v with e | e
  · rwa [show min u v = u by omega, show max u v = v by omega] at this
  · rw [show min u v = v by omega, show max u v = u by omega] at this
    exact this.symm
/-- a leaf v at u is drawn in -/
theorem Conn.pull {L M : List Cab} {v u : Nat} (h : ∀ c ∈ L, tch c v = true → c = Pn.cab v u) (hM : ∀ c ∈ L, tch c v = false → c ∈ M) {x y : Nat} (k : Conn L x y) :
    Conn M (if x = v then u else x) (if y = v then u else y) := by
  induction k with
  | refl x => exact .refl _
  | @cable c hc =>
    cases ht : tch c v with
    | false =>
      have h1 : c.1 ≠ v := fun e => by rw [(tch_iff (c := c) (x := v)).mpr (Or.inl e)] at ht; cases ht
      have h2 : c.2 ≠ v := fun e => by rw [(tch_iff (c := c) (x := v)).mpr (Or.inr e)] at ht; cases ht
      rw [if_neg h1, if_neg h2]
      exact .cable (hM c hc ht)
    | true =>
      have e := h c hc ht
      have e2 : (c.1 = v ∧ c.2 = u) ∨ (c.1 = u ∧ c.2 = v) := by
        rw [e]; unfold Pn.cab; simp only []; omega
      rcases e2 with ⟨a, b⟩ | ⟨a, b⟩
      · rw [a, b, if_pos rfl]
        split
        · exact .refl _
        · exact .refl _
      · rw [a, b, if_pos rfl]
        split
        · exact .refl _
        · exact .refl _
  | symm _ ih => exact ih.symm
  | trans _ _ i1 i2 => exact i1.trans i2

/-! ### nets -/
inductive Nt (n : Nat) : (Nat → Nat) → List Cab → Prop
  | base {d : Nat → Nat} {i j : Nat} : i < j → j < n → d i = 1 → d j = 1 → (∀ x, x < n → x ≠ i → x ≠ j → d x = 0) → Nt n d [(i, j)]
  | step {d : Nat → Nat} {v u : Nat} {N : List Cab} : v < n → u < n → d v = 1 → 2 ≤ d u → Nt n (hang d v u) N → Nt n d (cab v u :: N)
section
variable {n : Nat} {d : Nat → Nat} {N : List Cab}
theorem Nt.mem (h : Nt n d N) : ∀ c ∈ N, c.1 < c.2 ∧ c.2 < n ∧ 1 ≤ d c.1 ∧ 1 ≤ d c.2 := by
  induction h with
  | base h1 h2 h3 h4 h5 => intro c hc; simp at hc; subst hc; exact ⟨h1, h2, by simp [h3], by simp [h4]⟩
  | @step d v u N hv hu dv du _ ih =>
    have hne : u ≠ v := by rintro rfl; omega
    intro c hc
    rcases List.mem_cons.mp hc with rfl | hc
    · unfold cab
      simp only []
      refine ⟨by omega, by omega, ?_, ?_⟩
      · rcases Nat.le_total v u with e | e
        · rw [show min v u = v by omega]; omega
        · rw [show min v u = u by omega]; omega
      · rcases Nat.le_total v u with e | e
        · rw [show max v u = u by omega]; omega
        · rw [show max v u = v by omega]; omega
    · obtain ⟨a, b, e, f⟩ := ih c hc
      have g : ∀ x, 1 ≤ hang d v u x → 1 ≤ d x := fun x hx => by
        by_cases e1 : x = v
        · subst e1; rw [hang_v hne] at hx; omega
        · by_cases e2 : x = u
          · subst e2; omega
          · rwa [hang_o e1 e2] at hx
      exact ⟨a, b, g _ e, g _ f⟩
theorem Nt.deg (h : Nt n d N) : ∀ x, x < n → deg N x = d x := by
  induction h with
  | @base d i j h1 h2 h3 h4 h5 =>
    intro x hx
    rw [deg_cons, deg_nil]
    by_cases e1 : x = i
    · subst e1; rw [if_pos (tch_iff.mpr (Or.inl rfl)), h3]
    · by_cases e2 : x = j
      · subst e2; rw [if_pos (tch_iff.mpr (Or.inr rfl)), h4]
      · rw [if_neg (fun q => by rcases tch_iff.mp q with q | q <;> simp at q <;> omega), h5 x hx e1 e2]
  | @step d v u N hv hu dv du _ ih =>
    have hne : u ≠ v := by rintro rfl; omega
    intro x hx
    rw [deg_cons, ih x hx]
    by_cases e1 : x = v
    · subst e1; rw [hang_v hne, if_pos (tch_cab.mpr (Or.inl rfl)), dv]
    · by_cases e2 : x = u
      · subst e2; rw [hang_u, if_pos (tch_cab.mpr (Or.inr rfl))]; omega
      · rw [hang_o e1 e2, if_neg (fun q => by rcases tch_cab.mp q with q | q <;> omega)]; rfl
/-- no cable behind a hung leaf touches it -/
theorem Nt.not_tch {v u : Nat} (hne : u ≠ v) (h : Nt n (hang d v u) N) : ∀ c ∈ N, tch c v = false := fun c hc => by
  obtain ⟨_, _, a, b⟩ := h.mem c hc
  cases ht : tch c v with
  | false => rfl
  | true =>
    rcases tch_iff.mp ht with e | e
    · rw [e, hang_v hne] at a; omega
    · rw [e, hang_v hne] at b; omega
theorem Nt.nodup (h : Nt n d N) : N.Nodup := by
  induction h with
  | base => simp
  | @step d v u N hv hu dv du hN ih =>
    have hne : u ≠ v := by rintro rfl; omega
    refine List.nodup_cons.mpr ⟨fun hc => ?_, ih⟩
    have := hN.not_tch hne _ hc
    rw [tch_cab.mpr (Or.inl rfl)] at this
    cases this
theorem Nt.conn (h : Nt n d N) : ∀ x y, x < n → y < n → 1 ≤ d x → 1 ≤ d y → Conn N x y := by
  induction h with
  | @base d i j h1 h2 h3 h4 h5 =>
    have hc : Conn [(i, j)] i j := Conn.cable (c := (i, j)) (by simp)
    have key : ∀ x, x < n → 1 ≤ d x → Conn [(i, j)] i x := fun x hx hd => by
      by_cases e1 : x = i
      · subst e1; exact .refl _
      · by_cases e2 : x = j
        · subst e2; exact hc
        · rw [h5 x hx e1 e2] at hd; omega
    intro x y hx hy dx dy
    exact (key x hx dx).symm.trans (key y hy dy)
  | @step d v u N hv hu dv du hN ih =>
    have hne : u ≠ v := by rintro rfl; omega
    have hc : Conn (Pn.cab v u :: N) v u := Conn.cab (by simp)
    have du' : 1 ≤ hang d v u u := by rw [hang_u]; omega
    have key : ∀ x, x < n → 1 ≤ d x → Conn (Pn.cab v u :: N) u x := fun x hx dx => by
      by_cases e1 : x = v
      · subst e1; exact hc.symm
      · have : 1 ≤ hang d v u x := by
          by_cases e2 : x = u
          · subst e2; exact du'
          · rwa [hang_o e1 e2]
        exact (ih u x hu hx du' this).mono fun c hc => by simp [hc]
    intro x y hx hy dx dy
    exact (key x hx dx).symm.trans (key y hy dy)
/-- a cable's ends do not hang together by other cables -/
theorem Nt.bridge (h : Nt n d N) : ∀ (L : List Cab) (c : Cab), c ∈ N → c ∉ L → (∀ e ∈ L, e ∈ N) → ¬ Conn L c.1 c.2 := by
  induction h with
  | @base d i j h1 h2 h3 h4 h5 =>
    intro L c hc hn hs hk
    simp at hc; subst hc
    have : L = [] := by
      cases L with
      | nil => rfl
      | cons e L =>
        have := hs e (by simp)
        simp at this; subst this
        simp at hn
    subst this
    have := Conn.same (l := id) (L := []) (fun c hc => by simp at hc) hk
    simp at this; omega
  | @step d v u N hv hu dv du hN ih =>
    have hne : u ≠ v := by rintro rfl; omega
    intro L c hc hn hs hk
    have htc : ∀ e ∈ L, tch e v = true → e = Pn.cab v u := fun e he ht => by
      rcases List.mem_cons.mp (hs e he) with q | q
      · exact q
      · rw [hN.not_tch hne e q] at ht; cases ht
    rcases List.mem_cons.mp hc with rfl | hc
    · -- the leaf's own cable
      have h0 : ∀ e ∈ L, tch e v = false := fun e he => by
        cases ht : tch e v with
        | false => rfl
        | true => have := htc e he ht; subst this; exact absurd he hn
      have hk' : Conn L v u := by
        unfold Pn.cab at hk
        rcases Nat.le_total v u with e | e
        · simp only [show min v u = v by omega, show max v u = u by omega] at hk; exact hk
        · simp only [show min v u = u by omega, show max v u = v by omega] at hk; exact hk.symm
      have := hk'.keep (p := fun x => x = v) fun e he => by
        have := h0 e he
        have a1 : e.1 ≠ v := fun q => by rw [tch_iff.mpr (Or.inl q)] at this; cases this
        have a2 : e.2 ≠ v := fun q => by rw [tch_iff.mpr (Or.inr q)] at this; cases this
        simp [a1, a2]
      simp at this
      exact hne this
    · have ht := hN.not_tch hne c hc
      have a1 : c.1 ≠ v := fun q => by rw [tch_iff.mpr (Or.inl q)] at ht; cases ht
      have a2 : c.2 ≠ v := fun q => by rw [tch_iff.mpr (Or.inr q)] at ht; cases ht
      have k2 := Conn.pull (M := L.filter fun e => !tch e v) htc (fun e he hf => by simp [he, hf]) hk
      rw [if_neg a1, if_neg a2] at k2
      refine ih _ c hc (fun q => hn (List.mem_filter.mp q).1) (fun e he => ?_) k2
      have h1 := List.mem_filter.mp he
      rcases List.mem_cons.mp (hs e h1.1) with q | q
      · subst q
        have := h1.2
        rw [tch_cab.mpr (Or.inl rfl)] at this
        cases this
      · exact q
/-- devices that are left -/
def al (d : Nat → Nat) (x : Nat) : Nat := if d x = 0 then 0 else 1
theorem al_hang {v u : Nat} (hv : v < n) (hu : u < n) (dv : d v = 1) (du : 2 ≤ d u) : S n (al (hang d v u)) + 1 = S n (al d) := by
  have hne : u ≠ v := by rintro rfl; omega
  have := S_upd (n := n) (i := v) (f := al d) (g := al (hang d v u)) hv fun j hj hjv => by
    unfold al
    by_cases e : j = u
    · subst e
      rw [hang_u, if_neg (by omega), if_neg (by omega)]
    · rw [hang_o hjv e]
  have e1 : al d v = 1 := by unfold al; rw [dv]; rfl
  have e2 : al (hang d v u) v = 0 := by unfold al; rw [hang_v hne]; rfl
  omega
theorem sum_hang {v u : Nat} (hv : v < n) (hu : u < n) (dv : d v = 1) (du : 2 ≤ d u) : S n (hang d v u) + 2 = S n d := by
  have hne : u ≠ v := by rintro rfl; omega
  have h1 := S_upd (n := n) (i := v) (f := d) (g := up d v 0) hv fun j hj hjv => up_ne hjv
  have h2 := S_upd (n := n) (i := u) (f := up d v 0) (g := hang d v u) hu fun j hj hju => by unfold hang; rw [up_ne hju]
  rw [up_same] at h1
  rw [up_ne hne, hang_u] at h2
  omega
theorem Nt.len (h : Nt n d N) : S n (al d) = N.length + 1 := by
  induction h with
  | @base d i j h1 h2 h3 h4 h5 =>
    have a1 := S_upd (n := n) (i := i) (f := al d) (g := up (al d) i 0) (by omega) fun k hk hki => up_ne hki
    have a2 := S_upd (n := n) (i := j) (f := up (al d) i 0) (g := up (up (al d) i 0) j 0) (by omega) fun k hk hki => up_ne hki
    rw [up_same] at a1 a2
    rw [up_ne (by omega)] at a2
    have a3 : S n (up (up (al d) i 0) j 0) = 0 := S_zero' fun k hk => by
      by_cases e2 : k = j
      · subst e2; rw [up_same]
      · rw [up_ne e2]
        by_cases e1 : k = i
        · subst e1; rw [up_same]
        · rw [up_ne e1]; unfold al; rw [h5 k hk e1 e2]; rfl
    have b1 : al d i = 1 := by unfold al; rw [h3]; rfl
    have b2 : al d j = 1 := by unfold al; rw [h4]; rfl
    simp only [List.length_cons, List.length_nil]
    omega
  | @step d v u N hv hu dv du hN ih =>
    have := al_hang hv hu dv du
    simp only [List.length_cons]
    omega
end
end Pn
end
section
/-! All nets of given numbers, by the least end; what they have in common. -/
set_option linter.all false
namespace Pn
/-- the first place from lo on, of the next f ones, where p holds -/
def lst (p : Nat → Bool) (lo : Nat) : Nat → Nat
  | 0 => lo
  | f + 1 => if p lo then lo else lst p (lo + 1) f
theorem lst_spec {p : Nat → Bool} : ∀ (f lo x : Nat), lo ≤ x → x < lo + f → p x = true → p (lst p lo f) = true ∧ lo ≤ lst p lo f ∧ lst p lo f ≤ x ∧ ∀ y, lo ≤ y → y < lst p lo f → p y = false
  | 0, lo, x, h1, h2, _ => by omega
  | f + 1, lo, x, h1, h2, h3 => by
    unfold lst
    cases h : p lo with
    | true => simp only [if_true]; exact ⟨h, Nat.le_refl _, h1, fun y a b => by omega⟩
    | false =>
      have hne : lo ≠ x := by rintro rfl; rw [h] at h3; cases h3
      obtain ⟨a, b, c, e⟩ := lst_spec f (lo + 1) x (by omega) (by omega) h3
      simp only [Bool.false_eq_true, if_false]
      refine ⟨a, by omega, c, fun y hy1 hy2 => ?_⟩
      by_cases q : y = lo
      · subst q; exact h
      · exact e y (by omega) hy2
def fi (n : Nat) (d : Nat → Nat) : Nat := lst (fun x => d x == 1) 0 n
def se (n : Nat) (d : Nat → Nat) : Nat := lst (fun x => d x == 1) (fi n d + 1) (n - (fi n d + 1))

structure Stt (n k : Nat) (d : Nat → Nat) : Prop where
  alive : S n (al d) = k + 2
  sum : S n d = 2 * (k + 1)
section
variable {n k : Nat} {d : Nat → Nat}
theorem al_one {x : Nat} (h : d x ≠ 0) : al d x = 1 := by unfold al; rw [if_neg h]
theorem Stt.ones (h : Stt n k d) : ∃ v, v < n ∧ d v = 1 := by
  apply Classical.byContradiction
  intro hc
  have : S n (fun x => 2 * al d x) ≤ S n d := S_le fun i hi => by
    unfold al
    by_cases e : d i = 0
    · simp [e]
    · have : d i ≠ 1 := fun q => hc ⟨i, hi, q⟩
      rw [if_neg e]; omega
  rw [S_mul, h.alive, h.sum] at this
  omega
theorem Stt.fsp (h : Stt n k d) : fi n d < n ∧ d (fi n d) = 1 ∧ ∀ y, y < Pn.fi n d → d y ≠ 1 := by
  obtain ⟨v, hv, dv⟩ := h.ones
  obtain ⟨a, b, c, e⟩ := lst_spec (p := fun x => d x == 1) n 0 v (by omega) (by omega) (by simpa using dv)
  refine ⟨by unfold Pn.fi; omega, beq_iff_eq.mp a, fun y hy => ?_⟩
  have := e y (by omega) hy
  simpa using this
theorem Stt.hang {v u : Nat} (h : Stt n (k + 1) d) (hv : v < n) (hu : u < n) (dv : d v = 1) (du : 2 ≤ d u) : Stt n k (hang d v u) := by
  have a := al_hang hv hu dv du
  have b := sum_hang hv hu dv du
  exact ⟨by have := h.alive; omega, by have := h.sum; omega⟩
/-- two devices are left -/
theorem Stt.two (h : Stt n 0 d) : fi n d < se n d ∧ se n d < n ∧ d (fi n d) = 1 ∧ d (se n d) = 1 ∧ ∀ x, x < n → x ≠ fi n d → x ≠ se n d → d x = 0 := by
  obtain ⟨h1, h2, h3⟩ := h.fsp
  have e1 : al d (Pn.fi n d) = 1 := al_one (by omega)
  have a1 := S_upd (n := n) (i := Pn.fi n d) (f := al d) (g := up (al d) (Pn.fi n d) 0) h1 fun k hk hki => up_ne hki
  rw [up_same, h.alive] at a1
  obtain ⟨j, hj, pj⟩ := S_pos (n := n) (f := up (al d) (Pn.fi n d) 0) (by omega)
  have hne : j ≠ Pn.fi n d := by rintro rfl; rw [up_same] at pj; omega
  rw [up_ne hne] at pj
  have dj0 : d j ≠ 0 := fun q => by unfold al at pj; rw [if_pos q] at pj; omega
  have s2 := S_ge2 (f := d) h1 hj (Ne.symm hne)
  rw [h.sum] at s2
  have dj : d j = 1 := by omega
  have hlt : Pn.fi n d < j := by
    rcases Nat.lt_or_ge j (Pn.fi n d) with q | q
    · exact absurd dj (h3 j q)
    · omega
  obtain ⟨a, b, c, e⟩ := lst_spec (p := fun x => d x == 1) (n - (Pn.fi n d + 1)) (Pn.fi n d + 1) j (by omega) (by omega) (by simpa using dj)
  have c' : se n d ≤ j := c
  have b' : Pn.fi n d + 1 ≤ se n d := b
  have ds : d (se n d) = 1 := beq_iff_eq.mp a
  refine ⟨b', by omega, h2, ds, fun x hx x1 x2 => ?_⟩
  apply Classical.byContradiction
  intro q
  have := S_ge3 (f := al d) h1 (show se n d < n by omega) hx (by omega) (Ne.symm x1) (Ne.symm x2)
  rw [h.alive, e1, al_one q, al_one (show d (se n d) ≠ 0 by omega)] at this
  omega

/-- all nets -/
def nets (n : Nat) : Nat → (Nat → Nat) → List (List Cab)
  | 0, d => [[(fi n d, se n d)]]
  | k + 1, d => ((List.range n).filter fun u => decide (2 ≤ d u)).flatMap fun u => (nets n k (Pn.hang d (fi n d) u)).map (cab (fi n d) u :: ·)
theorem nets_nt : ∀ (k : Nat) {d : Nat → Nat}, Stt n k d → ∀ N ∈ nets n k d, Nt n d N
  | 0, d, h, N, hN => by
    obtain ⟨a, b, c, e, f⟩ := h.two
    simp only [nets, List.mem_singleton] at hN
    subst hN
    exact .base a b c e f
  | k + 1, d, h, N, hN => by
    obtain ⟨h1, h2, h3⟩ := h.fsp
    simp only [nets, List.mem_flatMap, List.mem_filter, List.mem_range, decide_eq_true_eq, List.mem_map] at hN
    obtain ⟨u, ⟨hu, du⟩, M, hM, rfl⟩ := hN
    exact .step h1 hu h2 du (nets_nt k (h.hang h1 hu h2 du) M hM)
theorem count_step {k : Nat} {d : Nat → Nat} {p : List Cab → Bool} : (nets n (k + 1) d).countP p = S n (fun u => if 2 ≤ d u then (nets n k (Pn.hang d (fi n d) u)).countP (fun N => p (cab (fi n d) u :: N)) else 0) := by
  have e : nets n (k + 1) d = ((List.range n).filter fun u => decide (2 ≤ d u)).flatMap fun u => (nets n k (Pn.hang d (fi n d) u)).map (cab (fi n d) u :: ·) := rfl
  rw [e, List.countP_flatMap]
  have : (List.map (List.countP p ∘ fun u => List.map (fun x => cab (fi n d) u :: x) (nets n k (Pn.hang d (fi n d) u))) (List.filter (fun u => decide (2 ≤ d u)) (List.range n))).sum
      = (((List.range n).filter fun u => decide (2 ≤ d u)).map fun u => (nets n k (Pn.hang d (fi n d) u)).countP (fun N => p (cab (fi n d) u :: N))).sum := by
    congr 1
    refine List.map_congr_left fun u _ => ?_
    simp only [Function.comp, List.countP_map]
    rfl
  rw [this, S_filter]
  exact S_congr fun u _ => by simp
end

/-! ### parts by labels, open plugs -/
def A (n : Nat) (d l : Nat → Nat) (r : Nat) : Bool := (List.range n).any fun x => l x == r && d x != 0
theorem A_iff {n : Nat} {d l : Nat → Nat} {r : Nat} : A n d l r = true ↔ ∃ x, x < n ∧ l x = r ∧ d x ≠ 0 := by
  unfold A
  rw [List.any_eq_true]
  constructor
  · rintro ⟨x, hx, h⟩
    simp at h hx
    exact ⟨x, hx, h.1, h.2⟩
  · rintro ⟨x, hx, h1, h2⟩
    exact ⟨x, by simpa using hx, by simp [h1, h2]⟩
theorem A_false {n : Nat} {d l : Nat → Nat} {r : Nat} (h : A n d l r = false) {x : Nat} (hx : x < n) (hl : l x = r) : d x = 0 := by
  apply Classical.byContradiction
  intro q
  rw [A_iff.mpr ⟨x, hx, hl, q⟩] at h
  cases h
def op (d : Nat → Nat) (L : List Cab) (x : Nat) : Nat := d x - deg L x
def Po (n : Nat) (d : Nat → Nat) (L : List Cab) (l : Nat → Nat) (r : Nat) : Nat := S n fun x => if l x = r then op d L x else 0
def gA (n : Nat) (d : Nat → Nat) (L : List Cab) (l : Nat → Nat) (r : Nat) : Nat := if A n d l r then Po n d L l r else 1
def GG (n : Nat) (d : Nat → Nat) (L : List Cab) (l : Nat → Nat) : Nat := Pr n (gA n d L l)
def FF (n : Nat) (d : Nat → Nat) (L : List Cab) : Nat := Pr n fun x => fact (op d L x)
def cA (n : Nat) (d l : Nat → Nat) (s : Nat → Bool) : Nat := S n fun r => if A n d l r && s r then 1 else 0
def bA (n : Nat) (d : Nat → Nat) (L : List Cab) (l : Nat → Nat) (s : Nat → Bool) : Nat := S n fun r => if A n d l r && s r then Po n d L l r - 1 else 0
theorem FF_pos {n : Nat} {d : Nat → Nat} {L : List Cab} : 0 < FF n d L := Pr_pos fun _ _ => fact_pos _

structure Kn (n k : Nat) (d : Nat → Nat) (L : List Cab) (l : Nat → Nat) : Prop where
  st : Stt n k d
  mem : ∀ c ∈ L, c.1 < c.2 ∧ c.2 < n ∧ 1 ≤ d c.1 ∧ 1 ≤ d c.2 ∧ l c.1 = l c.2
  nd : L.Nodup
  dg : ∀ x, x < n → deg L x ≤ d x
  lb : ∀ x, x < n → l x < n
  cn : ∀ x y, x < n → y < n → 1 ≤ d x → 1 ≤ d y → l x = l y → Conn L x y
  ct : S n (fun r => if A n d l r then 1 else 0) + L.length = k + 2

section
variable {n k : Nat} {d l : Nat → Nat} {L : List Cab} {s : Nat → Bool}
theorem cA_two : cA n d l s + cA n d l (fun r => !s r) = S n (fun r => if A n d l r then 1 else 0) := by
  unfold cA
  rw [← S_add]
  exact S_congr fun r _ => by cases A n d l r <;> cases hs : s r <;> simp [hs]
theorem Po_dead {r : Nat} (h : A n d l r = false) : Po n d L l r = 0 := S_zero' fun x hx => by
  split
  · rename_i e
    unfold op
    rw [A_false h hx e]; omega
  · rfl
theorem deg_sum (h : ∀ c ∈ L, c.1 < c.2 ∧ c.2 < n) : S n (deg L) = 2 * L.length := by
  induction L with
  | nil => exact S_zero' fun _ _ => rfl
  | cons c L ih =>
    have h1 := ih fun c hc => h c (by simp [hc])
    have h2 := h c (by simp)
    have e : S n (deg (c :: L)) = S n (fun x => deg L x + ((if x = c.1 then 1 else 0) + (if x = c.2 then 1 else 0))) := S_congr fun x _ => by
      rw [deg_cons]
      have : tch c x = true ↔ x = c.1 ∨ x = c.2 := by rw [tch_iff]; constructor <;> (rintro (q | q) <;> simp [q])
      by_cases e1 : x = c.1
      · rw [if_pos (this.mpr (Or.inl e1)), if_pos e1, if_neg (by omega)]
      · by_cases e2 : x = c.2
        · rw [if_pos (this.mpr (Or.inr e2)), if_neg e1, if_pos e2]
        · rw [if_neg (fun q => (this.mp q).elim e1 e2), if_neg e1, if_neg e2]
    rw [e, S_add, S_add, h1, S_single (f := fun _ => 1) (by omega), S_single (f := fun _ => 1) h2.2, List.length_cons]
    omega
theorem Kn.opsum (h : Kn n k d L l) : S n (op d L) + 2 * L.length = 2 * (k + 1) := by
  rw [← h.st.sum, ← deg_sum (n := n) (L := L) fun c hc => ⟨(h.mem c hc).1, (h.mem c hc).2.1⟩, ← S_add]
  exact S_congr fun x hx => by
    have := h.dg x hx
    unfold op; omega
theorem Kn.posum (h : Kn n k d L l) : S n (Po n d L l) = S n (op d L) := S_group h.lb
/-- what is open beyond one plug a part -/
theorem Kn.free (h : Kn n k d L l) (hG : GG n d L l ≠ 0) : bA n d L l s + bA n d L l (fun r => !s r) + 2 = cA n d l s + cA n d l (fun r => !s r) := by
  have hp : ∀ r, r < n → A n d l r = true → 1 ≤ Po n d L l r := fun r hr ha => by
    rcases Nat.eq_zero_or_pos (Po n d L l r) with q | q
    · exact absurd (Pr_zero (f := gA n d L l) hr (by unfold gA; rw [if_pos ha]; exact q)) hG
    · exact q
  have e1 : bA n d L l s + bA n d L l (fun r => !s r) + S n (fun r => if A n d l r then 1 else 0) = S n (Po n d L l) := by
    unfold bA
    rw [← S_add, ← S_add]
    refine S_congr fun r hr => ?_
    cases ha : A n d l r with
    | true =>
      have := hp r hr ha
      cases hs : s r <;> simp [hs] <;> omega
    | false => rw [Po_dead ha]; simp
  rw [cA_two]
  have e2 := h.opsum
  have e3 := h.ct
  rw [h.posum] at e1
  omega

/-- new cables within: not known, both ends in parts that count -/
def nwp (L : List Cab) (l : Nat → Nat) (s : Nat → Bool) (c : Cab) : Bool := !L.contains c && s (l c.1) && s (l c.2)
def good (L : List Cab) (l : Nat → Nat) (s : Nat → Bool) (x : Nat) (N : List Cab) : Bool := L.all (fun c => N.contains c) && N.countP (nwp L l s) == x
theorem good_iff {x : Nat} {N : List Cab} : good L l s x N = true ↔ (∀ c ∈ L, c ∈ N) ∧ N.countP (nwp L l s) = x := by
  unfold good
  simp
/-- no net where a device has more known cables than its number -/
theorem none_over {x : Nat} (h : Stt n k d) (hn : L.Nodup) {u : Nat} (hu : u < n) (ho : d u < deg L u) : (nets n k d).countP (good L l s x) = 0 := by
  rw [List.countP_eq_zero]
  intro N hN hg
  have := countP_sub (p := fun c => tch c u) hn (good_iff.mp hg).1
  have e := (nets_nt k h N hN).deg u hu
  unfold deg at e ho
  omega
/-- what hangs together with a device that no cable touches -/
theorem conn_alone {v x : Nat} (hv : deg L v = 0) (k : Conn L v x) : x = v := by
  have := k.keep (p := fun y => y = v) fun c hc => by
    have := deg_zero.mp hv c hc
    have a1 : c.1 ≠ v := fun q => by rw [tch_iff.mpr (Or.inl q)] at this; cases this
    have a2 : c.2 ≠ v := fun q => by rw [tch_iff.mpr (Or.inr q)] at this; cases this
    simp [a1, a2]
  simpa using this
theorem Kn.alone (h : Kn n k d L l) {v x : Nat} (hv : v < n) (dv : d v ≠ 0) (h0 : deg L v = 0) (hx : x < n) (dx : d x ≠ 0) (e : l x = l v) : x = v :=
  conn_alone h0 (h.cn v x hv hx (by omega) (by omega) e.symm)
theorem Kn.po_alone (h : Kn n k d L l) {v : Nat} (hv : v < n) (dv : d v ≠ 0) (h0 : deg L v = 0) : Po n d L l (l v) = d v := by
  have e : Po n d L l (l v) = S n (fun x => if x = v then op d L x else 0) := S_congr fun x hx => by
    by_cases e1 : x = v
    · subst e1; simp
    · rw [if_neg e1]
      by_cases e2 : l x = l v
      · have : d x = 0 := Classical.byContradiction fun q => e1 (h.alone hv dv h0 hx q e2)
        unfold op; rw [if_pos e2, this]; omega
      · rw [if_neg e2]
  rw [e, S_single hv]
  unfold op; omega
end
end Pn
end
section
/-! How many nets have known cables, and so many new cables within a group of whole parts. -/
set_option linter.all false
namespace Pn
def K (a ao b x : Nat) : Nat :=
  if a = 0 then (if x = 0 then 1 else 0) else if ao = 0 then (if x + 1 = a then 1 else 0) else if x ≤ b then ch (a - 1) x * ch (ao - 1) (b - x) else 0

/-- the least end has a known cable: what stays -/
structure Lf (n k : Nat) (d l : Nat → Nat) (L : List Cab) (w : Nat) : Prop where
  wn : w < n
  ne : w ≠ fi n d
  inL : cab (fi n d) w ∈ L
  one : deg L (fi n d) = 1
  only : ∀ c ∈ L, tch c (fi n d) = true → c = cab (fi n d) w
section
variable {n k : Nat} {d l : Nat → Nat} {L : List Cab} {s : Nat → Bool} {w x : Nat}
theorem Kn.leaf (h : Kn n k d L l) (h0 : deg L (fi n d) ≠ 0) : ∃ w, Lf n k d l L w := by
  obtain ⟨hv, dv, _⟩ := h.st.fsp
  obtain ⟨c, hc, ht⟩ := deg_pos.mp (Nat.pos_of_ne_zero h0)
  have h1 : deg L (fi n d) = 1 := by have := h.dg _ hv; omega
  obtain ⟨m1, m2, m3, m4, m5⟩ := h.mem c hc
  have e : ∃ w, w < n ∧ w ≠ fi n d ∧ c = cab (fi n d) w := by
    rcases tch_iff.mp ht with q | q
    · exact ⟨c.2, m2, by omega, cab_eq m1 ht (tch_iff.mpr (Or.inr rfl)) (by omega)⟩
    · exact ⟨c.1, by omega, by omega, cab_eq m1 ht (tch_iff.mpr (Or.inl rfl)) (by omega)⟩
  obtain ⟨w, hw, hne, e⟩ := e
  refine ⟨w, hw, hne, e ▸ hc, h1, fun c' hc' ht' => ?_⟩
  apply Classical.byContradiction
  intro hn
  have hn' : c' ≠ c := fun q => hn (q.trans e)
  have e1 := deg_erase hc (fi n d)
  rw [if_pos ht] at e1
  have : 0 < deg (L.erase c) (fi n d) := deg_pos.mpr ⟨c', by rw [List.mem_erase_of_ne hn']; exact hc', ht'⟩
  omega
theorem Lf.dge (f : Lf n k d l L w) (y : Nat) : deg (L.erase (cab (fi n d) w)) y + (if y = fi n d ∨ y = w then 1 else 0) = deg L y := by
  rw [← deg_erase f.inL y]
  congr 1
  by_cases q : y = fi n d ∨ y = w
  · rw [if_pos q, if_pos (tch_cab.mpr q)]
  · rw [if_neg q, if_neg (fun z => q (tch_cab.mp z))]
theorem Lf.lw (f : Lf n k d l L w) (h : Kn n k d L l) : l (fi n d) = l w := by
  have := (h.mem _ f.inL).2.2.2.2
  unfold cab at this
  rcases Nat.le_total (fi n d) w with e | e
  · rw [show min (fi n d) w = fi n d by omega, show max (fi n d) w = w by omega] at this; exact this
  · rw [show min (fi n d) w = w by omega, show max (fi n d) w = fi n d by omega] at this; exact this.symm
theorem Lf.op (f : Lf n (k + 1) d l L w) (h : Kn n (k + 1) d L l) (dw : 2 ≤ d w) (y : Nat) : op (hang d (fi n d) w) (L.erase (cab (fi n d) w)) y = op d L y := by
  obtain ⟨hv, dv, _⟩ := h.st.fsp
  have e := f.dge y
  unfold Pn.op
  by_cases y1 : y = fi n d
  · rw [if_pos (Or.inl y1)] at e
    subst y1
    rw [hang_v f.ne, dv, f.one]; omega
  · by_cases y2 : y = w
    · rw [if_pos (Or.inr y2)] at e
      subst y2
      rw [hang_u]; omega
    · rw [if_neg (fun q => q.elim y1 y2)] at e
      rw [hang_o y1 y2]; omega
theorem Lf.A (f : Lf n (k + 1) d l L w) (h : Kn n (k + 1) d L l) (dw : 2 ≤ d w) (r : Nat) : A n (hang d (fi n d) w) l r = A n d l r := by
  obtain ⟨hv, dv, _⟩ := h.st.fsp
  rw [Bool.eq_iff_iff, A_iff, A_iff]
  constructor
  · rintro ⟨y, hy, e, q⟩
    refine ⟨y, hy, e, fun z => q ?_⟩
    by_cases y1 : y = fi n d
    · subst y1; exact hang_v f.ne
    · by_cases y2 : y = w
      · subst y2; rw [hang_u, z]
      · rw [hang_o y1 y2, z]
  · rintro ⟨y, hy, e, q⟩
    by_cases y1 : y = fi n d
    · refine ⟨w, f.wn, by rw [← e, y1, f.lw h], by rw [hang_u]; omega⟩
    · by_cases y2 : y = w
      · exact ⟨y, hy, e, by rw [y2, hang_u]; omega⟩
      · exact ⟨y, hy, e, by rw [hang_o y1 y2]; exact q⟩
theorem Lf.kn (f : Lf n (k + 1) d l L w) (h : Kn n (k + 1) d L l) (dw : 2 ≤ d w) : Kn n k (hang d (fi n d) w) (L.erase (cab (fi n d) w)) l := by
  obtain ⟨hv, dv, _⟩ := h.st.fsp
  have out : ∀ c ∈ L.erase (cab (fi n d) w), c ∈ L ∧ c ≠ cab (fi n d) w ∧ tch c (fi n d) = false := fun c hc => by
    have h1 := (h.nd.mem_erase_iff).mp hc
    refine ⟨h1.2, h1.1, ?_⟩
    cases ht : tch c (fi n d) with
    | false => rfl
    | true => exact absurd (f.only c h1.2 ht) h1.1
  have dge1 : ∀ y, 1 ≤ d y → y ≠ fi n d → 1 ≤ hang d (fi n d) w y := fun y hy hne => by
    by_cases y2 : y = w
    · rw [y2, hang_u]; omega
    · rwa [hang_o hne y2]
  have dge2 : ∀ y, 1 ≤ hang d (fi n d) w y → 1 ≤ d y ∧ y ≠ fi n d := fun y hy => by
    by_cases y1 : y = fi n d
    · rw [y1, hang_v f.ne] at hy; omega
    · refine ⟨?_, y1⟩
      by_cases y2 : y = w
      · rw [y2]; omega
      · rwa [hang_o y1 y2] at hy
  refine ⟨h.st.hang hv f.wn dv dw, fun c hc => ?_, h.nd.sublist List.erase_sublist, fun y hy => ?_, h.lb, fun y z hy hz dy dz e => ?_, ?_⟩
  · obtain ⟨a, b, t⟩ := out c hc
    obtain ⟨m1, m2, m3, m4, m5⟩ := h.mem c a
    have a1 : c.1 ≠ fi n d := fun q => by rw [tch_iff.mpr (Or.inl q)] at t; cases t
    have a2 : c.2 ≠ fi n d := fun q => by rw [tch_iff.mpr (Or.inr q)] at t; cases t
    exact ⟨m1, m2, dge1 _ m3 a1, dge1 _ m4 a2, m5⟩
  · have e := f.dge y
    have g := h.dg y hy
    by_cases y1 : y = fi n d
    · rw [if_pos (Or.inl y1)] at e
      subst y1
      rw [f.one] at e; omega
    · by_cases y2 : y = w
      · rw [if_pos (Or.inr y2)] at e
        subst y2
        rw [hang_u]; omega
      · rw [if_neg (fun q => q.elim y1 y2)] at e
        rw [hang_o y1 y2]; omega
  · obtain ⟨dy', ny⟩ := dge2 y dy
    obtain ⟨dz', nz⟩ := dge2 z dz
    have := Conn.pull (M := L.erase (cab (fi n d) w)) f.only (fun c hc ht => by
      refine (h.nd.mem_erase_iff).mpr ⟨?_, hc⟩
      rintro rfl
      rw [tch_cab.mpr (Or.inl rfl)] at ht; cases ht) (h.cn y z hy hz dy' dz' e)
    rwa [if_neg ny, if_neg nz] at this
  · have e1 : S n (fun r => if Pn.A n (hang d (fi n d) w) l r = true then 1 else 0) = S n (fun r => if Pn.A n d l r = true then 1 else 0) := S_congr fun r _ => by rw [f.A h dw r]
    rw [e1, List.length_erase_of_mem f.inL]
    have := h.ct
    have : 0 < L.length := List.length_pos_of_mem f.inL
    omega
/-- the count behind a known leaf -/
theorem Lf.count (f : Lf n (k + 1) d l L w) (h : Kn n (k + 1) d L l) :
    (nets n (k + 1) d).countP (good L l s x) = if 2 ≤ d w then (nets n k (hang d (fi n d) w)).countP (good (L.erase (cab (fi n d) w)) l s x) else 0 := by
  obtain ⟨hv, dv, _⟩ := h.st.fsp
  rw [count_step]
  have e : ∀ u, u < n → (if 2 ≤ d u then (nets n k (hang d (fi n d) u)).countP (fun N => good L l s x (cab (fi n d) u :: N)) else 0)
      = if u = w then (if 2 ≤ d u then (nets n k (hang d (fi n d) u)).countP (good (L.erase (cab (fi n d) w)) l s x) else 0) else 0 := fun u hu => by
    by_cases du : 2 ≤ d u
    · have hst := h.st.hang hv hu dv du
      have hne : u ≠ fi n d := by rintro rfl; omega
      rw [if_pos du, if_pos du]
      by_cases huw : u = w
      · subst huw
        rw [if_pos rfl]
        refine List.countP_congr fun N hN => ?_
        have hnt := (nets_nt k hst N hN).not_tch hne
        rw [good_iff, good_iff]
        have hcp : (cab (fi n d) u :: N).countP (nwp L l s) = N.countP (nwp (L.erase (cab (fi n d) u)) l s) := by
          rw [List.countP_cons]
          have : nwp L l s (cab (fi n d) u) = false := by
            unfold nwp
            rw [List.contains_iff_mem.mpr f.inL]; rfl
          rw [this]
          simp only [Bool.false_eq_true, if_false, Nat.add_zero]
          refine List.countP_congr fun c hc => ?_
          have hce : c ≠ cab (fi n d) u := by
            rintro rfl
            have := hnt _ hc
            rw [tch_cab.mpr (Or.inl rfl)] at this; cases this
          unfold nwp
          have : L.contains c = (L.erase (cab (fi n d) u)).contains c := by
            rw [Bool.eq_iff_iff, List.contains_iff_mem, List.contains_iff_mem, h.nd.mem_erase_iff]
            simp [hce]
          rw [this]
        rw [hcp]
        refine and_congr_left fun _ => ?_
        constructor
        · intro q c hc
          have h1 := (h.nd.mem_erase_iff).mp hc
          rcases List.mem_cons.mp (q c h1.2) with z | z
          · exact absurd z h1.1
          · exact z
        · intro q c hc
          by_cases z : c = cab (fi n d) u
          · simp [z]
          · exact List.mem_cons_of_mem _ (q c ((h.nd.mem_erase_iff).mpr ⟨z, hc⟩))
      · rw [if_neg huw, List.countP_eq_zero]
        intro N hN hg
        have hnt := (nets_nt k hst N hN).not_tch hne
        have := (good_iff.mp hg).1 _ f.inL
        rcases List.mem_cons.mp this with z | z
        · have t1 : tch (cab (fi n d) w) u = true := by rw [z]; exact tch_cab.mpr (Or.inr rfl)
          rcases tch_cab.mp t1 with q | q
          · exact hne q
          · exact huw q
        · have := hnt _ z
          rw [tch_cab.mpr (Or.inl rfl)] at this; cases this
    · rw [if_neg du, if_neg du]; simp
  rw [S_congr e, S_single f.wn]
/-- a closed part of two -/
theorem Lf.closed (f : Lf n k d l L w) (h : Kn n k d L l) (dw : ¬ 2 ≤ d w) {y : Nat} (hy : y < n) (dy : d y ≠ 0) (e : l y = l (fi n d)) : y = fi n d ∨ y = w := by
  obtain ⟨hv, dv, _⟩ := h.st.fsp
  have hdw := h.dg w f.wn
  have e1 := f.dge w
  rw [if_pos (Or.inr rfl)] at e1
  have w0 : ∀ c ∈ L, tch c w = true → c = cab (fi n d) w := fun c hc ht => by
    apply Classical.byContradiction
    intro hn
    have : 0 < deg (L.erase (cab (fi n d) w)) w := deg_pos.mpr ⟨c, by rw [List.mem_erase_of_ne hn]; exact hc, ht⟩
    omega
  have := (h.cn (fi n d) y hv hy (by omega) (by omega) e.symm).keep (p := fun z => z = fi n d ∨ z = w) fun c hc => by
    have key : ∀ z z', (c.1 = z ∧ c.2 = z') ∨ (c.2 = z ∧ c.1 = z') → (z = fi n d ∨ z = w) → (z' = fi n d ∨ z' = w) := fun z z' hz q => by
      have ht : tch c z = true := tch_iff.mpr (by rcases hz with a | a <;> simp [a.1])
      have ht' : tch c z' = true := tch_iff.mpr (by rcases hz with a | a <;> simp [a.2])
      have : c = cab (fi n d) w := by
        rcases q with q | q
        · exact f.only c hc (q ▸ ht)
        · exact w0 c hc (q ▸ ht)
      rw [this] at ht'
      exact tch_cab.mp ht'
    exact ⟨key _ _ (Or.inl ⟨rfl, rfl⟩), key _ _ (Or.inr ⟨rfl, rfl⟩)⟩
  exact this.mp (Or.inl rfl)
end

/-- one part: one net -/
theorem count_one : ∀ (k : Nat) {n : Nat} {d l : Nat → Nat} {L : List Cab} {s : Nat → Bool} {x : Nat}, Kn n k d L l → L.length = k + 1 → (nets n k d).countP (good L l s x) = if x = 0 then 1 else 0
  | 0, n, d, l, L, s, x, h, hl => by
    obtain ⟨h1, h2, h3, h4, h5⟩ := h.st.two
    obtain ⟨c, rfl⟩ : ∃ c, L = [c] := by
      cases L with
      | nil => simp at hl
      | cons c L =>
        cases L with
        | nil => exact ⟨c, rfl⟩
        | cons _ _ => simp at hl
    obtain ⟨m1, m2, m3, m4, m5⟩ := h.mem c (by simp)
    have hc : c = (fi n d, se n d) := by
      have a1 : c.1 = fi n d ∨ c.1 = se n d := by
        by_cases q : c.1 = fi n d
        · exact Or.inl q
        · by_cases q2 : c.1 = se n d
          · exact Or.inr q2
          · have := h5 c.1 (by omega) q q2; omega
      have a2 : c.2 = fi n d ∨ c.2 = se n d := by
        by_cases q : c.2 = fi n d
        · exact Or.inl q
        · by_cases q2 : c.2 = se n d
          · exact Or.inr q2
          · have := h5 c.2 (by omega) q q2; omega
      obtain ⟨c1, c2⟩ := c
      simp only [Prod.mk.injEq] at *
      omega
    subst hc
    simp only [nets]
    have e : good [(fi n d, se n d)] l s x [(fi n d, se n d)] = decide (x = 0) := by
      unfold good nwp
      simp
      by_cases q : x = 0
      · subst q; simp
      · simp [q]; exact fun z => q z.symm
    rw [List.countP_cons, e, List.countP_nil]
    by_cases q : x = 0 <;> simp [q]
  | k + 1, n, d, l, L, s, x, h, hl => by
    obtain ⟨hv, dv, _⟩ := h.st.fsp
    have ho := h.opsum
    have h0 : deg L (fi n d) ≠ 0 := fun q => by
      have := S_ge (f := op d L) hv
      unfold op at this
      rw [dv, q] at this
      unfold op at ho
      omega
    obtain ⟨w, f⟩ := h.leaf h0
    rw [f.count h]
    by_cases dw : 2 ≤ d w
    · rw [if_pos dw]
      refine count_one k (f.kn h dw) ?_
      rw [List.length_erase_of_mem f.inL]; omega
    · exfalso
      -- all labels are one
      have hct := h.ct
      have one : ∀ y, y < n → d y ≠ 0 → l y = l (fi n d) := fun y hy dy => by
        apply Classical.byContradiction
        intro hne
        have := S_ge2 (f := fun r => if A n d l r then 1 else 0) (h.lb y hy) (h.lb _ hv) hne
        rw [if_pos (A_iff.mpr ⟨y, hy, rfl, dy⟩), if_pos (A_iff.mpr ⟨fi n d, hv, rfl, by omega⟩)] at this
        omega
      have hal := h.st.alive
      have : S n (al d) ≤ S n (fun y => (if y = fi n d then 1 else 0) + (if y = w then 1 else 0)) := S_le fun y hy => by
        unfold al
        by_cases dy : d y = 0
        · simp [dy]
        · rw [if_neg dy]
          rcases f.closed h dw hy dy (one y hy dy) with q | q <;> simp [q]
      rw [S_add, S_single (f := fun _ => 1) hv, S_single (f := fun _ => 1) f.wn] at this
      omega
end Pn
end
section
/-! The count: nets with known cables and so many new cables within whole parts. -/
set_option linter.all false
set_option maxHeartbeats 1000000
namespace Pn
/-- one turn's weight: sv, sr: whether the leaf's part, the neighbour's part are within -/
def wv (sv sr : Bool) (a ao b c x : Nat) : Nat := match sv, sr with
  | true, true => (if x = 0 then 0 else K (a - 1) ao (b - 1) (x - 1)) * fact (b - 1) * fact c
  | true, false => K (a - 1) ao b x * fact b * fact (c - 1)
  | false, true => K a (ao - 1) (b - 1) x * fact (b - 1) * fact c
  | false, false => K a (ao - 1) b x * fact b * fact (c - 1)
theorem fmul {b : Nat} (X Y : Nat) (h : 1 ≤ b) : b * (X * fact (b - 1) * Y) = X * fact b * Y := by
  rw [fact_pred h]
  simp only [Nat.mul_assoc, Nat.mul_comm, Nat.mul_left_comm]
theorem fmul2 {c : Nat} (X Y : Nat) (h : 1 ≤ c) : c * (X * Y * fact (c - 1)) = X * Y * fact c := by
  rw [fact_pred h]
  simp only [Nat.mul_assoc, Nat.mul_comm, Nat.mul_left_comm]
theorem ch_pred {n k : Nat} (hn : 1 ≤ n) (hk : 1 ≤ k) : ch n k = ch (n - 1) (k - 1) + ch (n - 1) k := by
  obtain ⟨m, rfl⟩ : ∃ m, n = m + 1 := ⟨n - 1, by omega⟩
  obtain ⟨j, rfl⟩ : ∃ j, k = j + 1 := ⟨k - 1, by omega⟩
  rfl
theorem K_zero {ao b x : Nat} : K 0 ao b x = if x = 0 then 1 else 0 := by unfold K; rw [if_pos rfl]
theorem K_full {a b x : Nat} (h : a ≠ 0) : K a 0 b x = if x + 1 = a then 1 else 0 := by unfold K; rw [if_neg h, if_pos rfl]
theorem K_gen {a ao b x : Nat} (h : a ≠ 0) (h' : ao ≠ 0) : K a ao b x = if x ≤ b then ch (a - 1) x * ch (ao - 1) (b - x) else 0 := by unfold K; rw [if_neg h, if_neg h']
/-- Pascal's rule for the inner choice -/
theorem K_in {a ao b x : Nat} (ha : 2 ≤ a) (hao : 1 ≤ ao) (hb : 1 ≤ b) : K a ao b x = (if x = 0 then 0 else K (a - 1) ao (b - 1) (x - 1)) + K (a - 1) ao b x := by
  rw [K_gen (a := a) (by omega) (by omega), K_gen (a := a - 1) (b := b - 1) (by omega) (by omega), K_gen (a := a - 1) (b := b) (by omega) (by omega)]
  by_cases x0 : x = 0
  · subst x0; simp [ch_zero]
  · rw [if_neg x0]
    by_cases xb : x ≤ b
    · rw [if_pos xb, if_pos (show x - 1 ≤ b - 1 by omega), if_pos xb, ch_pred (n := a - 1) (k := x) (by omega) (by omega), Nat.add_mul]
      rw [show b - 1 - (x - 1) = b - x by omega]
    · rw [if_neg xb, if_neg (show ¬ x - 1 ≤ b - 1 by omega), if_neg xb]
theorem K_out {a ao b x : Nat} (ha : 1 ≤ a) (hao : 2 ≤ ao) (hb : 1 ≤ b) : K a ao b x = K a (ao - 1) (b - 1) x + K a (ao - 1) b x := by
  rw [K_gen (ao := ao) (by omega) (by omega), K_gen (ao := ao - 1) (b := b - 1) (by omega) (by omega), K_gen (ao := ao - 1) (b := b) (by omega) (by omega)]
  by_cases xb : x ≤ b
  · rw [if_pos xb, if_pos xb]
    by_cases e : x = b
    · subst e
      rw [if_neg (show ¬ x ≤ x - 1 by omega)]
      simp [ch_zero]
    · rw [if_pos (show x ≤ b - 1 by omega), ch_pred (n := ao - 1) (k := b - x) (by omega) (by omega), Nat.mul_add, show b - x - 1 = b - 1 - x by omega]
  · rw [if_neg xb, if_neg xb, if_neg (show ¬ x ≤ b - 1 by omega)]
theorem K_b0 {a ao x : Nat} (ha : 2 ≤ a) (hao : 1 ≤ ao) : K a ao 0 x = K (a - 1) ao 0 x := by
  rw [K_gen (a := a) (by omega) (by omega), K_gen (a := a - 1) (by omega) (by omega)]
  by_cases x0 : x = 0
  · subst x0; simp [ch_zero]
  · rw [if_neg (show ¬ x ≤ 0 by omega), if_neg (show ¬ x ≤ 0 by omega)]
theorem K_b0' {a ao x : Nat} (ha : 1 ≤ a) (hao : 2 ≤ ao) : K a ao 0 x = K a (ao - 1) 0 x := by
  rw [K_gen (ao := ao) (by omega) (by omega), K_gen (ao := ao - 1) (by omega) (by omega)]
  by_cases x0 : x = 0
  · subst x0; simp [ch_zero]
  · rw [if_neg (show ¬ x ≤ 0 by omega), if_neg (show ¬ x ≤ 0 by omega)]
/-- too many open plugs within -/
theorem K_big {a ao b x : Nat} (ha : 1 ≤ a) (hao : 1 ≤ ao) (h : a + ao < b + 2) : K a ao b x = 0 := by
  rw [K_gen (by omega) (by omega)]
  by_cases xb : x ≤ b
  · rw [if_pos xb]
    by_cases q : a - 1 < x
    · rw [ch_out q, Nat.zero_mul]
    · rw [ch_out (n := ao - 1) (k := b - x) (by omega), Nat.mul_zero]
  · rw [if_neg xb]
theorem K_step_in {a ao b c x : Nat} (ha : 1 ≤ a) (h3 : 3 ≤ a + ao) (hbc : b + c + 2 = a + ao) (h1 : a = 1 → b = 0) (h2 : ao = 0 → c = 0) :
    b * wv true true a ao b c x + c * wv true false a ao b c x = K a ao b x * fact b * fact c := by
  show b * ((if x = 0 then 0 else K (a - 1) ao (b - 1) (x - 1)) * fact (b - 1) * fact c) + c * (K (a - 1) ao b x * fact b * fact (c - 1)) = _
  by_cases ao0 : ao = 0
  · subst ao0
    have hc := h2 rfl
    subst hc
    rw [fmul (b := b) _ _ (by omega), Nat.zero_mul, Nat.add_zero]
    congr 2
    rw [K_full (a := a) (by omega), K_full (a := a - 1) (by omega)]
    by_cases x0 : x = 0
    · subst x0; rw [if_pos rfl, if_neg (show ¬ 0 + 1 = a by omega)]
    · rw [if_neg x0]
      by_cases e : x + 1 = a
      · rw [if_pos e, if_pos (show x - 1 + 1 = a - 1 by omega)]
      · rw [if_neg e, if_neg (show ¬ x - 1 + 1 = a - 1 by omega)]
  · by_cases a1 : a = 1
    · subst a1
      have hb := h1 rfl
      subst hb
      rw [Nat.zero_mul, Nat.zero_add, fmul2 (c := c) _ _ (by omega)]
      congr 2
      rw [show 1 - 1 = 0 from rfl, K_zero, K_gen (by omega) ao0]
      by_cases x0 : x = 0
      · subst x0; simp [ch_zero]
      · rw [if_neg x0, if_neg (show ¬ x ≤ 0 by omega)]
    · by_cases b0 : b = 0
      · subst b0
        rw [Nat.zero_mul, Nat.zero_add, fmul2 (c := c) _ _ (by omega), K_b0 (a := a) (by omega) (by omega)]
      · rw [fmul (b := b) _ _ (by omega)]
        by_cases c0 : c = 0
        · subst c0
          rw [Nat.zero_mul, Nat.add_zero, K_in (a := a) (b := b) (by omega) (by omega) (by omega), K_big (a := a - 1) (b := b) (by omega) (by omega) (by omega), Nat.add_zero]
        · rw [fmul2 (c := c) _ _ (by omega), K_in (a := a) (b := b) (by omega) (by omega) (by omega), Nat.add_mul, Nat.add_mul]
theorem K_step_out {a ao b c x : Nat} (ha : 1 ≤ ao) (h3 : 3 ≤ a + ao) (hbc : b + c + 2 = a + ao) (h1 : ao = 1 → c = 0) (h2 : a = 0 → b = 0) :
    b * wv false true a ao b c x + c * wv false false a ao b c x = K a ao b x * fact b * fact c := by
  show b * (K a (ao - 1) (b - 1) x * fact (b - 1) * fact c) + c * (K a (ao - 1) b x * fact b * fact (c - 1)) = _
  by_cases a0 : a = 0
  · subst a0
    have hb := h2 rfl
    subst hb
    rw [Nat.zero_mul, Nat.zero_add, fmul2 (c := c) _ _ (by omega), K_zero, K_zero]
  · by_cases a1 : ao = 1
    · subst a1
      have hc := h1 rfl
      subst hc
      rw [Nat.zero_mul, Nat.add_zero, fmul (b := b) _ _ (by omega)]
      congr 2
      rw [show 1 - 1 = 0 from rfl, K_full a0, K_gen a0 (by omega)]
      by_cases e : x + 1 = a
      · rw [if_pos e, if_pos (show x ≤ b by omega), show x = a - 1 by omega, ch_self, show b - (a - 1) = 0 by omega, ch_zero]
      · rw [if_neg e]
        by_cases xb : x ≤ b
        · rw [if_pos xb]
          by_cases e2 : b - x = 0
          · rw [ch_out (n := a - 1) (k := x) (by omega), Nat.zero_mul]
          · rw [ch_out (n := 1 - 1) (k := b - x) (by omega), Nat.mul_zero]
        · rw [if_neg xb]
    · by_cases b0 : b = 0
      · subst b0
        rw [Nat.zero_mul, Nat.zero_add, fmul2 (c := c) _ _ (by omega), K_b0' (ao := ao) (by omega) (by omega)]
      · rw [fmul (b := b) _ _ (by omega)]
        by_cases c0 : c = 0
        · subst c0
          rw [Nat.zero_mul, Nat.add_zero, K_out (ao := ao) (b := b) (by omega) (by omega) (by omega), K_big (a := a) (ao := ao - 1) (b := b) (by omega) (by omega) (by omega), Nat.add_zero]
        · rw [fmul2 (c := c) _ _ (by omega), K_out (ao := ao) (b := b) (by omega) (by omega) (by omega), Nat.add_mul, Nat.add_mul]

/-! ### the least end without a known cable -/
section
variable {n k : Nat} {d l : Nat → Nat} {L : List Cab} {s : Nat → Bool} {u x : Nat}
theorem Kn.lone_l (h : Kn n (k + 1) d L l) (h0 : deg L (fi n d) = 0) (hu : u < n) (du : d u ≠ 0) (hne : u ≠ fi n d) : l u ≠ l (fi n d) := fun e => by
  obtain ⟨hv, dv, _⟩ := h.st.fsp
  exact hne (h.alone hv (by omega) h0 hu du e)
theorem Kn.lone (h : Kn n (k + 1) d L l) (h0 : deg L (fi n d) = 0) (hu : u < n) (du : 2 ≤ d u) (ou : 1 ≤ op d L u) : Kn n k (hang d (fi n d) u) L l := by
  obtain ⟨hv, dv, _⟩ := h.st.fsp
  have hne : u ≠ fi n d := by rintro rfl; omega
  have dge1 : ∀ y, 1 ≤ d y → y ≠ fi n d → 1 ≤ hang d (fi n d) u y := fun y hy h1 => by
    by_cases y2 : y = u
    · rw [y2, hang_u]; omega
    · rwa [hang_o h1 y2]
  have dge2 : ∀ y, 1 ≤ hang d (fi n d) u y → 1 ≤ d y ∧ y ≠ fi n d := fun y hy => by
    by_cases y1 : y = fi n d
    · rw [y1, hang_v hne] at hy; omega
    · refine ⟨?_, y1⟩
      by_cases y2 : y = u
      · rw [y2]; omega
      · rwa [hang_o y1 y2] at hy
  refine ⟨h.st.hang hv hu dv du, fun c hc => ?_, h.nd, fun y hy => ?_, h.lb, fun y z hy hz dy dz e => ?_, ?_⟩
  · obtain ⟨m1, m2, m3, m4, m5⟩ := h.mem c hc
    have t := deg_zero.mp h0 c hc
    have a1 : c.1 ≠ fi n d := fun q => by rw [tch_iff.mpr (Or.inl q)] at t; cases t
    have a2 : c.2 ≠ fi n d := fun q => by rw [tch_iff.mpr (Or.inr q)] at t; cases t
    exact ⟨m1, m2, dge1 _ m3 a1, dge1 _ m4 a2, m5⟩
  · have g := h.dg y hy
    by_cases y1 : y = fi n d
    · rw [y1, h0]; omega
    · by_cases y2 : y = u
      · subst y2
        unfold op at ou
        rw [hang_u]; omega
      · rw [hang_o y1 y2]; exact g
  · exact h.cn y z hy hz (dge2 y dy).1 (dge2 z dz).1 e
  · have := S_upd (n := n) (i := l (fi n d)) (f := fun r => if A n d l r = true then 1 else 0) (g := fun r => if A n (hang d (fi n d) u) l r = true then 1 else 0) (h.lb _ hv) fun r hr hne' => by
      have : A n (hang d (fi n d) u) l r = A n d l r := by
        rw [Bool.eq_iff_iff, A_iff, A_iff]
        constructor
        · rintro ⟨y, hy, e, q⟩
          exact ⟨y, hy, e, by have := (dge2 y (by omega)).1; omega⟩
        · rintro ⟨y, hy, e, q⟩
          have : y ≠ fi n d := by rintro rfl; exact hne' e.symm
          exact ⟨y, hy, e, by have := dge1 y (by omega) this; omega⟩
      show (if A n (hang d (fi n d) u) l r = true then 1 else 0) = (if A n d l r = true then 1 else 0)
      rw [this]
    have e1 : A n d l (l (fi n d)) = true := A_iff.mpr ⟨fi n d, hv, rfl, by omega⟩
    have e2 : A n (hang d (fi n d) u) l (l (fi n d)) = false := by
      cases q : A n (hang d (fi n d) u) l (l (fi n d)) with
      | false => rfl
      | true =>
        obtain ⟨y, hy, e, z⟩ := A_iff.mp q
        obtain ⟨z1, z2⟩ := dge2 y (by omega)
        exact absurd e (h.lone_l h0 hy (by omega) z2)
    rw [e1, e2] at this
    have hct := h.ct
    simp only [if_true, Bool.false_eq_true, if_false] at this
    omega
theorem lone_op (h : Kn n (k + 1) d L l) (h0 : deg L (fi n d) = 0) (hne : u ≠ fi n d) (y : Nat) : op (hang d (fi n d) u) L y = if y = fi n d then 0 else if y = u then op d L u - 1 else op d L y := by
  obtain ⟨hv, dv, _⟩ := h.st.fsp
  unfold op
  by_cases y1 : y = fi n d
  · rw [if_pos y1, y1, hang_v hne]; omega
  · rw [if_neg y1]
    by_cases y2 : y = u
    · rw [if_pos y2, y2, hang_u]; omega
    · rw [if_neg y2, hang_o y1 y2]
theorem lone_A (h : Kn n (k + 1) d L l) (h0 : deg L (fi n d) = 0) (hu : u < n) (du : 2 ≤ d u) (r : Nat) : A n (hang d (fi n d) u) l r = (A n d l r && decide (r ≠ l (fi n d))) := by
  obtain ⟨hv, dv, _⟩ := h.st.fsp
  have hne : u ≠ fi n d := by rintro rfl; omega
  rw [Bool.eq_iff_iff, Bool.and_eq_true, A_iff, A_iff, decide_eq_true_eq]
  constructor
  · rintro ⟨y, hy, e, q⟩
    have y1 : y ≠ fi n d := by rintro rfl; exact q (hang_v hne)
    have dy : d y ≠ 0 := by
      by_cases y2 : y = u
      · rw [y2]; omega
      · rwa [hang_o y1 y2] at q
    exact ⟨⟨y, hy, e, dy⟩, fun z => h.lone_l h0 hy dy y1 (e.trans z)⟩
  · rintro ⟨⟨y, hy, e, q⟩, hr⟩
    have y1 : y ≠ fi n d := by rintro rfl; exact hr e.symm
    refine ⟨y, hy, e, ?_⟩
    by_cases y2 : y = u
    · rw [y2, hang_u]; omega
    · rwa [hang_o y1 y2]
theorem lone_Po (h : Kn n (k + 1) d L l) (h0 : deg L (fi n d) = 0) (hu : u < n) (du : 2 ≤ d u) (ou : 1 ≤ op d L u) (r : Nat) (hr : r ≠ l (fi n d)) :
    Po n (hang d (fi n d) u) L l r + (if r = l u then 1 else 0) = Po n d L l r := by
  have hne : u ≠ fi n d := by
    obtain ⟨hv, dv, _⟩ := h.st.fsp
    rintro rfl; omega
  by_cases e : r = l u
  · rw [if_pos e]
    have := S_upd (n := n) (i := u) (f := fun y => if l y = r then op d L y else 0) (g := fun y => if l y = r then op (hang d (fi n d) u) L y else 0) hu fun y hy hyu => by
      show (if l y = r then op (hang d (fi n d) u) L y else 0) = (if l y = r then op d L y else 0)
      rw [lone_op h h0 hne y]
      by_cases y1 : y = fi n d
      · rw [if_neg (by rw [y1]; exact Ne.symm hr), if_neg (by rw [y1]; exact Ne.symm hr)]
      · rw [if_neg y1, if_neg hyu]
    rw [if_pos e.symm, if_pos e.symm, lone_op h h0 hne u, if_neg hne, if_pos rfl] at this
    unfold Po
    omega
  · rw [if_neg e, Nat.add_zero]
    refine S_congr fun y hy => ?_
    rw [lone_op h h0 hne y]
    by_cases y1 : y = fi n d
    · rw [if_neg (by rw [y1]; exact Ne.symm hr), if_neg (by rw [y1]; exact Ne.symm hr)]
    · rw [if_neg y1]
      by_cases y2 : y = u
      · rw [if_neg (by rw [y2]; exact Ne.symm e), if_neg (by rw [y2]; exact Ne.symm e)]
      · rw [if_neg y2]
theorem lone_FF (h : Kn n (k + 1) d L l) (h0 : deg L (fi n d) = 0) (hu : u < n) (du : 2 ≤ d u) (ou : 1 ≤ op d L u) : FF n (hang d (fi n d) u) L * op d L u = FF n d L := by
  obtain ⟨hv, dv, _⟩ := h.st.fsp
  have hne : u ≠ fi n d := by rintro rfl; omega
  have := Pr_upd (n := n) (i := u) (f := fun y => fact (op d L y)) (g := fun y => fact (op (hang d (fi n d) u) L y)) hu fun y hy hyu => by
    show fact (op (hang d (fi n d) u) L y) = fact (op d L y)
    rw [lone_op h h0 hne y]
    by_cases y1 : y = fi n d
    · rw [if_pos y1, y1]
      have : op d L (fi n d) = 1 := by unfold op; rw [dv, h0]
      rw [this]; rfl
    · rw [if_neg y1, if_neg hyu]
  rw [lone_op h h0 hne u, if_neg hne, if_pos rfl, fact_pred ou, ← Nat.mul_assoc] at this
  exact Nat.eq_of_mul_eq_mul_right (fact_pos _) this
theorem lone_GG (h : Kn n (k + 1) d L l) (h0 : deg L (fi n d) = 0) (hu : u < n) (du : 2 ≤ d u) (ou : 1 ≤ op d L u) :
    GG n (hang d (fi n d) u) L l = Pr n (up (gA n d L l) (l u) 1) * (Po n d L l (l u) - 1) := by
  obtain ⟨hv, dv, _⟩ := h.st.fsp
  have hne : u ≠ fi n d := by rintro rfl; omega
  have hl := h.lone_l h0 hu (by omega) hne
  have hA : A n (hang d (fi n d) u) l (l u) = true := by
    rw [lone_A h h0 hu du, A_iff.mpr ⟨u, hu, rfl, by omega⟩, decide_eq_true hl]; rfl
  have hP := lone_Po h h0 hu du ou (l u) hl
  rw [if_pos rfl] at hP
  have := Pr_upd (n := n) (i := l u) (f := up (gA n d L l) (l u) 1) (g := gA n (hang d (fi n d) u) L l) (h.lb u hu) fun r hr hne' => by
    rw [up_ne hne']
    unfold gA
    rw [lone_A h h0 hu du]
    by_cases e : r = l (fi n d)
    · rw [e, decide_eq_false (fun q => q rfl), Bool.and_false, if_neg (by decide)]
      rw [if_pos (A_iff.mpr ⟨fi n d, hv, rfl, by omega⟩), h.po_alone hv (by omega) h0, dv]
    · rw [decide_eq_true e, Bool.and_true]
      have := lone_Po h h0 hu du ou r e
      rw [if_neg hne'] at this
      rw [← this]; rfl
  rw [up_same, Nat.mul_one] at this
  unfold GG
  rw [this]
  congr 1
  unfold gA
  rw [if_pos hA]; omega
theorem lone_cA (h : Kn n (k + 1) d L l) (h0 : deg L (fi n d) = 0) (hu : u < n) (du : 2 ≤ d u) : cA n (hang d (fi n d) u) l s + (if s (l (fi n d)) then 1 else 0) = cA n d l s := by
  obtain ⟨hv, dv, _⟩ := h.st.fsp
  have := S_upd (n := n) (i := l (fi n d)) (f := fun r => if A n d l r && s r then 1 else 0) (g := fun r => if A n (hang d (fi n d) u) l r && s r then 1 else 0) (h.lb _ hv) fun r hr hne => by
    show (if A n (hang d (fi n d) u) l r && s r then 1 else 0) = (if A n d l r && s r then 1 else 0)
    rw [lone_A h h0 hu du, decide_eq_true hne, Bool.and_true]
  rw [A_iff.mpr ⟨fi n d, hv, rfl, by omega⟩, lone_A h h0 hu du, decide_eq_false (fun q => q rfl), Bool.true_and, Bool.and_false, Bool.false_and, if_neg Bool.false_ne_true] at this
  unfold cA
  omega
theorem lone_bA (h : Kn n (k + 1) d L l) (h0 : deg L (fi n d) = 0) (hu : u < n) (du : 2 ≤ d u) (ou : 1 ≤ op d L u) (hP : 2 ≤ Po n d L l (l u)) : bA n (hang d (fi n d) u) L l s = bA n d L l s - (if s (l u) then 1 else 0) := by
  obtain ⟨hv, dv, _⟩ := h.st.fsp
  have hne : u ≠ fi n d := by rintro rfl; omega
  have hl := h.lone_l h0 hu (by omega) hne
  have := S_upd (n := n) (i := l u) (f := fun r => if A n d l r && s r then Po n d L l r - 1 else 0) (g := fun r => if A n (hang d (fi n d) u) l r && s r then Po n (hang d (fi n d) u) L l r - 1 else 0) (h.lb _ hu) fun r hr hne' => by
    show (if A n (hang d (fi n d) u) l r && s r then Po n (hang d (fi n d) u) L l r - 1 else 0) = (if A n d l r && s r then Po n d L l r - 1 else 0)
    rw [lone_A h h0 hu du]
    by_cases e : r = l (fi n d)
    · rw [e, decide_eq_false (fun q => q rfl), Bool.and_false, Bool.false_and, if_neg (by decide), h.po_alone hv (by omega) h0, dv]; simp
    · have := lone_Po h h0 hu du ou r e
      rw [if_neg hne', Nat.add_zero] at this
      rw [decide_eq_true e, Bool.and_true, this]
  have hP' := lone_Po h h0 hu du ou (l u) hl
  rw [if_pos rfl] at hP'
  rw [A_iff.mpr ⟨u, hu, rfl, by omega⟩, lone_A h h0 hu du, A_iff.mpr ⟨u, hu, rfl, by omega⟩, decide_eq_true hl] at this
  unfold bA
  cases hs : s (l u) <;> simp [hs] at this ⊢ <;> omega
/-- one neighbour's nets -/
theorem lone_count (h : Kn n (k + 1) d L l) (h0 : deg L (fi n d) = 0) (hu : u < n) (du : 2 ≤ d u) :
    (nets n k (hang d (fi n d) u)).countP (fun N => good L l s x (cab (fi n d) u :: N)) =
      if s (l (fi n d)) && s (l u) then (if x = 0 then 0 else (nets n k (hang d (fi n d) u)).countP (good L l s (x - 1))) else (nets n k (hang d (fi n d) u)).countP (good L l s x) := by
  obtain ⟨hv, dv, _⟩ := h.st.fsp
  have hne : u ≠ fi n d := by rintro rfl; omega
  have hst := h.st.hang hv hu dv du
  have hnot : cab (fi n d) u ∉ L := fun hc => by
    have := deg_zero.mp h0 _ hc
    rw [tch_cab.mpr (Or.inl rfl)] at this; cases this
  have hcp : ∀ N, (cab (fi n d) u :: N).countP (nwp L l s) = N.countP (nwp L l s) + (if s (l (fi n d)) && s (l u) then 1 else 0) := fun N => by
    rw [List.countP_cons]
    congr 2
    unfold nwp
    have e1 : L.contains (cab (fi n d) u) = false := by
      cases q : L.contains (cab (fi n d) u) with
      | false => rfl
      | true => exact absurd (List.contains_iff_mem.mp q) hnot
    rw [e1]
    have e2 : (s (l (cab (fi n d) u).1) && s (l (cab (fi n d) u).2)) = (s (l (fi n d)) && s (l u)) := by
      unfold cab
      simp only []
      rcases Nat.le_total (fi n d) u with q | q
      · rw [show min (fi n d) u = fi n d by omega, show max (fi n d) u = u by omega]
      · rw [show min (fi n d) u = u by omega, show max (fi n d) u = fi n d by omega, Bool.and_comm]
    rw [Bool.not_false, Bool.true_and, e2]
  have hsub : ∀ N, ((∀ c ∈ L, c ∈ cab (fi n d) u :: N) ↔ ∀ c ∈ L, c ∈ N) := fun N => by
    constructor
    · intro q c hc
      rcases List.mem_cons.mp (q c hc) with z | z
      · subst z; exact absurd hc hnot
      · exact z
    · intro q c hc
      exact List.mem_cons_of_mem _ (q c hc)
  cases hs : (s (l (fi n d)) && s (l u)) with
  | true =>
    simp only [if_true]
    by_cases x0 : x = 0
    · rw [if_pos x0, List.countP_eq_zero]
      intro N _ hg
      have := (good_iff.mp hg).2
      rw [hcp, hs, x0] at this
      simp at this
    · rw [if_neg x0]
      refine List.countP_congr fun N _ => ?_
      rw [good_iff, good_iff, hsub, hcp, hs]
      simp only [if_true]
      refine and_congr_right fun _ => ?_
      omega
  | false =>
    simp only [Bool.false_eq_true, if_false]
    refine List.countP_congr fun N _ => ?_
    rw [good_iff, good_iff, hsub, hcp, hs]
    simp
end
end Pn
end
section
/-! The counting theorem. -/
set_option linter.all false
set_option maxHeartbeats 1000000
namespace Pn
section
variable {n k : Nat} {d l : Nat → Nat} {L : List Cab} {s : Nat → Bool} {u x : Nat}
/-- one part's factor taken out -/
def Er (n : Nat) (d : Nat → Nat) (L : List Cab) (l : Nat → Nat) (r : Nat) : Nat := Pr n (up (gA n d L l) r 1)
theorem Er_mul {r : Nat} (hr : r < n) (hA : A n d l r = true) : Po n d L l r * Er n d L l r = GG n d L l := by
  have := Pr_upd (n := n) (i := r) (f := gA n d L l) (g := up (gA n d L l) r 1) hr fun j _ hj => up_ne hj
  rw [up_same, Nat.mul_one] at this
  have e : gA n d L l r = Po n d L l r := by unfold gA; rw [if_pos hA]
  unfold Er GG
  rw [Nat.mul_comm, ← e, this]

/-- three parts or more: one neighbour -/
theorem turn3 (ih : ∀ {d l : Nat → Nat} {L : List Cab} {s : Nat → Bool} {x : Nat}, Kn n k d L l → L.length ≤ k →
      (nets n k d).countP (good L l s x) * FF n d L = GG n d L l * (K (cA n d l s) (cA n d l fun r => !s r) (bA n d L l s) x * fact (bA n d L l s) * fact (bA n d L l fun r => !s r)))
    (h : Kn n (k + 1) d L l) (h0 : deg L (fi n d) = 0) (hL : L.length ≤ k) (hu : u < n) :
    (if 2 ≤ d u then (nets n k (hang d (fi n d) u)).countP (fun N => good L l s x (cab (fi n d) u :: N)) else 0) * FF n d L =
      op d L u * (Er n d L l (l u) * (Po n d L l (l u) - 1) * wv (s (l (fi n d))) (s (l u)) (cA n d l s) (cA n d l fun r => !s r) (bA n d L l s) (bA n d L l fun r => !s r) x) := by
  obtain ⟨hv, dv, _⟩ := h.st.fsp
  by_cases o0 : op d L u = 0
  · rw [o0, Nat.zero_mul]
    by_cases du : 2 ≤ d u
    · rw [if_pos du, lone_count h h0 hu du]
      have hne : u ≠ fi n d := by rintro rfl; omega
      have hst := h.st.hang hv hu dv du
      have hz : ∀ y, (nets n k (hang d (fi n d) u)).countP (good L l s y) = 0 := fun y => none_over hst h.nd hu (by unfold op at o0; rw [hang_u]; omega)
      rw [hz, hz]; simp
    · rw [if_neg du, Nat.zero_mul]
  · by_cases du : 2 ≤ d u
    · have ou : 1 ≤ op d L u := by omega
      have hne : u ≠ fi n d := by rintro rfl; omega
      have hl := h.lone_l h0 hu (by omega) hne
      rw [if_pos du, lone_count h h0 hu du, ← lone_FF h h0 hu du ou]
      have kn := h.lone h0 hu du ou
      have IH : ∀ y, (nets n k (hang d (fi n d) u)).countP (good L l s y) * FF n (hang d (fi n d) u) L = _ := fun y => ih (s := s) (x := y) kn hL
      have eG := lone_GG h h0 hu du ou
      rw [eG] at IH
      by_cases hP : 2 ≤ Po n d L l (l u)
      · have ea := lone_cA (s := s) h h0 hu du
        have ea' := lone_cA (s := fun r => !s r) h h0 hu du
        have eb := lone_bA (s := s) h h0 hu du ou hP
        have eb' := lone_bA (s := fun r => !s r) h h0 hu du ou hP
        rw [eb, eb'] at IH
        have ca : cA n (hang d (fi n d) u) l s = cA n d l s - (if s (l (fi n d)) = true then 1 else 0) := by omega
        have ca' : cA n (hang d (fi n d) u) l (fun r => !s r) = cA n d l (fun r => !s r) - (if (!s (l (fi n d))) = true then 1 else 0) := by
          have : cA n (hang d (fi n d) u) l (fun r => !s r) + (if (!s (l (fi n d))) = true then 1 else 0) = cA n d l (fun r => !s r) := ea'
          omega
        rw [ca, ca'] at IH
        show _ = op d L u * (Er n d L l (l u) * (Po n d L l (l u) - 1) * _)
        have eE : Er n d L l (l u) = Pr n (up (gA n d L l) (l u) 1) := rfl
        rw [eE]
        generalize Pr n (up (gA n d L l) (l u) 1) * (Po n d L l (l u) - 1) = X at IH ⊢
        generalize FF n (hang d (fi n d) u) L = F at IH ⊢
        generalize op d L u = o at IH ⊢
        cases hsv : s (l (fi n d)) with
        | true =>
          cases hsu : s (l u) with
          | true =>
            simp only [hsv, hsu, Bool.and_self, if_true, Bool.not_true, Bool.false_eq_true, if_false, Nat.sub_zero] at IH ⊢
            show _ = o * (X * ((if x = 0 then 0 else K _ _ _ _) * _ * _))
            by_cases x0 : x = 0
            · simp [x0]
            · rw [if_neg x0, if_neg x0, ← IH]
              simp only [Nat.mul_assoc, Nat.mul_comm, Nat.mul_left_comm]
          | false =>
            simp only [hsv, hsu, Bool.and_false, if_true, Bool.not_true, Bool.not_false, Bool.false_eq_true, if_false, Nat.sub_zero] at IH ⊢
            show _ = o * (X * (K _ _ _ _ * _ * _))
            rw [← IH]
            simp only [Nat.mul_assoc, Nat.mul_comm, Nat.mul_left_comm]
        | false =>
          cases hsu : s (l u) with
          | true =>
            simp only [hsv, hsu, Bool.false_and, if_true, Bool.not_true, Bool.not_false, Bool.false_eq_true, if_false, Nat.sub_zero] at IH ⊢
            show _ = o * (X * (K _ _ _ _ * _ * _))
            rw [← IH]
            simp only [Nat.mul_assoc, Nat.mul_comm, Nat.mul_left_comm]
          | false =>
            simp only [hsv, hsu, Bool.false_and, if_true, Bool.not_true, Bool.not_false, Bool.false_eq_true, if_false, Nat.sub_zero] at IH ⊢
            show _ = o * (X * (K _ _ _ _ * _ * _))
            rw [← IH]
            simp only [Nat.mul_assoc, Nat.mul_comm, Nat.mul_left_comm]
      · have p0 : Po n d L l (l u) - 1 = 0 := by omega
        rw [p0, Nat.mul_zero] at IH
        simp only [Nat.zero_mul] at IH
        rw [p0, Nat.mul_zero, Nat.zero_mul, Nat.mul_zero]
        have hz : ∀ y, (nets n k (hang d (fi n d) u)).countP (good L l s y) = 0 := fun y => by
          rcases Nat.mul_eq_zero.mp (IH y) with q | q
          · exact q
          · exact absurd q (Nat.pos_iff_ne_zero.mp FF_pos)
        rw [hz, hz]; simp
    · -- the neighbour is an end by itself
      rw [if_neg du, Nat.zero_mul]
      have hd : d u = 1 ∧ deg L u = 0 := by unfold op at o0; omega
      rw [h.po_alone hu (by omega) hd.2, hd.1]; simp

/-- two parts, one of them a single device -/
theorem turn2 (h : Kn n (k + 1) d L l) (h0 : deg L (fi n d) = 0) (hL : L.length = k + 1) (hu : u < n) :
    (if 2 ≤ d u then (nets n k (hang d (fi n d) u)).countP (fun N => good L l s x (cab (fi n d) u :: N)) else 0) * FF n d L =
      op d L u * (if l u = l (fi n d) then 0 else if x = (if s (l (fi n d)) && s (l u) then 1 else 0) then 1 else 0) := by
  obtain ⟨hv, dv, _⟩ := h.st.fsp
  by_cases o0 : op d L u = 0
  · rw [o0, Nat.zero_mul]
    by_cases du : 2 ≤ d u
    · rw [if_pos du, lone_count h h0 hu du]
      have hne : u ≠ fi n d := by rintro rfl; omega
      have hst := h.st.hang hv hu dv du
      have hz : ∀ y, (nets n k (hang d (fi n d) u)).countP (good L l s y) = 0 := fun y => none_over hst h.nd hu (by unfold op at o0; rw [hang_u]; omega)
      rw [hz, hz]; simp
    · rw [if_neg du, Nat.zero_mul]
  · by_cases du : 2 ≤ d u
    · have ou : 1 ≤ op d L u := by omega
      have hne : u ≠ fi n d := by rintro rfl; omega
      have hl := h.lone_l h0 hu (by omega) hne
      have kn := h.lone h0 hu du ou
      have F1 : FF n (hang d (fi n d) u) L = 1 := Pr_one fun y hy => by
        have := kn.opsum
        have := S_ge (f := op (hang d (fi n d) u) L) hy
        rw [show op (hang d (fi n d) u) L y = 0 by omega]; rfl
      rw [if_pos du, lone_count h h0 hu du, ← lone_FF h h0 hu du ou, F1, Nat.one_mul, count_one k kn hL, count_one k kn hL, if_neg hl, Nat.mul_comm]
      congr 1
      cases s (l (fi n d)) && s (l u) with
      | true =>
        simp only [if_true]
        by_cases x0 : x = 0
        · subst x0; simp
        · rw [if_neg x0]
          by_cases x1 : x = 1
          · subst x1; simp
          · rw [if_neg x1, if_neg (show ¬ x - 1 = 0 by omega)]
      | false => simp
    · rw [if_neg du, Nat.zero_mul]
      have hd : d u = 1 ∧ deg L u = 0 := by unfold op at o0; omega
      by_cases e : l u = l (fi n d)
      · rw [if_pos e]; simp
      · exfalso
        have hct := h.ct
        have hal := h.st.alive
        have one : ∀ y, y < n → d y ≠ 0 → y = u ∨ y = fi n d := fun y hy dy => by
          by_cases e1 : l y = l u
          · exact Or.inl (h.alone hu (by omega) hd.2 hy dy e1)
          · by_cases e2 : l y = l (fi n d)
            · exact Or.inr (h.alone hv (by omega) h0 hy dy e2)
            · exfalso
              have := S_ge3 (f := fun r => if A n d l r then 1 else 0) (h.lb y hy) (h.lb _ hv) (h.lb u hu) e2 e1 (Ne.symm e)
              rw [if_pos (A_iff.mpr ⟨y, hy, rfl, dy⟩), if_pos (A_iff.mpr ⟨fi n d, hv, rfl, by omega⟩), if_pos (A_iff.mpr ⟨u, hu, rfl, by omega⟩)] at this
              omega
        have : S n (al d) ≤ S n (fun y => (if y = u then 1 else 0) + (if y = fi n d then 1 else 0)) := S_le fun y hy => by
          unfold al
          by_cases dy : d y = 0
          · simp [dy]
          · rw [if_neg dy]
            rcases one y hy dy with q | q <;> simp [q]
        rw [S_add, S_single (f := fun _ => 1) hu, S_single (f := fun _ => 1) hv] at this
        omega
/-- two parts -/
theorem two_parts {r0 r1 : Nat} (h : Kn n k d L l) (hL : L.length = k) (h0 : r0 < n) (h1 : r1 < n) (a0 : A n d l r0 = true) (a1 : A n d l r1 = true) (hne : r0 ≠ r1) (r : Nat) (hr : r < n) : A n d l r = true ↔ r = r0 ∨ r = r1 := by
  constructor
  · intro ha
    apply Classical.byContradiction
    intro hn
    have hct := h.ct
    have := S_ge3 (f := fun r => if A n d l r then 1 else 0) hr h0 h1 (fun q => hn (Or.inl q)) (fun q => hn (Or.inr q)) hne
    rw [if_pos ha, if_pos a0, if_pos a1] at this
    omega
  · rintro (q | q) <;> (subst q; assumption)
theorem two_cA {r0 r1 : Nat} (h : Kn n k d L l) (hL : L.length = k) (h0 : r0 < n) (h1 : r1 < n) (a0 : A n d l r0 = true) (a1 : A n d l r1 = true) (hne : r0 ≠ r1) (s : Nat → Bool) :
    cA n d l s = (if s r0 then 1 else 0) + (if s r1 then 1 else 0) := by
  have : cA n d l s = S n (fun r => (if r = r0 then (if s r then 1 else 0) else 0) + (if r = r1 then (if s r then 1 else 0) else 0)) := S_congr fun r hr => by
    have := two_parts h hL h0 h1 a0 a1 hne r hr
    by_cases e0 : r = r0
    · subst e0; rw [a0]; simp [hne]
    · by_cases e1 : r = r1
      · subst e1; rw [a1]; simp [e0]
      · have ha : A n d l r = false := by
          cases q : A n d l r with
          | false => rfl
          | true => exact absurd (this.mp q) (by simp [e0, e1])
        rw [ha]; simp [e0, e1]
  rw [this, S_add, S_single (f := fun r => if s r then 1 else 0) h0, S_single (f := fun r => if s r then 1 else 0) h1]
theorem K_two {s0 s1 : Bool} {x : Nat} : K ((if s0 then 1 else 0) + (if s1 then 1 else 0)) ((if !s0 then 1 else 0) + (if !s1 then 1 else 0)) 0 x = if x = (if s0 && s1 then 1 else 0) then 1 else 0 := by
  cases s0 <;> cases s1
  · exact K_zero
  · rw [K_gen (by decide) (by decide)]
    by_cases x0 : x = 0
    · subst x0; rfl
    · rw [if_neg (show ¬ x ≤ 0 by omega)]; simp [x0]
  · rw [K_gen (by decide) (by decide)]
    by_cases x0 : x = 0
    · subst x0; rfl
    · rw [if_neg (show ¬ x ≤ 0 by omega)]; simp [x0]
  · show K 2 0 0 x = _
    rw [K_full (by decide)]
    by_cases x1 : x = 1
    · subst x1; rfl
    · rw [if_neg (show ¬ x + 1 = 2 by omega)]; simp [x1]
end
/-- THE COUNT -/
theorem count_main : ∀ (k : Nat) {n : Nat} {d l : Nat → Nat} {L : List Cab} {s : Nat → Bool} {x : Nat}, Kn n k d L l → L.length ≤ k →
    (nets n k d).countP (good L l s x) * FF n d L = GG n d L l * (K (cA n d l s) (cA n d l fun r => !s r) (bA n d L l s) x * fact (bA n d L l s) * fact (bA n d L l fun r => !s r))
  | 0, n, d, l, L, s, x, h, hL => by
    obtain ⟨h1, h2, h3, h4, h5⟩ := h.st.two
    have hL0 : L = [] := List.eq_nil_of_length_eq_zero (by omega)
    subst hL0
    have a0 : A n d l (l (fi n d)) = true := A_iff.mpr ⟨fi n d, by omega, rfl, by omega⟩
    have a1 : A n d l (l (se n d)) = true := A_iff.mpr ⟨se n d, by omega, rfl, by omega⟩
    have hne : l (fi n d) ≠ l (se n d) := fun e => by
      have := h.alone (v := fi n d) (x := se n d) (by omega) (by omega) rfl h2 (by omega) e.symm
      omega
    have P0 : Po n d [] l (l (fi n d)) = 1 := by rw [h.po_alone (by omega) (by omega) rfl, h3]
    have P1 : Po n d [] l (l (se n d)) = 1 := by rw [h.po_alone (by omega) (by omega) rfl, h4]
    have hp : ∀ r, r < n → A n d l r = true → Po n d [] l r = 1 := fun r hr ha => by
      rcases (two_parts h rfl (h.lb _ (by omega)) (h.lb _ (by omega)) a0 a1 hne r hr).mp ha with q | q
      · rw [q, P0]
      · rw [q, P1]
    have hb : ∀ s', bA n d [] l s' = 0 := fun s' => S_zero' fun r hr => by
      cases ha : A n d l r with
      | true => rw [hp r hr ha]; simp
      | false => simp
    have hG : GG n d [] l = 1 := Pr_one fun r hr => by
      unfold gA
      cases ha : A n d l r with
      | true => rw [if_pos rfl, hp r hr ha]
      | false => rfl
    have hF : FF n d [] = 1 := Pr_one fun y hy => by
      have : d y ≤ 1 := by
        by_cases q : y = fi n d
        · rw [q]; omega
        · by_cases q2 : y = se n d
          · rw [q2]; omega
          · rw [h5 y hy q q2]; omega
      unfold op
      have : d y - deg [] y = 0 ∨ d y - deg [] y = 1 := by
        show d y - 0 = 0 ∨ d y - 0 = 1
        omega
      rcases this with q | q <;> rw [q] <;> rfl
    have ca := two_cA h rfl (h.lb (fi n d) (by omega)) (h.lb (se n d) (by omega)) a0 a1 hne
    rw [hb, hb, hG, hF, ca, ca, K_two]
    simp only [nets, fact, Nat.mul_one, Nat.one_mul]
    rw [List.countP_cons, List.countP_nil, Nat.zero_add]
    have e : (good [] l s x [(fi n d, se n d)] = true) ↔ x = (if s (l (fi n d)) && s (l (se n d)) then 1 else 0) := by
      rw [good_iff]
      have : List.countP (nwp [] l s) [(fi n d, se n d)] = (if s (l (fi n d)) && s (l (se n d)) then 1 else 0) := by
        rw [List.countP_cons, List.countP_nil, Nat.zero_add]
        unfold nwp
        simp
      rw [this]
      constructor
      · intro q; exact q.2.symm
      · intro q; exact ⟨fun c hc => (by simp at hc), q.symm⟩
    by_cases q : x = (if s (l (fi n d)) && s (l (se n d)) then 1 else 0)
    · rw [if_pos q, if_pos (e.mpr q)]
    · rw [if_neg q, if_neg fun z => q (e.mp z)]
  | k + 1, n, d, l, L, s, x, h, hL => by
    obtain ⟨hv, dv, _⟩ := h.st.fsp
    by_cases h0 : deg L (fi n d) = 0
    · rw [count_step, ← S_mulr]
      by_cases h3 : L.length ≤ k
      · rw [S_congr (fun u hu => turn3 (fun {d l L s x} => count_main k) h h0 h3 hu)]
        have gr : S n (fun u => op d L u * (Er n d L l (l u) * (Po n d L l (l u) - 1) * wv (s (l (fi n d))) (s (l u)) (cA n d l s) (cA n d l fun r => !s r) (bA n d L l s) (bA n d L l fun r => !s r) x))
            = S n (fun r => Po n d L l r * (Er n d L l r * (Po n d L l r - 1) * wv (s (l (fi n d))) (s r) (cA n d l s) (cA n d l fun r => !s r) (bA n d L l s) (bA n d L l fun r => !s r) x)) := by
          rw [← S_group (l := l) h.lb]
          refine S_congr fun r hr => ?_
          unfold Po
          rw [← S_mulr]
          refine S_congr fun y hy => ?_
          by_cases e : l y = r
          · subst e; simp
          · simp [e]
        rw [gr]
        have ge : S n (fun r => Po n d L l r * (Er n d L l r * (Po n d L l r - 1) * wv (s (l (fi n d))) (s r) (cA n d l s) (cA n d l fun r => !s r) (bA n d L l s) (bA n d L l fun r => !s r) x))
            = S n (fun r => GG n d L l * ((if A n d l r && s r then Po n d L l r - 1 else 0) * wv (s (l (fi n d))) true (cA n d l s) (cA n d l fun r => !s r) (bA n d L l s) (bA n d L l fun r => !s r) x
              + (if A n d l r && !s r then Po n d L l r - 1 else 0) * wv (s (l (fi n d))) false (cA n d l s) (cA n d l fun r => !s r) (bA n d L l s) (bA n d L l fun r => !s r) x)) := by
          refine S_congr fun r hr => ?_
          cases ha : A n d l r with
          | false => rw [Po_dead ha]; simp
          | true =>
            rw [← Nat.mul_assoc, ← Nat.mul_assoc, Er_mul hr ha, Nat.mul_assoc]
            cases hs : s r <;> simp [hs]
        rw [ge, S_mul, S_add, S_mulr, S_mulr]
        by_cases hG : GG n d L l = 0
        · rw [hG, Nat.zero_mul, Nat.zero_mul]
        · congr 1
          have fr := h.free (s := s) hG
          have hct := h.ct
          have hca := cA_two (n := n) (d := d) (l := l) (s := s)
          have av : A n d l (l (fi n d)) = true := A_iff.mpr ⟨fi n d, hv, rfl, by omega⟩
          have pv := h.po_alone hv (by omega) h0
          rw [dv] at pv
          -- one part alone on a side: its one plug is the known one
          have side : ∀ t : Nat → Bool, t (l (fi n d)) = true → 1 ≤ cA n d l t ∧ (cA n d l t = 1 → bA n d L l t = 0) := fun t ht => by
            have g1 := S_ge (f := fun r => if A n d l r && t r then 1 else 0) (h.lb _ hv)
            rw [av, ht] at g1
            simp only [Bool.and_self, if_true] at g1
            refine ⟨g1, fun e => S_zero' fun r hr => ?_⟩
            by_cases q : r = l (fi n d)
            · rw [q, pv]; simp
            · have g2 := S_ge2 (f := fun r => if A n d l r && t r then 1 else 0) (h.lb _ hv) hr (Ne.symm q)
              rw [av, ht] at g2
              simp only [Bool.and_self, if_true] at g2
              have : (A n d l r && t r) = false := by
                cases z : A n d l r && t r with
                | false => rfl
                | true =>
                  rw [z] at g2
                  unfold cA at e
                  simp only [if_true] at g2
                  omega
              rw [this]; simp
          have none_side : ∀ t : Nat → Bool, cA n d l t = 0 → bA n d L l t = 0 := fun t e => S_zero' fun r hr => by
            have g1 := S_ge (f := fun r => if A n d l r && t r then 1 else 0) hr
            unfold cA at e
            have : (A n d l r && t r) = false := by
              cases z : A n d l r && t r with
              | false => rfl
              | true =>
                rw [z] at g1
                simp only [if_true] at g1
                omega
            rw [this]; simp
          cases hs : s (l (fi n d)) with
          | true =>
            obtain ⟨g1, g2⟩ := side s hs
            have key := K_step_in (a := cA n d l s) (ao := cA n d l fun r => !s r) (b := bA n d L l s) (c := bA n d L l fun r => !s r) (x := x) g1 (by omega) (by omega) g2 (none_side _)
            exact key
          | false =>
            obtain ⟨g1, g2⟩ := side (fun r => !s r) (by rw [hs]; rfl)
            have key := K_step_out (a := cA n d l s) (ao := cA n d l fun r => !s r) (b := bA n d L l s) (c := bA n d L l fun r => !s r) (x := x) g1 (by omega) (by omega) g2 (none_side _)
            exact key
      · have hLe : L.length = k + 1 := by omega
        rw [S_congr (fun u hu => turn2 h h0 hLe hu)]
        -- the other part
        have hal := h.st.alive
        obtain ⟨u0, hu0, du0, ne0⟩ : ∃ u, u < n ∧ d u ≠ 0 ∧ u ≠ fi n d := by
          have := S_upd (n := n) (i := fi n d) (f := al d) (g := up (al d) (fi n d) 0) hv fun j _ hj => up_ne hj
          rw [up_same, al_one (show d (fi n d) ≠ 0 by omega)] at this
          obtain ⟨u, hu, pu⟩ := S_pos (n := n) (f := up (al d) (fi n d) 0) (by omega)
          have : u ≠ fi n d := by rintro rfl; rw [up_same] at pu; omega
          rw [up_ne this] at pu
          refine ⟨u, hu, fun q => ?_, this⟩
          unfold al at pu
          rw [if_pos q] at pu; omega
        have hl := h.lone_l h0 hu0 du0 ne0
        have av : A n d l (l (fi n d)) = true := A_iff.mpr ⟨fi n d, hv, rfl, by omega⟩
        have au : A n d l (l u0) = true := A_iff.mpr ⟨u0, hu0, rfl, du0⟩
        have tp := two_parts h hLe (h.lb _ hv) (h.lb u0 hu0) av au (Ne.symm hl)
        have pv := h.po_alone hv (by omega) h0
        rw [dv] at pv
        have ps : S n (Po n d L l) = 2 := by
          have := h.opsum
          rw [h.posum]; omega
        have pe : S n (Po n d L l) = S n (fun r => (if r = l (fi n d) then Po n d L l r else 0) + (if r = l u0 then Po n d L l r else 0)) := S_congr fun r hr => by
          by_cases e0 : r = l (fi n d)
          · subst e0; simp [Ne.symm hl]
          · by_cases e1 : r = l u0
            · subst e1; simp [hl]
            · have ha : A n d l r = false := by
                cases q : A n d l r with
                | false => rfl
                | true => exact absurd ((tp r hr).mp q) (by simp [e0, e1])
              rw [Po_dead ha]; simp
        rw [S_add, S_single (h.lb _ hv), S_single (h.lb _ hu0), pv, ps] at pe
        have pu : Po n d L l (l u0) = 1 := by omega
        have hb : ∀ s', bA n d L l s' = 0 := fun s' => S_zero' fun r hr => by
          cases ha : A n d l r with
          | true =>
            rcases (tp r hr).mp ha with q | q
            · rw [q, pv]; simp
            · rw [q, pu]; simp
          | false => simp
        have hG : GG n d L l = 1 := Pr_one fun r hr => by
          unfold gA
          cases ha : A n d l r with
          | true =>
            rw [if_pos rfl]
            rcases (tp r hr).mp ha with q | q
            · rw [q, pv]
            · rw [q, pu]
          | false => rfl
        have ca := two_cA h hLe (h.lb (fi n d) hv) (h.lb u0 hu0) av au (Ne.symm hl)
        rw [hb, hb, hG, ca, ca, K_two]
        simp only [fact, Nat.mul_one, Nat.one_mul]
        have gr : S n (fun u => op d L u * (if l u = l (fi n d) then 0 else if x = (if s (l (fi n d)) && s (l u) then 1 else 0) then 1 else 0))
            = S n (fun r => Po n d L l r * (if r = l (fi n d) then 0 else if x = (if s (l (fi n d)) && s r then 1 else 0) then 1 else 0)) := by
          rw [← S_group (l := l) h.lb]
          refine S_congr fun r hr => ?_
          unfold Po
          rw [← S_mulr]
          refine S_congr fun y hy => ?_
          by_cases e : l y = r
          · subst e; simp
          · simp [e]
        rw [gr]
        have ge : S n (fun r => Po n d L l r * (if r = l (fi n d) then 0 else if x = (if s (l (fi n d)) && s r then 1 else 0) then 1 else 0))
            = S n (fun r => if r = l u0 then (if x = (if s (l (fi n d)) && s r then 1 else 0) then 1 else 0) else 0) := S_congr fun r hr => by
          by_cases e1 : r = l u0
          · subst e1; rw [pu, if_neg hl, if_pos rfl, Nat.one_mul]
          · rw [if_neg e1]
            by_cases e0 : r = l (fi n d)
            · rw [if_pos e0, Nat.mul_zero]
            · have ha : A n d l r = false := by
                cases q : A n d l r with
                | false => rfl
                | true => exact absurd ((tp r hr).mp q) (by simp [e0, e1])
              rw [Po_dead ha, Nat.zero_mul]
        rw [ge, S_single (h.lb u0 hu0)]
    · obtain ⟨w, f⟩ := h.leaf h0
      rw [f.count h]
      by_cases dw : 2 ≤ d w
      · rw [if_pos dw]
        have hlen : (L.erase (cab (fi n d) w)).length = L.length - 1 := List.length_erase_of_mem f.inL
        have := count_main k (s := s) (x := x) (f.kn h dw) (by omega)
        have eo := f.op h dw
        have eA := f.A h dw
        have eP : ∀ r, Po n (hang d (fi n d) w) (L.erase (cab (fi n d) w)) l r = Po n d L l r := fun r => S_congr fun y _ => by rw [eo]
        have e1 : FF n (hang d (fi n d) w) (L.erase (cab (fi n d) w)) = FF n d L := Pr_congr fun y _ => by rw [eo]
        have e2 : GG n (hang d (fi n d) w) (L.erase (cab (fi n d) w)) l = GG n d L l := Pr_congr fun r _ => by unfold gA; rw [eA, eP]
        have e3 : ∀ t, cA n (hang d (fi n d) w) l t = cA n d l t := fun t => S_congr fun r _ => by rw [eA]
        have e4 : ∀ t, bA n (hang d (fi n d) w) (L.erase (cab (fi n d) w)) l t = bA n d L l t := fun t => S_congr fun r _ => by rw [eA, eP]
        rw [e1, e2, e3, e3, e4, e4] at this
        exact this
      · rw [if_neg dw, Nat.zero_mul]
        have : GG n d L l = 0 := Pr_zero (h.lb _ hv) (by
          unfold gA
          rw [if_pos (A_iff.mpr ⟨fi n d, hv, rfl, by omega⟩)]
          refine S_zero' fun y hy => ?_
          split
          · rename_i e
            by_cases dy : d y = 0
            · unfold op; omega
            · have hdw := h.dg w f.wn
              have e1 := f.dge w
              rw [if_pos (Or.inr rfl)] at e1
              have := f.one
              unfold op
              rcases f.closed h dw hy dy e with q | q <;> (subst q; omega)
          · rfl)
        rw [this, Nat.zero_mul]
end Pn
end
section
/-! Parts by their least devices; known cables that are cables of a net. -/
set_option linter.all false
set_option maxHeartbeats 1000000
namespace Pn
def mg (f : Nat → Nat) (c : Cab) : Nat → Nat := fun x => if f x = max (f c.1) (f c.2) then min (f c.1) (f c.2) else f x
def lab (L : List Cab) : Nat → Nat := L.foldl mg id
theorem lab_nil : lab [] = id := rfl
theorem lab_snoc (L : List Cab) (c : Cab) : lab (L ++ [c]) = mg (lab L) c := by unfold lab; rw [List.foldl_append]; rfl
/-- induction from behind -/
theorem snoc_ind {α : Type} {P : List α → Prop} (h0 : P []) (h1 : ∀ L c, P L → P (L ++ [c])) (L : List α) : P L := by
  have : ∀ M : List α, P M.reverse := fun M => by
    induction M with
    | nil => exact h0
    | cons c M ih => rw [List.reverse_cons]; exact h1 _ _ ih
  simpa using this L.reverse
theorem lab_le (L : List Cab) : ∀ x, lab L x ≤ x := by
  induction L using snoc_ind with
  | h0 => intro x; exact Nat.le_refl _
  | h1 L c ih =>
    intro x
    rw [lab_snoc]
    unfold mg
    have := ih x
    split <;> omega
theorem lab_idem (L : List Cab) : ∀ x, lab L (lab L x) = lab L x := by
  induction L using snoc_ind with
  | h0 => intro x; rfl
  | h1 L c ih =>
    intro x
    rw [lab_snoc]
    have i1 := ih c.1
    have i2 := ih c.2
    have ix := ih x
    unfold mg
    generalize lab L = f at *
    by_cases e : f x = max (f c.1) (f c.2)
    · rw [if_pos e]
      have : f (min (f c.1) (f c.2)) = min (f c.1) (f c.2) := by
        rcases Nat.le_total (f c.1) (f c.2) with q | q
        · rw [show min (f c.1) (f c.2) = f c.1 by omega, i1]
        · rw [show min (f c.1) (f c.2) = f c.2 by omega, i2]
      rw [this]
      split <;> omega
    · rw [if_neg e, ix, if_neg e]
theorem lab_cable (L : List Cab) : ∀ c ∈ L, lab L c.1 = lab L c.2 := by
  induction L using snoc_ind with
  | h0 => intro c hc; simp at hc
  | h1 L e ih =>
    intro c hc
    rw [lab_snoc]
    rcases List.mem_append.mp hc with q | q
    · unfold mg; rw [ih c q]
    · simp at q; subst q
      unfold mg
      split <;> split <;> omega
theorem lab_conn (L : List Cab) : ∀ x y, lab L x = lab L y → Conn L x y := by
  induction L using snoc_ind with
  | h0 => intro x y h; have : x = y := h; subst this; exact .refl _
  | h1 L e ih =>
    have up : ∀ {x y}, Conn L x y → Conn (L ++ [e]) x y := fun h => h.mono fun c hc => by simp [hc]
    have ee : Conn (L ++ [e]) e.1 e.2 := .cable (by simp)
    -- every device hangs together with its label's cable
    have key : ∀ x, lab L x = max (lab L e.1) (lab L e.2) ∨ lab L x = min (lab L e.1) (lab L e.2) → Conn (L ++ [e]) e.1 x := fun x h => by
      by_cases q : lab L x = lab L e.1
      · exact (up (ih _ _ q)).symm
      · have : lab L x = lab L e.2 := by omega
        exact ee.trans (up (ih _ _ this)).symm
    intro x y h
    rw [lab_snoc] at h
    unfold mg at h
    by_cases e1 : lab L x = max (lab L e.1) (lab L e.2)
    · rw [if_pos e1] at h
      by_cases e2 : lab L y = max (lab L e.1) (lab L e.2)
      · exact (key x (Or.inl e1)).symm.trans (key y (Or.inl e2))
      · rw [if_neg e2] at h
        exact (key x (Or.inl e1)).symm.trans (key y (Or.inr h.symm))
    · rw [if_neg e1] at h
      by_cases e2 : lab L y = max (lab L e.1) (lab L e.2)
      · rw [if_pos e2] at h
        exact (key x (Or.inr h)).symm.trans (key y (Or.inl e2))
      · rw [if_neg e2] at h
        exact up (ih _ _ h)
/-- each cable joins two parts -/
def NoRing (L : List Cab) : Prop := ∀ L1 c L2, L = L1 ++ c :: L2 → lab L1 c.1 ≠ lab L1 c.2
theorem NoRing.init {L : List Cab} {c : Cab} (h : NoRing (L ++ [c])) : NoRing L := fun L1 e L2 q => h L1 e (L2 ++ [c]) (by rw [q]; simp)
theorem mg_rep {L : List Cab} {c : Cab} (hne : lab L c.1 ≠ lab L c.2) (r : Nat) : mg (lab L) c r = r ↔ lab L r = r ∧ r ≠ max (lab L c.1) (lab L c.2) := by
  have i1 := lab_idem L c.1
  have i2 := lab_idem L c.2
  unfold mg
  constructor
  · intro h
    by_cases e : lab L r = max (lab L c.1) (lab L c.2)
    · rw [if_pos e] at h
      exfalso
      have : lab L r = r := by
        rcases Nat.le_total (lab L c.1) (lab L c.2) with q | q
        · rw [show min (lab L c.1) (lab L c.2) = lab L c.1 by omega] at h
          rw [← h, i1]
        · rw [show min (lab L c.1) (lab L c.2) = lab L c.2 by omega] at h
          rw [← h, i2]
      omega
    · rw [if_neg e] at h
      exact ⟨h, by omega⟩
  · intro h
    rw [if_neg (by omega), h.1]
theorem reps_count {n : Nat} (L : List Cab) (hm : ∀ c ∈ L, c.1 < n ∧ c.2 < n) (hr : NoRing L) : S n (fun r => if lab L r = r then 1 else 0) + L.length = n := by
  induction L using snoc_ind with
  | h0 =>
    have : ∀ m, S m (fun r => if lab [] r = r then 1 else 0) = m := fun m => by
      induction m with
      | zero => rfl
      | succ m ih => simp only [S]; rw [ih, if_pos (show lab [] m = m from rfl)]
    simpa using this n
  | h1 L c ih =>
    have ih := ih (fun e he => hm e (by simp [he])) hr.init
    have hne := hr L c [] (by simp)
    have hc := hm c (by simp)
    have hM : max (lab L c.1) (lab L c.2) < n := by
      have := lab_le L c.1
      have := lab_le L c.2
      omega
    have := S_upd (n := n) (i := max (lab L c.1) (lab L c.2)) (f := fun r => if lab L r = r then 1 else 0) (g := fun r => if lab (L ++ [c]) r = r then 1 else 0) hM fun r hr hne' => by
      show (if lab (L ++ [c]) r = r then 1 else 0) = (if lab L r = r then 1 else 0)
      rw [lab_snoc]
      by_cases q : lab L r = r
      · rw [if_pos q, if_pos ((mg_rep hne r).mpr ⟨q, hne'⟩)]
      · rw [if_neg q, if_neg fun z => q ((mg_rep hne r).mp z).1]
    have e1 : lab L (max (lab L c.1) (lab L c.2)) = max (lab L c.1) (lab L c.2) := by
      rcases Nat.le_total (lab L c.1) (lab L c.2) with q | q
      · rw [show max (lab L c.1) (lab L c.2) = lab L c.2 by omega]; exact lab_idem L c.2
      · rw [show max (lab L c.1) (lab L c.2) = lab L c.1 by omega]; exact lab_idem L c.1
    have e2 : ¬ lab (L ++ [c]) (max (lab L c.1) (lab L c.2)) = max (lab L c.1) (lab L c.2) := fun z => by
      rw [lab_snoc] at z
      exact ((mg_rep hne _).mp z).2 rfl
    rw [if_pos e1, if_neg e2] at this
    rw [List.length_append]
    simp only [List.length_cons, List.length_nil]
    omega

/-- known cables, all of one net -/
structure Sub (n : Nat) (d : Nat → Nat) (L : List Cab) : Prop where
  n2 : 2 ≤ n
  pos : ∀ x, x < n → 1 ≤ d x
  sum : S n d = 2 * (n - 1)
  mem : ∀ c ∈ L, c.1 < c.2 ∧ c.2 < n
  nd : L.Nodup
  len : L.length ≤ n - 1
  dg : ∀ x, x < n → deg L x ≤ d x
  ring : NoRing L
  open_ : ∀ r, r < n → lab L r = r → (∃ r', r' < n ∧ lab L r' = r' ∧ r' ≠ r) → 1 ≤ Po n d L (lab L) r
section
variable {n : Nat} {d : Nat → Nat} {L N : List Cab}
theorem Sub.of_net (hN : Nt n d N) (pos : ∀ x, x < n → 1 ≤ d x) (nd : L.Nodup) (hs : ∀ c ∈ L, c ∈ N) : Sub n d L := by
  have hal : S n (al d) = n := by
    have : ∀ m, m ≤ n → S m (al d) = m := fun m => by
      induction m with
      | zero => intro _; rfl
      | succ m ih =>
        intro h
        simp only [S]
        rw [ih (by omega)]
        have := pos m (by omega)
        rw [al_one (show d m ≠ 0 by omega)]
    exact this n (Nat.le_refl _)
  have hlen := hN.len
  have hmem : ∀ c ∈ L, c.1 < c.2 ∧ c.2 < n := fun c hc => ⟨(hN.mem c (hs c hc)).1, (hN.mem c (hs c hc)).2.1⟩
  have hn1 : 1 ≤ N.length := by cases hN <;> simp
  have hll := length_sub nd hs
  have hsum : S n d = 2 * N.length := by
    rw [← deg_sum (n := n) (L := N) fun c hc => ⟨(hN.mem c hc).1, (hN.mem c hc).2.1⟩]
    exact S_congr fun x hx => (hN.deg x hx).symm
  have hdg : ∀ x, x < n → deg L x ≤ d x := fun x hx => by
    rw [← hN.deg x hx]; exact countP_sub nd hs
  refine ⟨by omega, pos, by omega, hmem, nd, by omega, hdg, ?_, ?_⟩
  · intro L1 c L2 e q
    have hc : c ∈ N := hs c (by rw [e]; simp)
    refine hN.bridge L1 c hc (fun z => ?_) (fun x hx => hs x (by rw [e]; simp [hx])) (lab_conn L1 _ _ q)
    rw [e] at nd
    have := (List.nodup_append.mp nd).2.2 c z c (by simp)
    exact this rfl
  · intro r hr hrr ⟨r', hr', hrr', hne⟩
    apply Classical.byContradiction
    intro hp
    have hp0 : Po n d L (lab L) r = 0 := by omega
    have := (hN.conn r r' hr hr' (pos r hr) (pos r' hr')).keep (p := fun x => lab L x = r) fun c hc => by
      by_cases hcL : c ∈ L
      · show lab L c.1 = r ↔ lab L c.2 = r
        rw [lab_cable L c hcL]
      · have no : ∀ x, tch c x = true → x < n → lab L x ≠ r := fun x ht hx e => by
          have h1 := S_ge (f := fun y => if lab L y = r then op d L y else 0) hx
          have h2 : S n (fun y => if lab L y = r then op d L y else 0) = 0 := hp0
          rw [h2, if_pos e] at h1
          have h3 : (c :: L).Nodup := List.nodup_cons.mpr ⟨hcL, nd⟩
          have h4 := countP_sub (p := fun e => tch e x) h3 (N := N) fun e he => by
            rcases List.mem_cons.mp he with q | q
            · rw [q]; exact hc
            · exact hs e q
          have h5 := hN.deg x hx
          have h6 : deg (c :: L) x = deg L x + 1 := by rw [deg_cons, if_pos ht]
          have h7 := hdg x hx
          unfold op at h1
          unfold deg at h1 h5 h6 h7
          omega
        have hm := hN.mem c hc
        constructor
        · intro e; exact absurd e (no c.1 (tch_iff.mpr (Or.inl rfl)) (by omega))
        · intro e; exact absurd e (no c.2 (tch_iff.mpr (Or.inr rfl)) (by omega))
    have := this.mp hrr
    rw [hrr'] at this
    exact hne this
theorem Sub.lb (h : Sub n d L) : ∀ x, x < n → lab L x < n := fun x hx => Nat.lt_of_le_of_lt (lab_le L x) hx
/-- the labels that are there -/
theorem Sub.A (h : Sub n d L) (r : Nat) (hr : r < n) : A n d (lab L) r = decide (lab L r = r) := by
  rw [Bool.eq_iff_iff, A_iff, decide_eq_true_eq]
  constructor
  · rintro ⟨x, hx, e, _⟩
    rw [← e]; exact lab_idem L x
  · intro e
    exact ⟨r, hr, e, by have := h.pos r hr; omega⟩
theorem Sub.parts (h : Sub n d L) : S n (fun r => if lab L r = r then 1 else 0) + L.length = n := reps_count L (fun c hc => ⟨by have := h.mem c hc; omega, (h.mem c hc).2⟩) h.ring
theorem Sub.stt (h : Sub n d L) : Stt n (n - 2) d := by
  have hal : S n (al d) = n := by
    have : ∀ m, m ≤ n → S m (al d) = m := fun m => by
      induction m with
      | zero => intro _; rfl
      | succ m ih =>
        intro hm
        simp only [S]
        rw [ih (by omega)]
        have := h.pos m (by omega)
        rw [al_one (show d m ≠ 0 by omega)]
    exact this n (Nat.le_refl _)
  exact ⟨by have := h.n2; omega, by rw [h.sum]; have := h.n2; omega⟩
theorem Sub.kn (h : Sub n d L) : Kn n (n - 2) d L (lab L) := by
  refine ⟨h.stt, fun c hc => ?_, h.nd, h.dg, h.lb, fun x y _ _ _ _ e => lab_conn L x y e, ?_⟩
  · obtain ⟨a, b⟩ := h.mem c hc
    exact ⟨a, b, h.pos _ (by omega), h.pos _ b, lab_cable L c hc⟩
  · rw [S_congr (g := fun r => if lab L r = r then 1 else 0) fun r hr => by rw [h.A r hr]; simp]
    have := h.parts
    have := h.n2
    omega
end
end Pn
end
section
/-! Words and nets; what the law reckons from all nets, and what the program tells. -/
set_option linter.all false
set_option maxHeartbeats 1000000
namespace Pn
theorem asc_unique {l m : List Nat} (h1 : l.Pairwise (· < ·)) (h2 : m.Pairwise (· < ·)) (h : ∀ a, a ∈ l ↔ a ∈ m) : l = m := by
  have n1 : l.Nodup := h1.imp fun q => by omega
  have n2 : m.Nodup := h2.imp fun q => by omega
  exact List.Perm.eq_of_pairwise (le := fun a b => a < b) (fun a b _ _ x y => by omega) h1 h2 ((List.perm_ext_iff_of_nodup n1 n2).mpr h)

/-! ### sorted cables -/
def leC (a b : Cab) : Bool := decide (a.1 < b.1 ∨ (a.1 = b.1 ∧ a.2 ≤ b.2))
theorem leC_iff {a b : Cab} : leC a b = true ↔ a.1 < b.1 ∨ (a.1 = b.1 ∧ a.2 ≤ b.2) := by unfold leC; rw [decide_eq_true_eq]
def srt (l : List Cab) : List Cab := l.mergeSort leC
theorem srt_perm (l : List Cab) : (srt l).Perm l := List.mergeSort_perm l leC
theorem srt_of {l out : List Cab} (hp : out.Perm l) (hs : out.Pairwise (fun a b => leC a b = true)) : out = srt l := by
  refine List.Perm.eq_of_pairwise (le := fun a b => leC a b = true) (fun a b _ _ x y => ?_) hs (List.pairwise_mergeSort (fun a b c x y => ?_) (fun a b => ?_) l) (hp.trans (srt_perm l).symm)
  · rw [leC_iff] at x y
    obtain ⟨a1, a2⟩ := a
    obtain ⟨b1, b2⟩ := b
    simp only [Prod.mk.injEq] at *
    omega
  · rw [leC_iff] at x y ⊢; omega
  · rw [Bool.or_eq_true, leC_iff, leC_iff]; omega

/-! ### words -/
def pw (w : List Nat) (v : Nat) : Nat := w.count v + 1
def raw (n : Nat) (d : Nat → Nat) : List Nat → List Cab
  | [] => [(fi n d, se n d)]
  | u :: w => cab (fi n d) u :: raw n (hang d (fi n d) u) w
def sg (n : Nat) (w b : List Nat) : List Nat := (List.range n).filter fun s => decide (b.count s < w.count s)
def stepW (n : Nat) (w : List Nat) (l : List (List Nat)) : List (List Nat) := l.flatMap fun b => (sg n w b).map fun s => b ++ [s]
def itr (n : Nat) (w : List Nat) : Nat → List (List Nat) → List (List Nat)
  | 0, l => l
  | k + 1, l => stepW n w (itr n w k l)
theorem itr_succ {n : Nat} {w : List Nat} : ∀ (k : Nat) (l : List (List Nat)), itr n w (k + 1) l = itr n w k (stepW n w l)
  | 0, l => rfl
  | k + 1, l => by
    show stepW n w (itr n w (k + 1) l) = stepW n w (itr n w k (stepW n w l))
    rw [itr_succ k l]
theorem stepW_flat {n : Nat} {w : List Nat} (l : List (List Nat)) : stepW n w l = l.flatMap fun b => stepW n w [b] := by
  unfold stepW
  congr 1
  funext b
  simp
theorem itr_flat {n : Nat} {w : List Nat} : ∀ (k : Nat) (l : List (List Nat)), itr n w k l = l.flatMap fun b => itr n w k [b]
  | 0, l => by simp [itr]
  | k + 1, l => by
    rw [itr_succ, itr_flat k (stepW n w l)]
    have : ∀ b, itr n w (k + 1) [b] = (stepW n w [b]).flatMap fun c => itr n w k [c] := fun b => by rw [itr_succ, itr_flat k (stepW n w [b])]
    rw [stepW_flat l, List.flatMap_assoc]
    congr 1
    funext b
    rw [this]
def words (w : List Nat) : List (List Nat) := itr (w.length + 2) w w.length [[]]
/-- the state behind a beginning, its cables -/
def aft (n : Nat) (d : Nat → Nat) : List Nat → Nat → Nat
  | [] => d
  | u :: b => aft n (hang d (fi n d) u) b
def pre (n : Nat) (d : Nat → Nat) : List Nat → List Cab
  | [] => []
  | u :: b => cab (fi n d) u :: pre n (hang d (fi n d) u) b
theorem aft_snoc {n : Nat} : ∀ (b : List Nat) (d : Nat → Nat) (s : Nat), aft n d (b ++ [s]) = hang (aft n d b) (fi n (aft n d b)) s
  | [], d, s => rfl
  | u :: b, d, s => aft_snoc b _ s
theorem pre_snoc {n : Nat} : ∀ (b : List Nat) (d : Nat → Nat) (s : Nat), pre n d (b ++ [s]) = pre n d b ++ [cab (fi n (aft n d b)) s]
  | [], d, s => rfl
  | u :: b, d, s => by
    show cab _ u :: pre n _ (b ++ [s]) = cab _ u :: (pre n _ b ++ [_])
    rw [pre_snoc b _ s]; rfl
theorem raw_split {n : Nat} : ∀ (b : List Nat) (d : Nat → Nat), raw n d b = pre n d b ++ [(fi n (aft n d b), se n (aft n d b))]
  | [], d => rfl
  | u :: b, d => by
    show cab _ u :: raw n _ b = cab _ u :: (pre n _ b ++ _)
    rw [raw_split b]; rfl
/-- a beginning of a word: its state -/
structure Beg (w b : List Nat) (d : Nat → Nat) : Prop where
  st : Stt (w.length + 2) (w.length - b.length) d
  le : b.length ≤ w.length
  cnt : ∀ s, s < w.length + 2 → (d s = 0 ∧ b.count s = w.count s) ∨ (b.count s ≤ w.count s ∧ d s = w.count s + 1 - b.count s)
theorem count_sum {n : Nat} (w : List Nat) (h : ∀ s ∈ w, s < n) : S n (fun s => w.count s) = w.length := by
  induction w with
  | nil => exact S_zero' fun _ _ => rfl
  | cons a w ih =>
    have e : S n (fun s => (a :: w).count s) = S n (fun s => w.count s + (if s = a then 1 else 0)) := S_congr fun s _ => by
      rw [List.count_cons]
      by_cases q : s = a
      · subst q; simp
      · have : ¬ a = s := fun z => q z.symm
        simp [q, this]
    rw [e, S_add, ih fun s hs => h s (by simp [hs]), S_single (f := fun _ => 1) (h a (by simp))]
    rfl
theorem beg_nil {w : List Nat} (h : ∀ s ∈ w, s < w.length + 2) : Beg w [] (pw w) := by
  refine ⟨⟨?_, ?_⟩, Nat.zero_le _, fun s _ => Or.inr ⟨Nat.zero_le _, ?_⟩⟩
  · have : ∀ m, S m (al (pw w)) = m := fun m => by
      induction m with
      | zero => rfl
      | succ m ih => simp only [S]; rw [ih, al_one (show pw w m ≠ 0 by unfold pw; omega)]
    rw [this]; simp
  · have e : S (w.length + 2) (pw w) = S (w.length + 2) (fun s => w.count s + 1) := rfl
    have o : ∀ m, S m (fun _ => 1) = m := fun m => by
      induction m with
      | zero => rfl
      | succ m ih => simp only [S]; rw [ih]
    rw [e, S_add, count_sum w h, o]
    simp only [List.length_nil]; omega
  · show w.count s + 1 = w.count s + 1 - 0
    omega
theorem Beg.sg {w b : List Nat} {d : Nat → Nat} (h : Beg w b d) : sg (w.length + 2) w b = (List.range (w.length + 2)).filter fun u => decide (2 ≤ d u) := by
  unfold Pn.sg
  refine List.filter_congr fun s hs => ?_
  rw [List.mem_range] at hs
  have := h.cnt s hs
  rw [Bool.eq_iff_iff, decide_eq_true_eq, decide_eq_true_eq]
  omega
theorem Beg.snoc {w b : List Nat} {d : Nat → Nat} (h : Beg w b d) (hl : b.length < w.length) {u : Nat} (hu : u < w.length + 2) (du : 2 ≤ d u) : Beg w (b ++ [u]) (hang d (fi (w.length + 2) d) u) := by
  obtain ⟨hv, dv, _⟩ := h.st.fsp
  have hne : u ≠ fi (w.length + 2) d := fun q => by rw [q] at du; omega
  refine ⟨?_, by simp; omega, fun s hs => ?_⟩
  · have := h.st
    have e : w.length - b.length = (w.length - (b ++ [u]).length) + 1 := by simp; omega
    rw [e] at this
    exact this.hang hv hu dv du
  · have c := h.cnt s hs
    have e : (b ++ [u]).count s = b.count s + (if u = s then 1 else 0) := by
      rw [List.count_append, List.count_cons, List.count_nil]
      by_cases q : u = s
      · subst q; simp
      · simp [q]
    rw [e]
    by_cases q1 : s = fi (w.length + 2) d
    · left
      rw [q1] at c ⊢
      rw [hang_v hne, if_neg hne]
      refine ⟨rfl, ?_⟩
      omega
    · by_cases q2 : s = u
      · right
        rw [q2] at c ⊢
        rw [hang_u, if_pos rfl]
        omega
      · rw [hang_o q1 q2, if_neg (fun z => q2 z.symm)]
        exact c
/-- the nets of all words, in their order -/
theorem nets_words {w : List Nat} : ∀ (k : Nat) (b : List Nat), w.length - b.length = k → b.length ≤ w.length → Beg w b (aft (w.length + 2) (pw w) b) →
    (itr (w.length + 2) w k [b]).map (raw (w.length + 2) (pw w)) = (nets (w.length + 2) k (aft (w.length + 2) (pw w) b)).map (pre (w.length + 2) (pw w) b ++ ·)
  | 0, b, _, _, _ => by simp [itr, nets, raw_split]
  | k + 1, b, hk, hb, h => by
    rw [itr_succ, itr_flat]
    have e : stepW (w.length + 2) w [b] = (Pn.sg (w.length + 2) w b).map fun s => b ++ [s] := by simp [stepW]
    rw [e, h.sg, List.flatMap_map, List.map_flatMap]
    simp only [nets]
    rw [List.map_flatMap]
    refine flat_congr fun u hu => ?_
    simp only [List.mem_filter, List.mem_range, decide_eq_true_eq] at hu
    have hs := h.snoc (by omega) hu.1 hu.2
    rw [← aft_snoc] at hs
    have ih := nets_words k (b ++ [u]) (by simp; omega) (by simp; omega) hs
    rw [ih, aft_snoc, pre_snoc, List.map_map]
    refine List.map_congr_left fun N _ => ?_
    simp
where
  flat_congr {α β : Type} {l : List α} {f g : α → List β} (h : ∀ a ∈ l, f a = g a) : l.flatMap f = l.flatMap g := by
    induction l with
    | nil => rfl
    | cons a l ih => simp only [List.flatMap_cons]; rw [h a (by simp), ih fun b hb => h b (by simp [hb])]
theorem words_nets {w : List Nat} (h : ∀ s ∈ w, s < w.length + 2) : (words w).map (raw (w.length + 2) (pw w)) = nets (w.length + 2) w.length (pw w) := by
  have := nets_words (w := w) w.length [] (by simp) (by simp) (beg_nil h)
  unfold words
  rw [this]
  simp [aft, pre]

/-! ### what is counted -/
theorem countP_known {p : Cab → Bool} : ∀ {L N : List Cab}, L.Nodup → N.Nodup → (∀ c ∈ L, c ∈ N) → N.countP (fun c => L.contains c && p c) = L.countP p
  | [], N, _, _, _ => by simp
  | e :: L, N, hL, hN, hs => by
    have he : e ∈ N := hs e (by simp)
    have hL' := List.nodup_cons.mp hL
    have h1 : ∀ x ∈ L, x ∈ N.erase e := fun x hx => by
      rw [List.mem_erase_of_ne (by rintro rfl; exact hL'.1 hx)]
      exact hs x (by simp [hx])
    have ih := countP_known (p := p) hL'.2 (hN.sublist List.erase_sublist) h1
    rw [(List.perm_cons_erase he).countP_eq, List.countP_cons, List.countP_cons, ← ih]
    have e1 : List.countP (fun c => (e :: L).contains c && p c) (N.erase e) = List.countP (fun c => L.contains c && p c) (N.erase e) := List.countP_congr fun c hc => by
      have : c ≠ e := fun q => (hN.mem_erase_iff.mp (q ▸ hc)).1 rfl
      simp [this]
    rw [e1]
    simp
/-- cables within, known and new -/
theorem within_split {L N : List Cab} {l : Nat → Nat} {s : Nat → Bool} (hL : L.Nodup) (hN : N.Nodup) (hs : ∀ c ∈ L, c ∈ N) (hl : ∀ c ∈ L, l c.1 = l c.2) :
    N.countP (fun c => s (l c.1) && s (l c.2)) = L.countP (fun c => s (l c.1)) + N.countP (nwp L l s) := by
  have h1 := countP_known (p := fun c => s (l c.1)) hL hN hs
  rw [← h1]
  have : ∀ M : List Cab, M.countP (fun c => s (l c.1) && s (l c.2)) = M.countP (fun c => L.contains c && s (l c.1)) + M.countP (nwp L l s) := fun M => by
    induction M with
    | nil => rfl
    | cons c M ih =>
      rw [List.countP_cons, List.countP_cons, List.countP_cons, ih]
      have : (if (s (l c.1) && s (l c.2)) = true then 1 else 0) = (if (L.contains c && s (l c.1)) = true then 1 else 0) + (if nwp L l s c = true then 1 else 0) := by
        unfold nwp
        by_cases q : c ∈ L
        · have e := hl c q
          have : L.contains c = true := List.contains_iff_mem.mpr q
          rw [this, ← e]
          cases s (l c.1) <;> rfl
        · have : L.contains c = false := by
            cases z : L.contains c with
            | false => rfl
            | true => exact absurd (List.contains_iff_mem.mp z) q
          rw [this]
          simp
      omega
  exact this N
/-- the rows that the program tells -/
def rows (a ao b : Nat) : List (Nat × Nat) :=
  if ao = 0 then [(a - 1, 1)] else ((List.range a).map fun x => (x, ch (a - 1) x * (if x ≤ b then ch (ao - 1) (b - x) else 0))).filter fun r => decide (0 < r.2)
def bot (a ao b : Nat) : Nat := if ao = 0 then 1 else ch (a + ao - 2) b
def tld (kn a ao b : Nat) : List (Nat × Nat × Nat) := (rows a ao b).map fun r => (kn + r.1, low r.2 (bot a ao b))
section
variable {n : Nat} {d : Nat → Nat} {L : List Cab} {s : Nat → Bool}
theorem Sub.posum (h : Sub n d L) (hm : ∃ r r', r < n ∧ r' < n ∧ lab L r = r ∧ lab L r' = r' ∧ r ≠ r') : GG n d L (lab L) ≠ 0 := by
  refine Nat.pos_iff_ne_zero.mp (Pr_pos fun r hr => ?_)
  unfold gA
  rw [h.A r hr]
  by_cases e : lab L r = r
  · rw [decide_eq_true e]
    simp only [if_true]
    obtain ⟨r1, r2, h1, h2, e1, e2, hne⟩ := hm
    by_cases q : r1 = r
    · exact h.open_ r hr e ⟨r2, h2, e2, by omega⟩
    · exact h.open_ r hr e ⟨r1, h1, e1, q⟩
  · rw [decide_eq_false e]; simp
theorem Sub.cA (h : Sub n d L) (s : Nat → Bool) : cA n d (lab L) s = S n (fun r => if decide (lab L r = r) && s r then 1 else 0) := S_congr fun r hr => by rw [h.A r hr]
/-- all nets with the known cables, and those with so many new ones within -/
theorem Sub.ratio (h : Sub n d L) (x : Nat) (ha : 1 ≤ Pn.cA n d (lab L) s) (hao : 1 ≤ Pn.cA n d (lab L) fun r => !s r) :
    (nets n (n - 2) d).countP (good L (lab L) s x) * ch (Pn.cA n d (lab L) s + (Pn.cA n d (lab L) fun r => !s r) - 2) (bA n d L (lab L) s) =
      (nets n (n - 2) d).countP (fun N => L.all fun c => N.contains c) * K (Pn.cA n d (lab L) s) (Pn.cA n d (lab L) fun r => !s r) (bA n d L (lab L) s) x := by
  have hct := h.kn.ct
  have hca := cA_two (n := n) (d := d) (l := lab L) (s := s)
  have hn2 := h.n2
  have m1 := count_main (n - 2) (s := s) (x := x) h.kn (by omega)
  have m0 := count_main (n - 2) (s := fun _ => false) (x := 0) h.kn (by omega)
  have c0 : (Pn.cA n d (lab L) fun _ => false) = 0 := S_zero' fun r _ => by simp
  have b0 : (bA n d L (lab L) fun _ => false) = 0 := S_zero' fun r _ => by simp
  rw [c0, b0, K_zero, if_pos rfl] at m0
  have g0 : (nets n (n - 2) d).countP (good L (lab L) (fun _ => false) 0) = (nets n (n - 2) d).countP (fun N => L.all fun c => N.contains c) := by
    refine List.countP_congr fun N _ => ?_
    rw [good_iff]
    have : List.countP (nwp L (lab L) fun _ => false) N = 0 := by
      rw [List.countP_eq_zero]; intro c _; unfold nwp; simp
    rw [this]; simp
  rw [g0] at m0
  have hm : ∃ r r', r < n ∧ r' < n ∧ lab L r = r ∧ lab L r' = r' ∧ r ≠ r' := by
    rw [h.cA] at ha hao
    obtain ⟨r, hr, q⟩ := S_pos (Nat.lt_of_lt_of_le Nat.zero_lt_one ha)
    obtain ⟨r', hr', q'⟩ := S_pos (Nat.lt_of_lt_of_le Nat.zero_lt_one hao)
    have z : (decide (lab L r = r) && s r) = true := by
      cases q0 : decide (lab L r = r) && s r with
      | true => rfl
      | false => rw [q0] at q; simp at q
    have z' : (decide (lab L r' = r') && !s r') = true := by
      cases q0 : decide (lab L r' = r') && !s r' with
      | true => rfl
      | false => rw [q0] at q'; simp at q'
    simp at z z'
    refine ⟨r, r', hr, hr', z.1, z'.1, ?_⟩
    rintro rfl
    rw [z.2] at z'
    exact absurd z'.2 (by simp)
  have hG := h.posum hm
  have f1 := h.kn.free (s := s) hG
  have f0 := h.kn.free (s := fun _ => false) hG
  rw [c0, b0] at f0
  have ct2 := cA_two (n := n) (d := d) (l := lab L) (s := fun _ => false)
  rw [c0] at ct2
  generalize Pn.cA n d (lab L) s = a at *
  generalize (Pn.cA n d (lab L) fun r => !s r) = ao at *
  generalize bA n d L (lab L) s = b at *
  generalize (bA n d L (lab L) fun r => !s r) = c at *
  generalize (bA n d L (lab L) fun r => !(fun x => false) r) = c0' at *
  have e1 : a + ao - 2 = b + c := by omega
  have e2 : c0' = b + c := by omega
  rw [e2] at m0
  have m0' : (nets n (n - 2) d).countP (fun N => L.all fun c => N.contains c) * FF n d L = GG n d L (lab L) * fact (b + c) := by
    rw [m0]; simp [fact]
  rw [e1]
  have hF : 0 < FF n d L := FF_pos
  apply Nat.eq_of_mul_eq_mul_right hF
  generalize (nets n (n - 2) d).countP (good L (lab L) s x) = X at *
  generalize (nets n (n - 2) d).countP (fun N => L.all fun c => N.contains c) = Y at *
  generalize FF n d L = F at *
  generalize GG n d L (lab L) = G at *
  have e3 := ch_fact b c
  generalize ch (b + c) b = C at *
  generalize K a ao b x = Kx at *
  calc X * C * F = X * F * C := Nat.mul_right_comm _ _ _
    _ = G * (Kx * fact b * fact c) * C := by rw [m1]
    _ = G * Kx * (C * fact b * fact c) := by simp only [Nat.mul_assoc, Nat.mul_comm, Nat.mul_left_comm]
    _ = G * Kx * fact (b + c) := by rw [e3]
    _ = G * fact (b + c) * Kx := Nat.mul_right_comm _ _ _
    _ = Y * F * Kx := by rw [m0']
    _ = Y * Kx * F := Nat.mul_right_comm _ _ _
end
end Pn
end
section
/-! What the law reckons from all nets is what the program tells. -/
set_option linter.all false
set_option maxHeartbeats 1000000
namespace Pn
/-- the devices of the chosen parts -/
def gr (n : Nat) (L : List Cab) (s : Nat → Bool) : List Nat := (List.range n).filter fun v => s (lab L v)
theorem gr_has {n : Nat} {L : List Cab} {s : Nat → Bool} {v : Nat} (hv : v < n) : (gr n L s).contains v = s (lab L v) := by
  rw [Bool.eq_iff_iff, List.contains_iff_mem]
  unfold gr
  rw [List.mem_filter, List.mem_range]
  exact ⟨fun h => h.2, fun h => ⟨hv, h⟩⟩
def known (n : Nat) (L : List Cab) (s : Nat → Bool) : Nat := (L.filter fun c => (gr n L s).contains c.1).length
def within (n : Nat) (L : List Cab) (s : Nat → Bool) (N : List Cab) : Nat := (N.filter fun c => (gr n L s).contains c.1 && (gr n L s).contains c.2).length
def has (L N : List Cab) : Bool := L.all fun c => N.contains c
def xsK (a ao b : Nat) : List Nat := (List.range a).filter fun x => decide (0 < K a ao b x)
theorem K_lt {a ao b x : Nat} (ha : 1 ≤ a) (h : 0 < K a ao b x) : x < a := by
  apply Classical.byContradiction
  intro q
  by_cases h0 : ao = 0
  · subst h0
    rw [K_full (by omega), if_neg (by omega)] at h
    omega
  · rw [K_gen (by omega) h0, ch_out (n := a - 1) (k := x) (by omega), Nat.zero_mul] at h
    simp at h
theorem rows_K {a ao b : Nat} (ha : 1 ≤ a) : rows a ao b = (xsK a ao b).map fun x => (x, K a ao b x) := by
  unfold rows xsK
  by_cases h0 : ao = 0
  · rw [if_pos h0]
    subst h0
    obtain ⟨m, rfl⟩ : ∃ m, a = m + 1 := ⟨a - 1, by omega⟩
    rw [List.range_succ, List.filter_append]
    have e1 : (List.range m).filter (fun x => decide (0 < K (m + 1) 0 b x)) = [] := by
      rw [List.filter_eq_nil_iff]
      intro x hx
      rw [List.mem_range] at hx
      rw [K_full (by omega), if_neg (by omega)]
      simp
    have e2 : K (m + 1) 0 b m = 1 := by rw [K_full (by omega), if_pos rfl]
    rw [e1, List.nil_append, List.filter_cons, e2]
    simp [e2]
  · rw [if_neg h0]
    have e : ∀ x, (x, ch (a - 1) x * (if x ≤ b then ch (ao - 1) (b - x) else 0)) = (x, K a ao b x) := fun x => by
      rw [K_gen (by omega) h0]
      congr 1
      split
      · rfl
      · rw [Nat.mul_zero]
    simp only [e]
    rw [List.filter_map]
    rfl
theorem tld_K {kn a ao b : Nat} (ha : 1 ≤ a) : tld kn a ao b = (xsK a ao b).map fun x => (kn + x, low (K a ao b x) (bot a ao b)) := by
  unfold tld
  rw [rows_K ha, List.map_map]
  rfl
section
variable {n : Nat} {d : Nat → Nat} {L : List Cab} {s : Nat → Bool}
theorem known_eq (hm : ∀ c ∈ L, c.1 < c.2 ∧ c.2 < n) : known n L s = L.countP fun c => s (lab L c.1) := by
  unfold known
  rw [List.countP_eq_length_filter]
  congr 1
  refine List.filter_congr fun c hc => ?_
  exact gr_has (by have := hm c hc; omega)
theorem within_eq {N : List Cab} (hm : ∀ c ∈ N, c.1 < c.2 ∧ c.2 < n) : within n L s N = N.countP fun c => s (lab L c.1) && s (lab L c.2) := by
  unfold within
  rw [List.countP_eq_length_filter]
  congr 1
  refine List.filter_congr fun c hc => ?_
  have := hm c hc
  rw [gr_has (by omega), gr_has this.2]
theorem within_srt (N : List Cab) : within n L s (srt N) = within n L s N := by
  unfold within
  exact ((srt_perm N).filter _).length_eq
theorem has_srt (N : List Cab) : has L (srt N) = has L N := by
  unfold has
  rw [Bool.eq_iff_iff, List.all_eq_true, List.all_eq_true]
  constructor
  · intro h c hc
    have := h c hc
    rw [List.contains_iff_mem] at this ⊢
    exact (srt_perm N).mem_iff.mp this
  · intro h c hc
    have := h c hc
    rw [List.contains_iff_mem] at this ⊢
    exact (srt_perm N).mem_iff.mpr this
theorem has_iff {N : List Cab} : has L N = true ↔ ∀ c ∈ L, c ∈ N := by unfold has; simp
theorem Sub.number (h : Sub n d L) {N : List Cab} (hN : Nt n d N) (hs : has L N = true) : within n L s N = known n L s + N.countP (nwp L (lab L) s) := by
  rw [within_eq fun c hc => ⟨(hN.mem c hc).1, (hN.mem c hc).2.1⟩, known_eq h.mem, within_split h.nd hN.nodup (has_iff.mp hs) (lab_cable L)]
/-- all parts chosen: all cables are within -/
theorem all_in (h : Sub n d L) (hao : (cA n d (lab L) fun r => !s r) = 0) (x : Nat) (hx : x < n) : s (lab L x) = true := by
  have h1 := h.cA (fun r => !s r)
  rw [hao] at h1
  have := S_ge (f := fun r => if decide (lab L r = r) && !s r then 1 else 0) (h.lb x hx)
  rw [← h1] at this
  cases q : s (lab L x) with
  | true => rfl
  | false =>
    rw [q, decide_eq_true (lab_idem L x)] at this
    simp at this
theorem sub_small (h : Sub n d L) (ha : 1 ≤ cA n d (lab L) s) {py : List (List Cab)} (hpy : py = (nets n (n - 2) d).map srt) {fit : List (List Cab)} (hfit : fit = py.filter (has L)) (hne : fit ≠ [])
    {nums : List Nat} (hnums : nums = fit.map (within n L s)) {us : List Nat} (h1 : us.Pairwise (· < ·)) (h2 : ∀ j, j ∈ us ↔ j ∈ nums) :
    us.map (fun j => (j, low (nums.count j) fit.length)) = tld (known n L s) (cA n d (lab L) s) (cA n d (lab L) fun r => !s r) (bA n d L (lab L) s) := by
  have hnt := nets_nt (n - 2) h.stt
  -- the counts
  have tot : fit.length = (nets n (n - 2) d).countP (has L) := by
    rw [hfit, hpy, ← List.countP_eq_length_filter, List.countP_map]
    refine List.countP_congr fun N _ => ?_
    show has L (srt N) = true ↔ _
    rw [has_srt]
  have cnt : ∀ j, nums.count j = (nets n (n - 2) d).countP (fun N => has L N && within n L s N == j) := fun j => by
    rw [hnums, List.count_eq_countP, List.countP_map, hfit, List.countP_filter, hpy, List.countP_map]
    refine List.countP_congr fun N _ => ?_
    show (within n L s (srt N) == j && has L (srt N)) = true ↔ _
    rw [has_srt, within_srt, Bool.and_comm]
  have tpos : 0 < fit.length := List.length_pos_iff.mpr hne
  have cpos : ∀ j, j ∈ nums ↔ 0 < nums.count j := fun j => List.count_pos_iff.symm
  rw [tld_K ha]
  by_cases hao : (cA n d (lab L) fun r => !s r) = 0
  · -- all parts
    have hct := h.kn.ct
    have hca := cA_two (n := n) (d := d) (l := lab L) (s := s)
    have hn2 := h.n2
    have kL : known n L s = L.length := by
      rw [known_eq h.mem, List.countP_eq_length]
      intro c hc
      have := h.mem c hc
      exact all_in h hao c.1 (by omega)
    have wN : ∀ N, Nt n d N → within n L s N = known n L s + (cA n d (lab L) s - 1) := fun N hN => by
      rw [within_eq fun c hc => ⟨(hN.mem c hc).1, (hN.mem c hc).2.1⟩]
      have : N.countP (fun c => s (lab L c.1) && s (lab L c.2)) = N.length := by
        rw [List.countP_eq_length]
        intro c hc
        have := hN.mem c hc
        rw [all_in h hao c.1 (by omega), all_in h hao c.2 (by omega)]; rfl
      rw [this, kL]
      have e1 := hN.len
      have e2 := h.stt.alive
      omega
    have cj : ∀ j, nums.count j = if j = known n L s + (cA n d (lab L) s - 1) then fit.length else 0 := fun j => by
      rw [cnt, tot]
      by_cases q : j = known n L s + (cA n d (lab L) s - 1)
      · rw [if_pos q]
        refine List.countP_congr fun N hN => ?_
        rw [wN N (hnt N hN), q]; simp
      · rw [if_neg q, List.countP_eq_zero]
        intro N hN
        rw [wN N (hnt N hN)]
        simp
        intro _ z
        exact q z.symm
    have xs1 : xsK (cA n d (lab L) s) (cA n d (lab L) fun r => !s r) (bA n d L (lab L) s) = [cA n d (lab L) s - 1] := by
      refine asc_unique (List.Pairwise.filter _ List.pairwise_lt_range) (by simp) fun x => ?_
      unfold xsK
      rw [hao, List.mem_filter, List.mem_range, decide_eq_true_eq, K_full (by omega), List.mem_singleton]
      constructor
      · rintro ⟨_, q⟩
        by_cases z : x + 1 = cA n d (lab L) s
        · omega
        · rw [if_neg z] at q; omega
      · intro q
        rw [if_pos (by omega)]
        omega
    have us1 : us = [known n L s + (cA n d (lab L) s - 1)] := by
      refine asc_unique h1 (by simp) fun j => ?_
      rw [h2, cpos, cj, List.mem_singleton]
      constructor
      · intro q
        apply Classical.byContradiction
        intro z
        rw [if_neg z] at q; omega
      · intro q
        rw [if_pos q]; exact tpos
    rw [us1, xs1]
    simp only [List.map_cons, List.map_nil]
    rw [cj, if_pos rfl, low_self tpos, hao, K_full (by omega), if_pos (by omega)]
    have : bot (cA n d (lab L) s) 0 (bA n d L (lab L) s) = 1 := by unfold bot; rw [if_pos rfl]
    rw [this, low_self (by omega)]
  · have hao1 : 1 ≤ cA n d (lab L) fun r => !s r := by omega
    have rat := fun x => h.ratio (s := s) x ha hao1
    have cx : ∀ x, nums.count (known n L s + x) = (nets n (n - 2) d).countP (good L (lab L) s x) := fun x => by
      rw [cnt]
      refine List.countP_congr fun N hN => ?_
      rw [good_iff]
      show (has L N && within n L s N == known n L s + x) = true ↔ _
      rw [Bool.and_eq_true]
      constructor
      · rintro ⟨q1, q2⟩
        rw [h.number (hnt N hN) q1] at q2
        refine ⟨has_iff.mp q1, ?_⟩
        have := beq_iff_eq.mp q2
        omega
      · rintro ⟨q1, q2⟩
        have q1' := has_iff.mpr q1
        refine ⟨q1', ?_⟩
        rw [h.number (hnt N hN) q1', q2]
        exact beq_iff_eq.mpr rfl
    have clow : ∀ j, j ∈ nums → known n L s ≤ j := fun j hj => by
      rw [cpos, cnt, List.countP_pos_iff] at hj
      obtain ⟨N, hN, q⟩ := hj
      rw [Bool.and_eq_true] at q
      rw [h.number (hnt N hN) q.1] at q
      have := beq_iff_eq.mp q.2
      omega
    have hbot : bot (cA n d (lab L) s) (cA n d (lab L) fun r => !s r) (bA n d L (lab L) s) = ch (cA n d (lab L) s + (cA n d (lab L) fun r => !s r) - 2) (bA n d L (lab L) s) := by
      unfold bot; rw [if_neg hao]
    have tot' : fit.length = (nets n (n - 2) d).countP (fun N => L.all fun c => N.contains c) := tot
    simp only [← tot', ← cx, ← hbot] at rat
    have bpos : 0 < bot (cA n d (lab L) s) (cA n d (lab L) fun r => !s r) (bA n d L (lab L) s) := by
      -- some net has some number within
      obtain ⟨N, hN⟩ := List.exists_mem_of_ne_nil fit hne
      have hj : within n L s N ∈ nums := by rw [hnums]; exact List.mem_map.mpr ⟨N, hN, rfl⟩
      have hk := clow _ hj
      rcases Nat.eq_zero_or_pos (bot (cA n d (lab L) s) (cA n d (lab L) fun r => !s r) (bA n d L (lab L) s)) with q | q
      · exfalso
        have hb : cA n d (lab L) s + (cA n d (lab L) fun r => !s r) - 2 < bA n d L (lab L) s := by
          rw [hbot] at q
          apply Classical.byContradiction
          intro z
          have := ch_pos (n := cA n d (lab L) s + (cA n d (lab L) fun r => !s r) - 2) (k := bA n d L (lab L) s) (by omega)
          omega
        have hm : ∃ r r', r < n ∧ r' < n ∧ lab L r = r ∧ lab L r' = r' ∧ r ≠ r' := by
          have ha' := ha
          have hao' := hao1
          rw [h.cA] at ha' hao'
          obtain ⟨r, hr, z⟩ := S_pos (Nat.lt_of_lt_of_le Nat.zero_lt_one ha')
          obtain ⟨r', hr', z'⟩ := S_pos (Nat.lt_of_lt_of_le Nat.zero_lt_one hao')
          have y : (decide (lab L r = r) && s r) = true := by
            cases q0 : decide (lab L r = r) && s r with
            | true => rfl
            | false => rw [q0] at z; simp at z
          have y' : (decide (lab L r' = r') && !s r') = true := by
            cases q0 : decide (lab L r' = r') && !s r' with
            | true => rfl
            | false => rw [q0] at z'; simp at z'
          simp at y y'
          refine ⟨r, r', hr, hr', y.1, y'.1, ?_⟩
          rintro rfl
          rw [y.2] at y'
          exact absurd y'.2 (by simp)
        have := h.kn.free (s := s) (h.posum hm)
        omega
      · exact q
    have us1 : us = (xsK (cA n d (lab L) s) (cA n d (lab L) fun r => !s r) (bA n d L (lab L) s)).map fun x => known n L s + x := by
      refine asc_unique h1 (List.Pairwise.map _ (fun a b (q : a < b) => by omega) (List.Pairwise.filter _ List.pairwise_lt_range)) fun j => ?_
      rw [h2, List.mem_map]
      constructor
      · intro hj
        refine ⟨j - known n L s, ?_, by have := clow j hj; omega⟩
        have r := rat (j - known n L s)
        rw [show known n L s + (j - known n L s) = j by have := clow j hj; omega] at r
        have cj := (cpos j).mp hj
        have kp : 0 < K (cA n d (lab L) s) (cA n d (lab L) fun r => !s r) (bA n d L (lab L) s) (j - known n L s) := by
          rcases Nat.eq_zero_or_pos (K (cA n d (lab L) s) (cA n d (lab L) fun r => !s r) (bA n d L (lab L) s) (j - known n L s)) with q | q
          · rw [q, Nat.mul_zero] at r
            have := Nat.mul_pos cj bpos
            omega
          · exact q
        unfold xsK
        rw [List.mem_filter, List.mem_range, decide_eq_true_eq]
        exact ⟨K_lt ha kp, kp⟩
      · rintro ⟨x, hx, rfl⟩
        unfold xsK at hx
        rw [List.mem_filter, decide_eq_true_eq] at hx
        have r := rat x
        have := Nat.mul_pos tpos hx.2
        rw [← r] at this
        exact (cpos _).mpr (Nat.pos_of_mul_pos_right this)
    rw [us1, List.map_map]
    refine List.map_congr_left fun x hx => ?_
    show (known n L s + x, low (nums.count (known n L s + x)) fit.length) = _
    rw [low_eq tpos bpos]
    have r := rat x
    rw [r, Nat.mul_comm]
end
end Pn
end
section
set_option Elab.async false
set_option linter.all false
set_option maxRecDepth 100000
set_option maxHeartbeats 0
/-! The top: each def as a datum, the facts, the run. -/
namespace Hd
open PySem PySem.Spec PyProof.Rows L2
def top (i : Nat) : Stmt := PySem.Challenge.pw_plugnets_k31_groups_of_whole_parts.main.body.getD i (.Pass ⟨0, 0, 0, 0⟩)
abbrev s_is_integer : Stmt := top 10
abbrev s_is_number : Stmt := top 11
abbrev s_is_plugs : Stmt := top 12
abbrev s_need_plugs : Stmt := top 13
abbrev s_too_many : Stmt := top 14
abbrev s_conflict_in : Stmt := top 15
abbrev s_need_net : Stmt := top 16
abbrev s_is_cable_of : Stmt := top 18
abbrev s_joined_parts : Stmt := top 19
abbrev s_plugs_in : Stmt := top 20
abbrev s_divisor_of : Stmt := top 22
abbrev s_lowest : Stmt := top 23
abbrev s_choices : Stmt := top 25
abbrev s_is_group : Stmt := top 27
abbrev s_need_group : Stmt := top 28
abbrev s_is_cable : Stmt := top 31
abbrev s_need_cables : Stmt := top 32
abbrev s_parts_in : Stmt := top 33
abbrev s_open_in : Stmt := top 34
abbrev s_ring_in : Stmt := top 35
abbrev s_paper_in : Stmt := top 36
abbrev s_need_known : Stmt := top 37
abbrev s_need_held : Stmt := top 38
abbrev s_tops_within : Stmt := top 40
abbrev s_within_shares_with : Stmt := top 41
abbrev s_l_store : Stmt := top 43
abbrev s_l_pick : Stmt := top 44
abbrev s_l_word : Stmt := top 45
abbrev s_l_plugs : Stmt := top 46
abbrev s_l_net : Stmt := top 47
abbrev s_l_many : Stmt := top 48
abbrev s_l_small : Stmt := top 49
abbrev s_l_words : Stmt := top 50
abbrev s_l_nets : Stmt := top 51
abbrev s_l_great : Stmt := top 52
abbrev s_l_binomial : Stmt := top 53
abbrev s_l_parts : Stmt := top 54
abbrev s_l_fraction : Stmt := top 55
abbrev s_l_some_cables : Stmt := top 56
abbrev s_l_some_parts : Stmt := top 57
abbrev s_l_small_right : Stmt := top 58
abbrev s_l_drawn_net : Stmt := top 59
abbrev s_l_great_right : Stmt := top 60
abbrev s_law : Stmt := top 61
abbrev FnP (K : PySem.W.Frag) (x : Str) (st : Stmt) (f : Addr) (fd : FuncData) : Prop := FunD K x x (defArgs st) (defBody st) (defScope st) [] [] f fd
def d_is_integer : He.DefD := ⟨("is_integer", none), "is_integer", "is_integer", defArgs s_is_integer, defBody s_is_integer, defScope s_is_integer, [], []⟩
def d_is_number : He.DefD := ⟨("is_number", none), "is_number", "is_number", defArgs s_is_number, defBody s_is_number, defScope s_is_number, [], []⟩
def d_is_plugs : He.DefD := ⟨("is_plugs", none), "is_plugs", "is_plugs", defArgs s_is_plugs, defBody s_is_plugs, defScope s_is_plugs, [], []⟩
def d_need_plugs : He.DefD := ⟨("need_plugs", none), "need_plugs", "need_plugs", defArgs s_need_plugs, defBody s_need_plugs, defScope s_need_plugs, [], []⟩
def d_too_many : He.DefD := ⟨("too_many", none), "too_many", "too_many", defArgs s_too_many, defBody s_too_many, defScope s_too_many, [], []⟩
def d_conflict_in : He.DefD := ⟨("conflict_in", none), "conflict_in", "conflict_in", defArgs s_conflict_in, defBody s_conflict_in, defScope s_conflict_in, [], []⟩
def d_need_net : He.DefD := ⟨("need_net", none), "need_net", "need_net", defArgs s_need_net, defBody s_need_net, defScope s_need_net, [], []⟩
def d_is_cable_of : He.DefD := ⟨("is_cable_of", none), "is_cable_of", "is_cable_of", defArgs s_is_cable_of, defBody s_is_cable_of, defScope s_is_cable_of, [], []⟩
def d_joined_parts : He.DefD := ⟨("joined_parts", none), "joined_parts", "joined_parts", defArgs s_joined_parts, defBody s_joined_parts, defScope s_joined_parts, [], []⟩
def d_plugs_in : He.DefD := ⟨("plugs_in", none), "plugs_in", "plugs_in", defArgs s_plugs_in, defBody s_plugs_in, defScope s_plugs_in, [], []⟩
def d_divisor_of : He.DefD := ⟨("divisor_of", none), "divisor_of", "divisor_of", defArgs s_divisor_of, defBody s_divisor_of, defScope s_divisor_of, [], []⟩
def d_lowest : He.DefD := ⟨("lowest", none), "lowest", "lowest", defArgs s_lowest, defBody s_lowest, defScope s_lowest, [], []⟩
def d_choices : He.DefD := ⟨("choices", none), "choices", "choices", defArgs s_choices, defBody s_choices, defScope s_choices, [], []⟩
def d_is_group : He.DefD := ⟨("is_group", none), "is_group", "is_group", defArgs s_is_group, defBody s_is_group, defScope s_is_group, [], []⟩
def d_need_group : He.DefD := ⟨("need_group", none), "need_group", "need_group", defArgs s_need_group, defBody s_need_group, defScope s_need_group, [], []⟩
def d_is_cable : He.DefD := ⟨("is_cable", none), "is_cable", "is_cable", defArgs s_is_cable, defBody s_is_cable, defScope s_is_cable, [], []⟩
def d_need_cables : He.DefD := ⟨("need_cables", none), "need_cables", "need_cables", defArgs s_need_cables, defBody s_need_cables, defScope s_need_cables, [.int 59], []⟩
def d_parts_in : He.DefD := ⟨("parts_in", none), "parts_in", "parts_in", defArgs s_parts_in, defBody s_parts_in, defScope s_parts_in, [], []⟩
def d_open_in : He.DefD := ⟨("open_in", none), "open_in", "open_in", defArgs s_open_in, defBody s_open_in, defScope s_open_in, [], []⟩
def d_ring_in : He.DefD := ⟨("ring_in", none), "ring_in", "ring_in", defArgs s_ring_in, defBody s_ring_in, defScope s_ring_in, [], []⟩
def d_paper_in : He.DefD := ⟨("paper_in", none), "paper_in", "paper_in", defArgs s_paper_in, defBody s_paper_in, defScope s_paper_in, [], []⟩
def d_need_known : He.DefD := ⟨("need_known", none), "need_known", "need_known", defArgs s_need_known, defBody s_need_known, defScope s_need_known, [], []⟩
def d_need_held : He.DefD := ⟨("need_held", none), "need_held", "need_held", defArgs s_need_held, defBody s_need_held, defScope s_need_held, [], []⟩
def d_tops_within : He.DefD := ⟨("tops_within", none), "tops_within", "tops_within", defArgs s_tops_within, defBody s_tops_within, defScope s_tops_within, [], []⟩
def d_within_shares_with : He.DefD := ⟨("within_shares_with", none), "within_shares_with", "within_shares_with", defArgs s_within_shares_with, defBody s_within_shares_with, defScope s_within_shares_with, [], []⟩
def d_l_store : He.DefD := ⟨("_law_store", none), "_law_store", "_law_store", defArgs s_l_store, defBody s_l_store, defScope s_l_store, [], []⟩
def d_l_pick : He.DefD := ⟨("_law_pick", none), "_law_pick", "_law_pick", defArgs s_l_pick, defBody s_l_pick, defScope s_l_pick, [], []⟩
def d_l_word : He.DefD := ⟨("_law_word", none), "_law_word", "_law_word", defArgs s_l_word, defBody s_l_word, defScope s_l_word, [], []⟩
def d_l_plugs : He.DefD := ⟨("_law_plugs", none), "_law_plugs", "_law_plugs", defArgs s_l_plugs, defBody s_l_plugs, defScope s_l_plugs, [], []⟩
def d_l_net : He.DefD := ⟨("_law_net", none), "_law_net", "_law_net", defArgs s_l_net, defBody s_l_net, defScope s_l_net, [], []⟩
def d_l_many : He.DefD := ⟨("_law_many", none), "_law_many", "_law_many", defArgs s_l_many, defBody s_l_many, defScope s_l_many, [], []⟩
def d_l_small : He.DefD := ⟨("_law_small", none), "_law_small", "_law_small", defArgs s_l_small, defBody s_l_small, defScope s_l_small, [], []⟩
def d_l_words : He.DefD := ⟨("_law_words", none), "_law_words", "_law_words", defArgs s_l_words, defBody s_l_words, defScope s_l_words, [], []⟩
def d_l_nets : He.DefD := ⟨("_law_nets", none), "_law_nets", "_law_nets", defArgs s_l_nets, defBody s_l_nets, defScope s_l_nets, [], []⟩
def d_l_great : He.DefD := ⟨("_law_great", none), "_law_great", "_law_great", defArgs s_l_great, defBody s_l_great, defScope s_l_great, [], []⟩
def d_l_binomial : He.DefD := ⟨("_law_binomial", none), "_law_binomial", "_law_binomial", defArgs s_l_binomial, defBody s_l_binomial, defScope s_l_binomial, [], []⟩
def d_l_parts : He.DefD := ⟨("_law_parts", none), "_law_parts", "_law_parts", defArgs s_l_parts, defBody s_l_parts, defScope s_l_parts, [], []⟩
def d_l_fraction : He.DefD := ⟨("_law_fraction", none), "_law_fraction", "_law_fraction", defArgs s_l_fraction, defBody s_l_fraction, defScope s_l_fraction, [], []⟩
def d_l_some_cables : He.DefD := ⟨("_law_some_cables", none), "_law_some_cables", "_law_some_cables", defArgs s_l_some_cables, defBody s_l_some_cables, defScope s_l_some_cables, [], []⟩
def d_l_some_parts : He.DefD := ⟨("_law_some_parts", none), "_law_some_parts", "_law_some_parts", defArgs s_l_some_parts, defBody s_l_some_parts, defScope s_l_some_parts, [], []⟩
def d_l_small_right : He.DefD := ⟨("_law_small_right", none), "_law_small_right", "_law_small_right", defArgs s_l_small_right, defBody s_l_small_right, defScope s_l_small_right, [], []⟩
def d_l_drawn_net : He.DefD := ⟨("_law_drawn_net", none), "_law_drawn_net", "_law_drawn_net", defArgs s_l_drawn_net, defBody s_l_drawn_net, defScope s_l_drawn_net, [], []⟩
def d_l_great_right : He.DefD := ⟨("_law_great_right", none), "_law_great_right", "_law_great_right", defArgs s_l_great_right, defBody s_l_great_right, defScope s_l_great_right, [], []⟩
def d_law : He.DefD := ⟨("law", none), "law", "law", defArgs s_law, defBody s_law, defScope s_law, [], []⟩
def fn : List He.DefD := [d_is_integer, d_is_number, d_is_plugs, d_need_plugs, d_too_many, d_conflict_in, d_need_net, d_is_cable_of, d_joined_parts, d_plugs_in, d_divisor_of, d_lowest, d_choices, d_is_group, d_need_group, d_is_cable, d_need_cables, d_parts_in, d_open_in, d_ring_in, d_paper_in, d_need_known, d_need_held, d_tops_within, d_within_shares_with, d_l_store, d_l_pick, d_l_word, d_l_plugs, d_l_net, d_l_many, d_l_small, d_l_words, d_l_nets, d_l_great, d_l_binomial, d_l_parts, d_l_fraction, d_l_some_cables, d_l_some_parts, d_l_small_right, d_l_drawn_net, d_l_great_right, d_law]
def fa1 : List He.Fa := [.glo "is_integer", .glo "is_number", .glo "is_plugs", .glo "need_plugs", .glo "too_many", .glo "conflict_in", .glo "need_net", .glo "is_cable_of", .glo "joined_parts", .glo "plugs_in", .glo "divisor_of", .glo "lowest", .glo "choices", .glo "is_group", .glo "need_group", .glo "is_cable", .glo "need_cables", .glo "parts_in", .glo "open_in", .glo "ring_in", .glo "paper_in", .glo "need_known", .glo "need_held", .glo "tops_within", .glo "within_shares_with", .glo "_law_store", .glo "_law_pick", .glo "_law_word", .glo "_law_plugs", .glo "_law_net"]
def fa2 : List He.Fa := [.glo "_law_many", .glo "_law_small", .glo "_law_words", .glo "_law_nets", .glo "_law_great", .glo "_law_binomial", .glo "_law_parts", .glo "_law_fraction", .glo "_law_some_cables", .glo "_law_some_parts", .glo "_law_small_right", .glo "_law_drawn_net", .glo "_law_great_right", .glo "law", .free "abs", .free "len", .free "max", .free "min", .free "int", .free "bool", .free "list", .free "tuple", .free "range", .free "sorted", .free "sum", .free "set", .free "repr", .free "isinstance", .free "all", .free "zip", .free "enumerate", .int "MOST_DEVICES" 60, .int "MOST_NUMBER" 1000000000000000000000000000000, .int "MOST_CABLES" 59]
def fa : List He.Fa := fa1 ++ fa2
def names1 : List PySem.Str := ["PlugError", "InvalidPlugs", "InvalidCables", "InvalidGroup", "NoNet", "Impossible", "MOST_DEVICES", "MOST_NUMBER", "MOST_CABLES", "is_integer", "is_number", "is_plugs", "need_plugs", "too_many", "conflict_in", "need_net", "is_cable_of", "joined_parts", "plugs_in", "divisor_of", "lowest", "choices", "is_group", "need_group", "is_cable", "need_cables", "parts_in", "open_in"]
def names2 : List PySem.Str := ["ring_in", "paper_in", "need_known", "need_held", "tops_within", "within_shares_with", "_law_store", "_law_pick", "_law_word", "_law_plugs", "_law_net", "_law_many", "_law_small", "_law_words", "_law_nets", "_law_great", "_law_binomial", "_law_parts", "_law_fraction", "_law_some_cables", "_law_some_parts", "_law_small_right", "_law_drawn_net", "_law_great_right"]
def names : List PySem.Str := names1 ++ names2
abbrev R : PySem.W.OpenRow := PySem.W.OpenLaw.row PySem.Challenge.rw_plugnets_k31_groups_of_whole_parts
abbrev hk : PySem.W.Hook := He.hookD 4 fa fn
def ob (s : PySem.W.SharedT) : He.AlD := He.obsDG 4 fa fn (HandSHeadRun.getT s)
theorem ob_eq (s : PySem.W.SharedT) : ob s = hk.obs s.abs := He.obsDG_eq (HandSHeadRun.getT_eq s)
theorem run (w : World) : HandSHeadRun.RunEq R (PySem.W.view R.prog [61]) hk ob 4000 names w := by
  intro os
  kernel_rfl
end Hd
end
section
set_option Elab.async false
set_option linter.all false
set_option maxRecDepth 100000
set_option maxHeartbeats 1000000
/-! Words for the walk: parts of a heap, new data, calls. -/
namespace Ly
open PySem PySem.Spec PyProof.Rows L2 Evl

/-! ### parts of a heap -/
/-- what is in H2 and not in H1 -/
def newp (H1 H2 : Hp) : Hp := fun b => match H1 b with
  | none => H2 b
  | some _ => none
/-- H without the object at l -/
def del (H : Hp) (l : Addr) : Hp := fun b => if b = l then none else H b
theorem newp_ex {H1 H2 : Hp} : Ex (newp H1 H2) H2 := fun b o h => by
  unfold newp at h
  split at h
  · exact h
  · cases h
theorem newp_of {H1 H2 : Hp} {b : Addr} {o : HO} (h1 : H1 b = none) (h2 : H2 b = some o) : newp H1 H2 b = some o := by
  unfold newp; rw [h1]; exact h2
theorem newp_none {H1 H2 : Hp} {b : Addr} {o : HO} (h : H1 b = some o) : newp H1 H2 b = none := by
  unfold newp; rw [h]
/-- a later start, an earlier end: fewer new things -/
theorem newp_mono {G1 H1 H2 G2 : Hp} (a : Ex G1 H1) (b : Ex H2 G2) : Ex (newp H1 H2) (newp G1 G2) := fun c o h => by
  have h2 := b c o (newp_ex c o h)
  have h1 : H1 c = none := by
    unfold newp at h
    split at h
    · assumption
    · cases h
  exact newp_of (fresh_back a h1) h2
theorem del_ex {H : Hp} {l : Addr} : Ex (del H l) H := fun b o h => by
  unfold del at h
  split at h
  · cases h
  · exact h
theorem del_ne {H : Hp} {l b : Addr} (h : b ≠ l) : del H l b = H b := by unfold del; rw [if_neg h]
theorem del_same {H : Hp} {l : Addr} : del H l l = none := by unfold del; rw [if_pos rfl]
theorem del_mono {H H' : Hp} {l : Addr} (e : Ex H H') : Ex (del H l) (del H' l) := fun b o h => by
  unfold del at h ⊢
  split at h
  · cases h
  · rename_i n
    rw [if_neg n]; exact e b o h
/-- new things do not stand where something stood -/
theorem newp_del {H1 H2 : Hp} {l : Addr} {o : HO} (h : H1 l = some o) : Ex (newp H1 H2) (del H2 l) := fun b u k => by
  have : b ≠ l := by
    rintro rfl
    rw [newp_none h] at k; cases k
  rw [del_ne this]
  exact newp_ex b u k
theorem ex_del {G H : Hp} {l : Addr} (e : Ex G H) (h : G l = none) : Ex G (del H l) := fun b o k => by
  rw [del_ne (ne_of_none k h)]
  exact e b o k
theorem del_upd {H : Hp} {l : Addr} {o : HO} : del (upd H l o) l = del H l := by
  funext b
  unfold del
  split
  · rfl
  · rename_i n
    rw [upd_ne n]

/-! ### what new data an expression leaves -/
abbrev Ph := V → Hp → Prop
def EvP (te : TE) (σ : L2.St) (H : Hp) (Φ : Ph) : Prop := ∀ H1, Ex H H1 → ∀ Q : VK, (∀ v H2, Ex H1 H2 → Φ v (newp H1 H2) → Q v H2) → te σ H1 Q
def Mono (Φ : Ph) : Prop := ∀ v G G', Ex G G' → Φ v G → Φ v G'
/-- a new list, tuple, of these values -/
def IsL (xs : List V) : Ph := fun v G => ∃ p, v = .ref p ∧ G p = some (.lst xs)
def IsU (xs : List V) : Ph := fun v G => ∃ p, v = .ref p ∧ G p = some (.tup xs)
def Is (x : V) : Ph := fun v _ => v = x
/-- a new list whose items are as Φs says -/
inductive Al : List Ph → List V → Hp → Prop
  | nil {G} : Al [] [] G
  | cons {Φ : Ph} {Φs v vs G} : Φ v G → Al Φs vs G → Al (Φ :: Φs) (v :: vs) G
def LL (Φs : List Ph) : Ph := fun v G => ∃ p vs, v = .ref p ∧ G p = some (.lst vs) ∧ Al Φs vs G
def UU (Φs : List Ph) : Ph := fun v G => ∃ p vs, v = .ref p ∧ G p = some (.tup vs) ∧ Al Φs vs G
theorem Al.length {Φs : List Ph} {vs : List V} {G : Hp} (h : Al Φs vs G) : vs.length = Φs.length := by
  induction h with
  | nil => rfl
  | cons _ _ ih => simp [ih]
theorem Al.mono {Φs : List Ph} {vs : List V} {G G' : Hp} (h : Al Φs vs G) (e : Ex G G') (m : ∀ Φ ∈ Φs, Mono Φ) : Al Φs vs G' := by
  induction h with
  | nil => exact .nil
  | cons a _ ih => exact .cons (m _ (by simp) _ _ _ e a) (ih e fun Φ h => m Φ (by simp [h]))
theorem Al.append {Φs Ψs : List Ph} {vs ws : List V} {G : Hp} (h : Al Φs vs G) (k : Al Ψs ws G) : Al (Φs ++ Ψs) (vs ++ ws) G := by
  induction h with
  | nil => exact k
  | cons a _ ih => exact .cons a (ih k)
theorem Al.get {Φs : List Ph} {vs : List V} {G : Hp} (h : Al Φs vs G) : ∀ {i : Nat} {v : V}, vs[i]? = some v → ∃ Φ, Φs[i]? = some Φ ∧ Φ v G := by
  induction h with
  | nil => intro i v e; simp at e
  | cons a _ ih =>
    intro i v e
    cases i with
    | zero => simp at e; subst e; exact ⟨_, rfl, a⟩
    | succ i => simpa using ih (i := i) (v := v) (by simpa using e)
theorem Al.at {Φs : List Ph} {vs : List V} {G : Hp} (h : Al Φs vs G) {i : Nat} {Φ : Ph} (e : Φs[i]? = some Φ) : ∃ v, vs[i]? = some v ∧ Φ v G := by
  have hi := (List.getElem?_eq_some_iff.mp e).1
  have hl := h.length
  obtain ⟨Ψ, e2, k⟩ := h.get (i := i) (v := vs[i]'(by omega)) (List.getElem?_eq_getElem (by omega))
  rw [e] at e2
  cases e2
  exact ⟨_, List.getElem?_eq_getElem (by omega), k⟩
theorem Al.of_get {Φs : List Ph} : ∀ {vs : List V} {G : Hp}, vs.length = Φs.length → (∀ (i : Nat) v Φ, vs[i]? = some v → Φs[i]? = some Φ → Φ v G) → Al Φs vs G := by
  induction Φs with
  | nil => intro vs G hl _; cases vs with
    | nil => exact .nil
    | cons _ _ => simp at hl
  | cons Φ Φs ih => intro vs G hl h; cases vs with
    | nil => simp at hl
    | cons v vs => exact .cons (h 0 v Φ rfl rfl) (ih (by simpa using hl) fun i w Ψ e1 e2 => h (i + 1) w Ψ (by simpa using e1) (by simpa using e2))
theorem mono_is {x : V} : Mono (Is x) := fun _ _ _ _ h => h
theorem mono_L {xs : List V} : Mono (IsL xs) := fun _ _ _ e ⟨p, h1, h2⟩ => ⟨p, h1, e _ _ h2⟩
theorem mono_U {xs : List V} : Mono (IsU xs) := fun _ _ _ e ⟨p, h1, h2⟩ => ⟨p, h1, e _ _ h2⟩
theorem mono_LL {Φs : List Ph} (m : ∀ Φ ∈ Φs, Mono Φ) : Mono (LL Φs) := fun _ _ _ e ⟨p, vs, h1, h2, h3⟩ => ⟨p, vs, h1, e _ _ h2, h3.mono e m⟩
theorem mono_UU {Φs : List Ph} (m : ∀ Φ ∈ Φs, Mono Φ) : Mono (UU Φs) := fun _ _ _ e ⟨p, vs, h1, h2, h3⟩ => ⟨p, vs, h1, e _ _ h2, h3.mono e m⟩
section
variable {K : PySem.W.Frag} {σ : L2.St} {H H' : Hp} {ta tb te tx : TE} {t u : TT} {x y z v : V} {Φ Ψ : Ph}
theorem evp_of (h : Ev te σ H x) : EvP te σ H (Is x) := fun H1 e Q q => h H1 e Q fun H2 e2 => q x H2 e2 rfl
theorem ev_ofp (h : EvP te σ H (Is x)) : Ev te σ H x := fun H1 e Q q => h H1 e Q fun v H2 e2 k => by
  have : v = x := k
  subst this
  exact q H2 e2
theorem evp_ofL {xs : List V} (h : EvL te σ H xs) : EvP te σ H (IsL xs) := fun H1 e Q q => h H1 e Q fun p H2 hp e2 h2 => q (.ref p) H2 e2 ⟨p, rfl, newp_of hp h2⟩
theorem newp_is {H1 H2 : Hp} {p : Addr} {o : HO} (k : newp H1 H2 p = some o) : H1 p = none ∧ H2 p = some o := by
  refine ⟨?_, newp_ex _ _ k⟩
  unfold newp at k
  split at k
  · assumption
  · cases k
theorem evl_ofp {xs : List V} (h : EvP te σ H (IsL xs)) : EvL te σ H xs := fun H1 e Q q => h H1 e Q fun v H2 e2 ⟨p, k1, k2⟩ => by
  subst k1
  obtain ⟨a, b⟩ := newp_is k2
  exact q p H2 a e2 b
theorem evp_ofU {xs : List V} (h : EvU te σ H xs) : EvP te σ H (IsU xs) := fun H1 e Q q => h H1 e Q fun p H2 hp e2 h2 => q (.ref p) H2 e2 ⟨p, rfl, newp_of hp h2⟩
theorem EvP.mono (e : Ex H H') (h : EvP te σ H Φ) : EvP te σ H' Φ := fun H1 a Q q => h H1 (e.trans a) Q q
theorem EvP.imp (h : EvP te σ H Φ) (k : ∀ v G, Φ v G → Ψ v G) : EvP te σ H Ψ := fun H1 a Q q => h H1 a Q fun v H2 e r => q v H2 e (k _ _ r)
/-- what is told of the values of a call -/
def EvPA (tA : TA) (σ : L2.St) (H : Hp) (Φs : List Ph) : Prop := ∀ H1, Ex H H1 → ∀ Q : List V → Hp → Prop, (∀ vs H2, Ex H1 H2 → Al Φs vs (newp H1 H2) → Q vs H2) → tA σ H1 Q
theorem epa_nil : EvPA tNil σ H [] := fun H1 _ _ q => q [] H1 (Ex.refl _) .nil
theorem epa_cons {tr : TA} {Φs : List Ph} (m : Mono Φ) (ms : ∀ Ψ ∈ Φs, Mono Ψ) (h : EvP ta σ H Φ) (hr : EvPA tr σ H Φs) : EvPA (tCons ta tr) σ H (Φ :: Φs) := fun H1 e _ q =>
  h H1 e _ fun v H2 e2 k => hr H2 (e.trans e2) _ fun vs H3 e3 ks => q (v :: vs) H3 (e2.trans e3) (.cons (m _ _ _ (newp_mono (Ex.refl _) e3) k) (ks.mono (newp_mono e2 (Ex.refl _)) ms))
theorem epa_of {tA : TA} {vs : List V} (h : EvA tA σ H vs) : EvPA tA σ H (vs.map Is) := fun H1 e Q q => h H1 e Q fun H2 e2 => q vs H2 e2 (by
  generalize newp H1 H2 = G
  clear q h
  induction vs with
  | nil => exact .nil
  | cons v vs ih => exact .cons rfl ih)
/-- a new list of new things, a new tuple -/
theorem evp_lst {ta : TA} {Φs : List Ph} (ms : ∀ Ψ ∈ Φs, Mono Ψ) (h : EvPA ta σ H Φs) (hl : Φs.length ≤ 100000) : EvP (tLst ta) σ H (LL Φs) := fun H1 e _ q =>
  h H1 e _ fun vs H2 e2 k => ⟨by rw [k.length]; exact sz_of hl, fun p hp => q (.ref p) _ (e2.trans (Ex.new hp)) ⟨p, vs, rfl, newp_of (fresh_back e2 hp) upd_same, k.mono (newp_mono (Ex.refl _) (Ex.new hp)) ms⟩⟩
theorem evp_tup {ta : TA} {Φs : List Ph} (ms : ∀ Ψ ∈ Φs, Mono Ψ) (h : EvPA ta σ H Φs) (hl : Φs.length ≤ 100000) : EvP (tTup ta) σ H (UU Φs) := fun H1 e _ q =>
  h H1 e _ fun vs H2 e2 k => ⟨by rw [k.length]; exact sz_of hl, fun p hp => q (.ref p) _ (e2.trans (Ex.new hp)) ⟨p, vs, rfl, newp_of (fresh_back e2 hp) upd_same, k.mono (newp_mono (Ex.refl _) (Ex.new hp)) ms⟩⟩
/-! statements -/
variable {D : Ends} {tz : TS}
theorem s_asgP {i : Nat} (h : EvP te σ H Φ) (k : ∀ v H1, Ex H H1 → Φ v (newp H H1) → D.nx (σ.set i (some v)) H1) : tAsg te (gName i) D σ H := h H (Ex.refl H) _ k
theorem q_asgP {i : Nat} (h : EvP te σ H Φ) (k : ∀ v H1, Ex H H1 → Φ v (newp H H1) → tz D (σ.set i (some v)) H1) : tSeq (tAsg te (gName i)) tz D σ H := h H (Ex.refl H) _ k
theorem s_retP (h : EvP te σ H Φ) (k : ∀ v H1, Ex H H1 → Φ v (newp H H1) → D.rt v H1) : tRet te D σ H := h H (Ex.refl H) _ k
end

/-! ### promises of defs that leave what is known as it was -/
/-- ar: what the values are in the heap; Φ: what is handed back, new -/
def spP {α : Type} (ar : α → List V → Hp → Prop) (Φ : α → Ph) : Sp := fun vs H Q _ => ∃ a : α, ar a vs H ∧ ∀ v H2, Ex H H2 → Φ a v (newp H H2) → Q v H2
/-- a call of such a def -/
theorem evp_call {α : Type} {ar : α → List V → Hp → Prop} {Φ : α → Ph} {σ : L2.St} {H : Hp} {ta : TA} {E : XK} (a : α) {vs : List V} (m : Mono (Φ a)) (h : EvA ta σ H vs) (ha : ∀ H1, Ex H H1 → ar a vs H1) : EvP (tCall (spP ar Φ) [] E ta) σ H (Φ a) := fun H1 e Q q =>
  h H1 e _ fun H2 e2 => ⟨a, by rw [List.append_nil]; exact ha H2 (e.trans e2), fun v H3 e3 k => q v H3 (e2.trans e3) (m _ _ _ (newp_mono e2 (Ex.refl _)) k)⟩
/-- .. its values told as new data -/
theorem evp_callP {α : Type} {ar : α → List V → Hp → Prop} {Φ : α → Ph} {σ : L2.St} {H : Hp} {ta : TA} {E : XK} (a : α) {Φs : List Ph} (m : Mono (Φ a)) (h : EvPA ta σ H Φs) (ha : ∀ vs H1 H2, Ex H H1 → Ex H1 H2 → Al Φs vs (newp H1 H2) → ar a vs H2) : EvP (tCall (spP ar Φ) [] E ta) σ H (Φ a) := fun H1 e Q q =>
  h H1 e _ fun vs H2 e2 k => ⟨a, by rw [List.append_nil]; exact ha vs H1 H2 e e2 k, fun v H3 e3 k' => q v H3 (e2.trans e3) (m _ _ _ (newp_mono e2 (Ex.refl _)) k')⟩
/-- a def whose answer is a value -/
theorem ev_call1 {α : Type} {ar : α → List V → Hp → Prop} {f : α → V} {σ : L2.St} {H : Hp} {ta : TA} {E : XK} (a : α) {vs : List V} (h : EvA ta σ H vs) (ha : ∀ H1, Ex H H1 → ar a vs H1) : Ev (tCall (spP ar fun a => Is (f a)) [] E ta) σ H (f a) :=
  ev_ofp (evp_call a mono_is h ha)

/-! ### what is walked -/
def Itw (wi : TI) (σ : L2.St) (H : Hp) (n : Nat) (Y : Nat → V → Hp → Prop) (kp : Hp → Prop) : Prop :=
  ∀ H1, Ex H H1 → ∀ R : It → Hp → Prop, (∀ J H2, Ex H1 H2 → (∀ i H3, kp H3 → i < n → J.go i H3) → (∀ H3, kp H3 → J.stop n H3) → (∀ i H3 x H4, kp H3 → i < n → J.yld i H3 x H4 → Ex H3 H4 ∧ Y i x H4) → R J H2) → wi σ H1 R
section
variable {K : PySem.W.Frag} {σ : L2.St} {H : Hp} {tl te : TE} {ta : TA} {tt : TT} {wi : TI} {g : TG}
theorem itw_list {a : Addr} {xs : List V} (h : Ev tl σ H (.ref a)) (hx : SqL K H a xs) : Itw (iList K tl) σ H xs.length (fun i x _ => xs[i]? = some x) (fun H' => SqL K H' a xs) := fun H1 e R r =>
  h H1 e _ fun H2 e2 => ⟨a, rfl, ⟨xs, ex_l (e.trans e2) hx⟩, r _ H2 e2 (fun i H3 k hi => ⟨xs, xs[i], k, List.getElem?_eq_getElem hi⟩) (fun H3 k => ⟨xs, k, Nat.le_refl _⟩) fun i H3 x H4 k hi y => by
    obtain ⟨rfl, y2⟩ := y
    exact ⟨Ex.refl _, y2 xs k⟩⟩
theorem itw_range1 {n : Nat} (h : EvA ta σ H [.int (n : Int)]) (hn : n ≤ 1000000) : Itw (iRng1 ta) σ H n (fun i x _ => x = .int (i : Int)) (fun _ => True) := fun H1 e R r =>
  h H1 e _ fun H2 e2 => ⟨(n : Int), rfl, by omega, by omega, r _ H2 e2 (fun i H3 k hi => by show i < ((n : Int)).toNat; omega) (fun H3 k => by show ((n : Int)).toNat ≤ n; omega) fun i H3 x H4 k hi y => by
    obtain ⟨rfl, y2⟩ := y
    refine ⟨Ex.refl _, ?_⟩
    rw [y2, Int.zero_add]⟩
theorem itw_enum {a : Addr} {xs : List V} (h : EvA ta σ H [.ref a]) (hx : SqL K H a xs) : Itw (iEnum K ta) σ H xs.length (fun i v H' => ∃ T x, v = .ref T ∧ xs[i]? = some x ∧ H' T = some (.tup [.int (i : Int), x])) (fun H' => SqL K H' a xs) := fun H1 e R r =>
  h H1 e _ fun H2 e2 => ⟨a, xs, rfl, ex_l (e.trans e2) hx, r _ H2 e2 (fun i H3 k hi => ⟨xs, xs[i], k, List.getElem?_eq_getElem hi⟩) (fun H3 k => ⟨xs, k, Nat.le_refl _⟩) fun i H3 x H4 k hi y => by
    obtain ⟨T, z, rfl, hT, rfl, y2⟩ := y
    exact ⟨Ex.new hT, T, z, rfl, y2 xs k, upd_same⟩⟩
theorem itw_zip {a b : Addr} {xs ys : List V} (h : EvA ta σ H [.ref a, .ref b]) (hx : SqL K H a xs) (hy : SqL K H b ys) (hl : xs.length = ys.length) :
    Itw (iZip K ta) σ H xs.length (fun i v H' => ∃ T x y, v = .ref T ∧ xs[i]? = some x ∧ ys[i]? = some y ∧ H' T = some (.tup [x, y])) (fun H' => SqL K H' a xs ∧ SqL K H' b ys) := fun H1 e R r =>
  h H1 e _ fun H2 e2 => ⟨a, b, xs, ys, rfl, ex_l (e.trans e2) hx, ex_l (e.trans e2) hy, r _ H2 e2 (fun i H3 k hi => ⟨xs, ys, xs[i], ys[i], k.1, k.2, List.getElem?_eq_getElem hi, List.getElem?_eq_getElem (by omega)⟩) (fun H3 k => ⟨xs, ys, k.1, k.2, .inl (Nat.le_refl _)⟩) fun i H3 x H4 k hi y => by
    obtain ⟨T, z, z2, rfl, hT, rfl, y1, y2⟩ := y
    exact ⟨Ex.new hT, T, z, z2, rfl, y1 xs k.1, y2 ys k.2, upd_same⟩⟩
/-- a comprehension that makes new things -/
theorem evp_lc {vs : List Nat} {n : Nat} {Y : Nat → V → Hp → Prop} {kp : Hp → Prop} (f : Nat → Bool) (Φ : Nat → Ph) (I : Itw wi σ H n Y kp) (hn : n ≤ 40000) (hk : ∀ H', Ex H H' → kp H') (m : ∀ i, Mono (Φ i))
    (turn : ∀ i x H1, Ex H H1 → i < n → Y i x H1 → ∀ R : L2.St → Hp → Prop, (∀ σ2, wipe σ2 vs = wipe σ vs → EvT tt σ2 H1 (f i) → (f i = true → EvP te σ2 H1 (Φ i)) → R σ2 H1) → g x (wipe σ vs) H1 R) :
    EvP (tLc wi g tt te vs) σ H (LL (((List.range n).filter f).map Φ)) := fun H1 e Q q => by
  refine I H1 e _ fun J H2 e2 go stop yld D hD => ?_
  refine ⟨fun i k H' => i + k = n ∧ Ex H2 H' ∧ ∃ acc, H' D = some (.lst acc) ∧ Al (((List.range i).filter f).map Φ) acc (del (newp H2 H') D), ⟨n, by omega, Ex.new hD, [], upd_same, .nil⟩, fun i k H' hW => ?_⟩
  obtain ⟨hik, ex, acc, hacc, al⟩ := hW
  have kk : kp H' := hk H' ((e.trans e2).trans ex)
  by_cases hi : i < n
  · refine .inr ⟨go i H' kk hi, fun H'' => Ex H2 H'' ∧ ∃ acc, H'' D = some (.lst acc) ∧ Al (((List.range (i + 1)).filter f).map Φ) acc (del (newp H2 H'') D), fun H'' hN => ⟨k - 1, by omega, by omega, hN⟩, fun x H3 y => ?_⟩
    obtain ⟨e3, y3⟩ := yld i H' x H3 kk hi y
    refine turn i x H3 (((e.trans e2).trans ex).trans e3) hi y3 _ fun σ2 w2 ht he => ⟨w2, ?_⟩
    have hacc3 := e3 D _ hacc
    refine ht H3 (Ex.refl _) _ fun H4 e4 => ?_
    have hacc4 := e4 D _ hacc3
    have ex4 := (ex.trans e3).trans e4
    have m4 : Ex (del (newp H2 H') D) (del (newp H2 H4) D) := del_mono (newp_mono (Ex.refl _) (e3.trans e4))
    have mm : ∀ j, ∀ Ψ ∈ ((List.range j).filter f).map Φ, Mono Ψ := fun j Ψ h => by
      obtain ⟨z, _, rfl⟩ := List.mem_map.mp h
      exact m z
    have lacc : acc.length ≤ i := by
      rw [al.length, List.length_map]
      have := List.length_filter_le f (List.range i)
      rw [List.length_range] at this
      exact this
    have hs : ((List.range (i + 1)).filter f) = ((List.range i).filter f) ++ (if f i = true then [i] else []) := by
      rw [List.range_succ, List.filter_append, List.filter_cons, List.filter_nil]
    cases hf : f i with
    | true =>
      simp only [if_true]
      refine he hf H4 e4 _ fun v H5 e5 kv => ⟨acc, e5 D _ hacc4, sz_lt (by omega), Ex.mut (ex4.trans e5) hD, acc ++ [v], upd_same, ?_⟩
      rw [hs, hf, if_pos rfl, List.map_append]
      have b : Ex (del (newp H2 H5) D) (del (newp H2 (upd H5 D (.lst (acc ++ [v])))) D) := fun c o h => by
        have hc : c ≠ D := by rintro rfl; rw [del_same] at h; cases h
        rw [del_ne hc] at h ⊢
        unfold newp at h ⊢
        split
        · rename_i z
          rw [z] at h
          simp only at h
          rw [upd_ne hc]; exact h
        · rename_i o' z
          rw [z] at h
          cases h
      refine Al.append (al.mono ((m4.trans (del_mono (newp_mono (Ex.refl _) e5))).trans b) (mm i)) (.cons (m i _ _ _ b ?_) .nil)
      refine m i _ _ _ (fun c o h => ?_) kv
      obtain ⟨c4, c5⟩ := newp_is h
      have hc : c ≠ D := by rintro rfl; rw [hacc4] at c4; cases c4
      rw [del_ne hc]
      exact newp_of (fresh_back ex4 c4) c5
    | false =>
      simp only [Bool.false_eq_true, if_false]
      refine ⟨ex4, acc, hacc4, ?_⟩
      rw [hs, hf, if_neg Bool.false_ne_true, List.append_nil]
      exact al.mono m4 (mm i)
  · have hin : i = n := by omega
    subst hin
    refine .inl ⟨stop H' kk, q (.ref D) H' (e2.trans ex) ⟨D, acc, rfl, newp_of (fresh_back e2 hD) hacc, al.mono (fun c o h => ?_) fun Ψ h => by
      obtain ⟨z, _, rfl⟩ := List.mem_map.mp h
      exact m z⟩⟩
    have h2 := newp_is (del_ex c o h)
    exact newp_of (fresh_back e2 h2.1) h2.2
/-- a loop -/
theorem s_for {D : Ends} {tb : TS} {n : Nat} {Y : Nat → V → Hp → Prop} {kp : Hp → Prop} (I : Itw wi σ H n Y kp) (Pv : Nat → L2.St → Hp → Prop) (h0 : ∀ H1, Ex H H1 → Pv 0 σ H1) (hk : ∀ i σ' H', Pv i σ' H' → kp H')
    (turn : ∀ i x σ' H' H1, i < n → Pv i σ' H' → Ex H' H1 → Y i x H1 → g x σ' H1 fun σ2 H2 => tb { D with nx := Pv (i + 1), ct := Pv (i + 1), bk := D.nx } σ2 H2) (hd : ∀ σ' H', Pv n σ' H' → D.nx σ' H') : tFor wi g tb D σ H := by
  refine I H (Ex.refl H) _ fun J H2 e2 go stop yld => ?_
  refine ⟨fun i k σ' H' => i + k = n ∧ Pv i σ' H', ⟨n, by omega, h0 H2 e2⟩, fun i k σ' H' hW => ?_⟩
  obtain ⟨hik, hp⟩ := hW
  by_cases hi : i < n
  · refine .inr ⟨go i H' (hk _ _ _ hp) hi, Pv (i + 1), fun σ'' H'' hN => ⟨k - 1, by omega, by omega, hN⟩, fun x H3 y => ?_⟩
    obtain ⟨e3, y3⟩ := yld i H' x H3 (hk _ _ _ hp) hi y
    exact turn i x σ' H' H3 hi hp e3 y3
  · have hin : i = n := by omega
    subst hin
    exact .inl ⟨stop H' (hk _ _ _ hp), hd σ' H' hp⟩
theorem q_for {D : Ends} {tb tz : TS} {n : Nat} {Y : Nat → V → Hp → Prop} {kp : Hp → Prop} (I : Itw wi σ H n Y kp) (Pv : Nat → L2.St → Hp → Prop) (h0 : ∀ H1, Ex H H1 → Pv 0 σ H1) (hk : ∀ i σ' H', Pv i σ' H' → kp H')
    (turn : ∀ i x σ' H' H1, i < n → Pv i σ' H' → Ex H' H1 → Y i x H1 → g x σ' H1 fun σ2 H2 => tb { D with nx := Pv (i + 1), ct := Pv (i + 1), bk := tz D } σ2 H2) (hd : ∀ σ' H', Pv n σ' H' → tz D σ' H') : tSeq (tFor wi g tb) tz D σ H :=
  s_for (D := { D with nx := tz D }) I Pv h0 hk turn hd
end

/-! ### defs by name -/
def Df (K : PySem.W.Frag) (mg : Str → Option Value) (x : Str) (st : Stmt) : Prop := ∃ f fd, Hd.FnP K x st f fd ∧ mg x = some (.ref f)
/-- a def that keeps its promise, by its name -/
def Cal (P : Program) (w : World) (K : PySem.W.Frag) (mg : Str → Option Value) (base : Heap) (k : Nat) (x : Str) (ps : List Str) (sp : Sp) : Prop :=
  ∃ f fd, FnOk P w K mg base CX0 k f fd ps sp ∧ mg x = some (.ref f) ∧ PySem.W.keepIn K (.ref f) = true ∧ Binds K fd ps []
theorem pe_cal {X : Cx} {k j : Nat} {x : Str} {ps : List Str} {sp : Sp} {p pos : Pos} {e : Expr} {es : List Expr} {t : TA} (c : Cal X.prog X.w X.K X.mg X.base k x ps sp) (hr : Room j X.A) (ha : PA X (e :: es) t) (hg : Gl X x := by rfl) (hk : k ≤ j := by decide)
    (hdb : (x == ("__debug__" : Str)) = false := by decide) (he : starEach (e :: es) X.env = (false, eval e X.env) :: starEach es X.env := by rfl) (hpl : (backTo pos (starEach es X.env)).any (·.1) = false := by rfl) :
    PE X (.Call (.Name x p) (e :: es) [] pos) (tCall sp [] E0 t) := by
  obtain ⟨f, fd, F, g, kp, b⟩ := c
  exact pe_call F (hr.mono hk) hg g kp b .nil pass0 ha hdb he hpl
section
variable {P : Program} {w : World} {K : PySem.W.Frag} {mg : Str → Option Value} {base : Heap}
theorem mk_cal {x : Str} {st : Stmt} {N ps : List Str} {k : Nat} {sp : Sp} (F : Df K mg x st) (S : FnScope N ps (defScope st)) (len : ∀ vs H Q E, sp vs H Q E → vs.length = ps.length)
    (hb : ∀ (kV doc pm : Value) (an : Option Addr) (cdv ct : Value) (us : List Value), us.length = ps.length → bindArgs (PySem.W.fnOf x x (defArgs st) (defBody st) (defScope st) .none kV doc pm an cdv ct) ⟨us, []⟩ = pure (ps.zip us))
    (hbody : ∀ (f : Addr) (cdv : Value) (A : Around) (outer : List Env) (s : Shared) (H : Hp) (vs : List V) (Q : VK) (E : XK), Room k (A.deeper (envOfC x (defScope st) s.heap.objs.size f cdv)) → sp vs H Q E →
      ∃ t, PSs (cxOf CX0 P w K mg base N x (defScope st) f cdv A outer s H E).nox (defBody st) t ∧ t { nx := fun _ H' => Q .non H', rt := Q } (start N vs) H) : Cal P w K mg base (k + 1) x ps sp := by
  obtain ⟨f, fd, F, g⟩ := F
  refine ⟨f, fd, F.ok S len fun cdv A outer s H vs Q E hr h => ?_, g, F.kp, FunD.bindsN F hb⟩
  obtain ⟨t, h1, h2⟩ := hbody f cdv A outer s H vs Q E hr h
  exact ⟨t, h1.nox, h2⟩
end
/-- the built-ins are still themselves, the constants -/
structure Ms (mg : Str → Option Value) : Prop where
  abs : mg "abs" = none
  len : mg "len" = none
  max : mg "max" = none
  min : mg "min" = none
  int : mg "int" = none
  bool : mg "bool" = none
  list : mg "list" = none
  tuple : mg "tuple" = none
  range : mg "range" = none
  sorted : mg "sorted" = none
  sum : mg "sum" = none
  set : mg "set" = none
  repr : mg "repr" = none
  isinstance : mg "isinstance" = none
  all : mg "all" = none
  zip : mg "zip" = none
  enumerate : mg "enumerate" = none
  devs : ∃ t, mg "MOST_DEVICES" = some (.int 60 t)
  most : ∃ t, mg "MOST_NUMBER" = some (.int 1000000000000000000000000000000 t)
  cabs : ∃ t, mg "MOST_CABLES" = some (.int 59 t)
end Ly
end
section
set_option Elab.async false
set_option linter.all false
set_option maxRecDepth 100000
set_option maxHeartbeats 1000000
/-! More rules: powers of great numbers, isinstance of plain values, and what they evaluate to. -/
namespace Ly
open PySem PySem.Spec PyProof.Rows L2 Evl
def iV (n : Nat) : V := .int (n : Int)
theorem iV_inj {a b : Nat} : iV a = iV b ↔ a = b := by
  unfold iV
  constructor
  · intro h; injection h with h; omega
  · intro h; rw [h]
theorem map_iV (ns : List Nat) : ns.map iV = (ns.map Int.ofNat).map V.int := by rw [List.map_map]; rfl
/-! powers -/
def CPowW (i j : Int) : Prop := 0 ≤ j ∧ (Builtin.Int.intBits i : Int) * j ≤ 2 ^ 27
section
variable {X : Cx}
theorem op_powW : OpR X (binaryOp .Pow) (rI CPowW fun i j => .int (i ^ j.toNat)) := opI fun _ _ _ _ _ _ _ hc q => pow_int hc.1 hc.2 q
end
section
variable {K : PySem.W.Frag} {σ : L2.St} {H H' : Hp} {ta tb te tc : TE} {t u : TT} {x y z v : V}
/-! isinstance -/
theorem rc_isi {c : String} {t : Value} {b : Bool} (ht : ∀ H1, Ex H H1 → TyX K H1 x t) (hk : PySem.W.kitOne K t (.type c) = some b) : RC (rIsi K) [x, .ty c] H (.bl b) := fun H1 e Q q =>
  ⟨x, .ty c, t, .type c, b, rfl, .ty c, ht H1 e, hk, q H1 (Ex.refl _)⟩
theorem isi_int_int {i : Int} : RC (rIsi K) [.int i, .ty "int"] H (.bl true) := rc_isi (fun _ _ => .base (.int i)) (kit_ty (by decide +kernel))
theorem isi_int_bool {i : Int} : RC (rIsi K) [.int i, .ty "bool"] H (.bl false) := rc_isi (fun _ _ => .base (.int i)) (kit_ty (by decide +kernel))
theorem isi_list {a : Addr} {xs : List V} (h : H a = some (.lst xs)) : RC (rIsi K) [.ref a, .ty "list"] H (.bl true) := rc_isi (fun _ e => .base (.lst (e _ _ h))) (kit_ty (by decide +kernel))
theorem isi_tup {a : Addr} {xs : List V} (h : H a = some (.tup xs)) : RC (rIsi K) [.ref a, .ty "tuple"] H (.bl true) := rc_isi (fun _ e => .base (.tup (e _ _ h))) (kit_ty (by decide +kernel))
/-! chains of two comparisons -/
theorem ev_chain {r r' : R2} {a b : Bool} (ha : Ev ta σ H x) (hb : Ev tb σ H y) (hr : RV r x y H (.bl a)) (hc : a = true → Ev tc σ H z) (hr' : a = true → RV r' y z H (.bl b)) : Ev (tChain r r' ta tb tc) σ H (.bl (a && b)) := fun H1 e Q q =>
  ha H1 e _ fun H2 e2 => hb H2 (e.trans e2) _ fun H3 e3 => hr H3 ((e.trans e2).trans e3) _ fun H4 e4 => ⟨a, rfl, by
    have e14 := (e2.trans e3).trans e4
    cases a with
    | true =>
      show tc σ H4 _
      exact hc rfl H4 (e.trans e14) _ fun H5 e5 => hr' rfl H5 ((e.trans e14).trans e5) Q fun H6 e6 => q H6 ((e14.trans e5).trans e6)
    | false =>
      show Q (.bl false) H4
      exact q H4 e14⟩
theorem ev_le {i j : Int} (ha : Ev ta σ H (.int i)) (hb : Ev tb σ H (.int j)) : Ev (tOp (rI0 fun i j => .bl (decide (i ≤ j))) ta tb) σ H (.bl (decide (i ≤ j))) := ev_op ha hb rv_I0
theorem ev_lt {i j : Int} (ha : Ev ta σ H (.int i)) (hb : Ev tb σ H (.int j)) : Ev (tOp (rI0 fun i j => .bl (decide (i < j))) ta tb) σ H (.bl (decide (i < j))) := ev_op ha hb rv_I0
/-- a list's length -/
theorem ev_len0 {p : Addr} {xs : List V} (ha : Ev ta σ H (.ref p)) (h : SqL K H p xs) : Ev (tCB (rLenS K) (tCons ta tNil)) σ H (.int (xs.length : Int)) := ev_len ha h
theorem ev_lenT {p : Addr} {xs : List V} (ha : Ev ta σ H (.ref p)) (h : SqT K H p xs) : Ev (tCB (rLenS K) (tCons ta tNil)) σ H (.int (xs.length : Int)) := fun H1 e Q q =>
  ha H1 e _ fun H2 e2 => ⟨p, xs, rfl, Or.inr (ex_t (e.trans e2) h), q H2 e2⟩
/-- all of a new list of truths -/
theorem ev_all {bs : List Bool} (h : EvL te σ H (bs.map V.bl)) : Ev (tCB (rAll K) (tCons te tNil)) σ H (.bl (bs.all id)) := fun H1 e Q q =>
  h H1 e _ fun p H2 _ e2 hp => ⟨p, bs, rfl, sq_of hp, q H2 e2⟩
theorem ev_sum {a : Addr} {ns : List Int} (h : Ev te σ H (.ref a)) (hs : SqL K H a (ns.map V.int)) : Ev (tCB (rSum K) (tCons te tNil)) σ H (.int ns.sum) := fun H1 e Q q =>
  h H1 e _ fun H2 e2 => ⟨a, ns, rfl, ex_l (e.trans e2) hs, q H2 e2⟩
theorem ev_sumN {ns : List Int} (h : EvL te σ H (ns.map V.int)) : Ev (tCB (rSum K) (tCons te tNil)) σ H (.int ns.sum) := fun H1 e Q q =>
  h H1 e _ fun p H2 _ e2 hp => ⟨p, ns, rfl, sq_of hp, q H2 e2⟩
end
/-- all given -/
theorem given_all (n : Nat) (v : Nat → V) : given n (fun _ => true) v = (List.range n).map v := by
  unfold given
  rw [List.filter_eq_self.mpr fun _ _ => rfl]
theorem al_is {vs ws : List V} {G : Hp} (h : Al (ws.map Is) vs G) : vs = ws := by
  induction ws generalizing vs with
  | nil => cases h; rfl
  | cons w ws ih =>
    cases h with
    | cons a b =>
      have e : _ = w := a
      rw [e, ih b]
/-- a comprehension whose items are values that are known -/
theorem el_lc {σ : L2.St} {H : Hp} {te : TE} {tt : TT} {wi : TI} {g : TG} {vs : List Nat} {n : Nat} {Y : Nat → V → Hp → Prop} {kp : Hp → Prop} (f : Nat → Bool) (v : Nat → V) (I : Itw wi σ H n Y kp) (hn : n ≤ 40000) (hk : ∀ H', Ex H H' → kp H')
    (turn : ∀ i x H1, Ex H H1 → i < n → Y i x H1 → ∀ R : L2.St → Hp → Prop, (∀ σ2, wipe σ2 vs = wipe σ vs → EvT tt σ2 H1 (f i) → (f i = true → Ev te σ2 H1 (v i)) → R σ2 H1) → g x (wipe σ vs) H1 R) :
    EvL (tLc wi g tt te vs) σ H (given n f v) := by
  refine evl_ofp ((evp_lc f (fun i => Is (v i)) I hn hk (fun _ => mono_is) fun i x H1 e hi hy R k => turn i x H1 e hi hy R fun σ2 a b c => k σ2 a b fun z => evp_of (c z)).imp ?_)
  rintro v' G ⟨p, vs', rfl, h1, h2⟩
  refine ⟨p, rfl, ?_⟩
  rw [h1]
  have e : ((List.range n).filter f).map (fun i => Is (v i)) = (given n f v).map Is := by unfold given; rw [List.map_map]; rfl
  rw [e] at h2
  rw [al_is h2]
/-- all([..]) where each is true -/
theorem ev_allT {K : PySem.W.Frag} {σ : L2.St} {H : Hp} {te : TE} {wi : TI} {g : TG} {vs : List Nat} {n : Nat} {Y : Nat → V → Hp → Prop} {kp : Hp → Prop} (I : Itw wi σ H n Y kp) (hn : n ≤ 40000) (hk : ∀ H', Ex H H' → kp H')
    (turn : ∀ i x H1, Ex H H1 → i < n → Y i x H1 → ∀ R : L2.St → Hp → Prop, (∀ σ2, wipe σ2 vs = wipe σ vs → Ev te σ2 H1 (.bl true) → R σ2 H1) → g x (wipe σ vs) H1 R) :
    Ev (tCB (rAll K) (tCons (tLc wi g tYes te vs) tNil)) σ H (.bl true) := by
  have h := el_lc (te := te) (tt := tYes) (g := g) (fun _ => true) (fun _ => .bl true) I hn hk fun i x H1 e hi hy R k => turn i x H1 e hi hy R fun σ2 a b => k σ2 a (fun H1 _ Q q => q H1 (Ex.refl _)) fun _ => b
  have e : given n (fun _ => true) (fun _ => V.bl true) = (List.replicate n true).map V.bl := by
    rw [given_all, List.map_replicate]
    refine List.ext_getElem? fun j => ?_
    by_cases q : j < n
    · rw [List.getElem?_map, List.getElem?_range q, List.getElem?_replicate, if_pos q]; rfl
    · rw [List.getElem?_map, List.getElem?_eq_none (by rw [List.length_range]; omega), List.getElem?_replicate, if_neg q]; rfl
  rw [e] at h
  have r := ev_all (K := K) h
  have e2 : (List.replicate n true).all id = true := by
    rw [List.all_eq_true]; intro b hb; rw [(List.mem_replicate.mp hb).2]; rfl
  rw [e2] at r
  exact r
theorem et_yes {σ : L2.St} {H : Hp} : EvT tYes σ H true := fun H1 _ Q q => q H1 (Ex.refl _)
end Ly
end
section
set_option Elab.async false
set_option linter.all false
set_option maxRecDepth 100000
set_option maxHeartbeats 4000000
/-! The walk: plugs. -/
namespace Ly
open PySem PySem.Spec PyProof.Rows L2 Evl Hd
section
variable {P : Program} {w : World} {K : PySem.W.Frag} {mg : Str → Option Value} {base : Heap}
abbrev N_is_integer : List Str := ["thing"]
theorem sc_is_integer : FnScope N_is_integer ["thing"] (defScope s_is_integer) := ⟨rfl, rfl, rfl, by decide +kernel, rfl, by decide +kernel, by decide +kernel⟩
def sp_is_integer : Sp := spP (fun (i : Int) vs _ => vs = [.int i]) fun _ => Is (.bl true)
theorem ok_is_integer (M : Ms mg) (F : Df K mg "is_integer" s_is_integer) : Cal P w K mg base 1 "is_integer" ["thing"] sp_is_integer := by
  refine mk_cal F sc_is_integer (fun vs H Q E h => ?_)
      (fun _ _ _ _ _ _ us hl => match us, hl with | [_], _ => rfl)
    (fun f cdv A outer s H vs Q E hr h => ⟨_,
      (pss_one (ps_ret (pe_and (pe_callB call_isi (by rfl) M.isinstance (by decide +kernel) (pa_cons (pv 0) (pa_cons (pe_bltn (v := .ty "int") (u := .type "int") (by rfl) M.int (by decide +kernel) rfl) pa_nil))) (pe_one (pe_not (pe_callB call_isi (by rfl) M.isinstance (by decide +kernel) (pa_cons (pv 0) (pa_cons (pe_bltn (v := .ty "bool") (u := .type "bool") (by rfl) M.bool (by decide +kernel) rfl) pa_nil))))))))
    , ?_⟩)
  · obtain ⟨i, rfl, _⟩ := h; rfl
  · obtain ⟨i, rfl, q⟩ := h
    refine s_ret (ev_andV (ev_cb (ea_cons (ev_var rfl) (ea_cons ev_c ea_nil)) isi_int_int) fun _ => ev_notV (ev_cb (ea_cons (ev_var rfl) (ea_cons ev_c ea_nil)) isi_int_bool)) fun H1 e => q _ H1 e rfl
abbrev N_is_number : List Str := ["thing"]
theorem sc_is_number : FnScope N_is_number ["thing"] (defScope s_is_number) := ⟨rfl, rfl, rfl, by decide +kernel, rfl, by decide +kernel, by decide +kernel⟩
def sp_is_number : Sp := spP (fun (n : Nat) vs _ => vs = [iV n] ∧ n ≤ 10 ^ 30) fun _ => Is (.bl true)
theorem ok_is_number (M : Ms mg) (F : Df K mg "is_number" s_is_number) (c_is_integer : Cal P w K mg base 1 "is_integer" ["thing"] sp_is_integer) : Cal P w K mg base 2 "is_number" ["thing"] sp_is_number := by
  obtain ⟨tN, mN⟩ := M.most
  refine mk_cal F sc_is_number (fun vs H Q E h => ?_)
      (fun _ _ _ _ _ _ us hl => match us, hl with | [_], _ => rfl)
    (fun f cdv A outer s H vs Q E hr h => ⟨_,
      (pss_one (ps_ret (pe_and (pe_cal c_is_integer hr (pa_cons (pv 0) pa_nil)) (pe_one (pe_chain op_le op_le pe_int (pv 0) (pe_glob (v := .int 1000000000000000000000000000000) rfl mN ⟨_, rfl⟩))))))
    , ?_⟩)
  · obtain ⟨i, ⟨rfl, _⟩, _⟩ := h; rfl
  · obtain ⟨n, ⟨rfl, hn⟩, q⟩ := h
    have d1 : decide ((0 : Int) ≤ (n : Int)) = true := decide_eq_true (by omega)
    have d2 : decide ((n : Int) ≤ 1000000000000000000000000000000) = true := decide_eq_true (by omega)
    refine s_ret (ev_andV (ev_call1 (n : Int) (ea_cons (ev_var rfl) ea_nil) fun _ _ => rfl) fun _ => ev_chain ev_c (ev_var rfl) rv_I0 (fun _ => ev_c) (fun _ => rv_I0)) fun H1 e => q _ H1 e ?_
    rw [d1, d2]; rfl
abbrev N_is_plugs : List Str := ["thing", "number"]
theorem sc_is_plugs : FnScope N_is_plugs ["thing"] (defScope s_is_plugs) := ⟨rfl, rfl, rfl, by decide +kernel, rfl, by decide +kernel, by decide +kernel⟩
/-- plugs as the defs take them -/
def IsPl (H : Hp) (a : Addr) (ds : List Nat) : Prop := H a = some (.lst (ds.map iV)) ∧ 2 ≤ ds.length ∧ ds.length ≤ 60 ∧ ∀ d ∈ ds, d ≤ 10 ^ 30
theorem IsPl.mono {H H' : Hp} {a : Addr} {ds : List Nat} (h : IsPl H a ds) (e : Ex H H') : IsPl H' a ds := ⟨e _ _ h.1, h.2⟩
def sp_is_plugs : Sp := spP (fun (z : Addr × List Nat) vs H => vs = [.ref z.1] ∧ IsPl H z.1 z.2) fun _ => Is (.bl true)
theorem ok_is_plugs (M : Ms mg) (F : Df K mg "is_plugs" s_is_plugs) (c_is_number : Cal P w K mg base 2 "is_number" ["thing"] sp_is_number) : Cal P w K mg base 3 "is_plugs" ["thing"] sp_is_plugs := by
  obtain ⟨tD, mD⟩ := M.devs
  refine mk_cal F sc_is_plugs (fun vs H Q E h => ?_)
      (fun _ _ _ _ _ _ us hl => match us, hl with | [_], _ => rfl)
    (fun f cdv A outer s H vs Q E hr h => ⟨_,
      (pss_cons (ps_if (PW.pt (pw_or (pt_not (pt_val (pe_callB call_isi (by rfl) M.isinstance (by decide +kernel) (pa_cons (pv 0) (pa_cons (pe_bltn (v := .ty "list") (u := .type "list") (by rfl) M.list (by decide +kernel) rfl) pa_nil))))) (pw_or1 (pt_not (pt_chain op_le op_le pe_int (pe_callB call_len_seq (by rfl) M.len PySem.boot_len (pa_cons (pv 0) pa_nil)) (pe_glob (v := .int 60) rfl mD ⟨_, rfl⟩))))))
          (pss_one (ps_ret pe_bl))
          pss_nil)
        (pss_one (ps_ret (pe_callB (cr_all rfl) (by rfl) M.all (by decide +kernel) (pa_cons (pe_lc (own := [("number", 1)]) (tt := tYes) rfl sc_is_plugs.nd (pi_list (pv 0)) (blkOk_by (own := [("number", 1)]) (N := N_is_plugs) (sc := defScope s_is_plugs) (by decide +kernel)) (fun _ _ _ _ _ => (pg_name (i := 1) sc_is_plugs.nd rfl (by first | exact Or.inl rfl | exact Or.inr rfl))) (fun _ _ _ _ _ => pts_nil) (fun _ _ _ _ _ => (pe_cal c_is_number hr (pa_cons (pv 1) pa_nil)))) pa_nil)))))
    , ?_⟩)
  · obtain ⟨i, ⟨rfl, _⟩, _⟩ := h; rfl
  · obtain ⟨⟨a, ds⟩, ⟨rfl, hp⟩, q⟩ := h
    obtain ⟨hp1, hp2, hp3, hp4⟩ := hp
    simp only at hp1 hp2 hp3 hp4
    have hS : SqL K H a (ds.map iV) := sq_of hp1
    have d1 : decide ((2 : Int) ≤ ((ds.map iV).length : Int)) = true := decide_eq_true (by rw [List.length_map]; omega)
    have d2 : decide (((ds.map iV).length : Int) ≤ 60) = true := decide_eq_true (by rw [List.length_map]; omega)
    refine q_when (b := false) (et_is (et_or (et_not (et_B (ev_cb (ea_cons (ev_var rfl) (ea_cons ev_c ea_nil)) (isi_list hp1)))) fun _ => et_not (et_test (ev_chain ev_c (ev_len0 (ev_var rfl) hS) rv_I0 (fun _ => ev_c) fun _ => rv_I0))) (by rw [d1, d2]; rfl)) (fun z => Bool.noConfusion z) fun _ H1 e1 => ?_
    refine s_ret (ev_allT (itw_list (ev_var rfl) (ex_l e1 hS)) (by rw [List.length_map]; omega) (fun H' e => ex_l (e1.trans e) hS) fun i x H2 e2 hi hy R k => k _ rfl ?_) fun H2 e2 => q _ H2 (e1.trans e2) rfl
    rw [List.getElem?_map] at hy
    have hi' : i < ds.length := by rw [List.length_map] at hi; exact hi
    rw [List.getElem?_eq_getElem hi'] at hy
    cases hy
    exact ev_call1 ds[i] (ea_cons (ev_var rfl) ea_nil) fun _ _ => ⟨rfl, hp4 _ (List.getElem_mem _)⟩
abbrev N_need_plugs : List Str := ["plugs"]
theorem sc_need_plugs : FnScope N_need_plugs ["plugs"] (defScope s_need_plugs) := ⟨rfl, rfl, rfl, by decide +kernel, rfl, by decide +kernel, by decide +kernel⟩
def sp_need_plugs : Sp := spP (fun (z : Addr × List Nat) vs H => vs = [.ref z.1] ∧ IsPl H z.1 z.2) fun _ => Is .non
theorem ok_need_plugs (F : Df K mg "need_plugs" s_need_plugs) (c_is_plugs : Cal P w K mg base 3 "is_plugs" ["thing"] sp_is_plugs) : Cal P w K mg base 4 "need_plugs" ["plugs"] sp_need_plugs := by
  refine mk_cal F sc_need_plugs (fun vs H Q E h => ?_)
      (fun _ _ _ _ _ _ us hl => match us, hl with | [_], _ => rfl)
    (fun f cdv A outer s H vs Q E hr h => ⟨_,
      (pss_one (ps_if (pt_not (pt_val (pe_cal c_is_plugs hr (pa_cons (pv 0) pa_nil))))
          pss_never
          pss_nil))
    , ?_⟩)
  · obtain ⟨i, ⟨rfl, _⟩, _⟩ := h; rfl
  · obtain ⟨⟨a, ds⟩, ⟨rfl, hp⟩, q⟩ := h
    exact s_when (b := false) (et_is (et_not (et_B (ev_call1 (a, ds) (ea_cons (ev_var rfl) ea_nil) fun H1 e => ⟨rfl, hp.mono e⟩))) rfl) (fun z => Bool.noConfusion z) fun _ H1 e1 => q _ H1 e1 rfl
abbrev N_too_many : List Str := ["plugs"]
theorem sc_too_many : FnScope N_too_many ["plugs"] (defScope s_too_many) := ⟨rfl, rfl, rfl, by decide +kernel, rfl, by decide +kernel, by decide +kernel⟩
def tooMany (ds : List Nat) : Int := (ds.sum : Int) - 2 * (ds.length : Int) + 2
def sp_too_many : Sp := spP (fun (z : Addr × List Nat) vs H => vs = [.ref z.1] ∧ IsPl H z.1 z.2) fun z => Is (.int (tooMany z.2))
theorem sum_cast : ∀ ds : List Nat, (ds.map Int.ofNat).sum = (ds.sum : Int)
  | [] => rfl
  | d :: ds => by rw [List.map_cons, List.sum_cons, List.sum_cons, sum_cast ds, Int.natCast_add]; rfl
theorem ok_too_many (M : Ms mg) (F : Df K mg "too_many" s_too_many) : Cal P w K mg base 1 "too_many" ["plugs"] sp_too_many := by
  refine mk_cal F sc_too_many (fun vs H Q E h => ?_)
      (fun _ _ _ _ _ _ us hl => match us, hl with | [_], _ => rfl)
    (fun f cdv A outer s H vs Q E hr h => ⟨_,
      (pss_one (ps_ret (pe_op op_add (pe_op op_sub (pe_callB (cr_sum rfl) (by rfl) M.sum (by decide +kernel) (pa_cons (pv 0) pa_nil)) (pe_op op_mul pe_int (pe_callB call_len_seq (by rfl) M.len PySem.boot_len (pa_cons (pv 0) pa_nil)))) pe_int)))
    , ?_⟩)
  · obtain ⟨i, ⟨rfl, _⟩, _⟩ := h; rfl
  · obtain ⟨⟨a, ds⟩, ⟨rfl, hp⟩, q⟩ := h
    have h1 : SqL K H a (ds.map iV) := sq_of hp.1
    have h2 := h1
    rw [map_iV] at h2
    refine s_ret (ev_op (ev_op (ev_sum (ev_var rfl) h2) (ev_op ev_c (ev_len0 (ev_var rfl) h1) (rv_I (.inl (by decide)))) rv_I0) ev_c rv_I0) fun H1 e => q _ H1 e ?_
    show V.int _ = V.int _
    rw [sum_cast, List.length_map]; rfl
abbrev N_conflict_in : List Str := ["plugs"]
theorem sc_conflict_in : FnScope N_conflict_in ["plugs"] (defScope s_conflict_in) := ⟨rfl, rfl, rfl, by decide +kernel, rfl, by decide +kernel, by decide +kernel⟩
/-- possible plugs -/
def Poss (ds : List Nat) : Prop := (∀ d ∈ ds, 1 ≤ d) ∧ ds.sum + 2 = 2 * ds.length
def sp_conflict_in : Sp := spP (fun (z : Addr × List Nat) vs H => vs = [.ref z.1] ∧ IsPl H z.1 z.2 ∧ Poss z.2) fun _ => Is .non
theorem inV_no {k : Nat} : ∀ {ds : List Nat}, k ∉ ds → inV (iV k) (ds.map iV) = false := fun {ds} h => by
  unfold inV
  rw [List.any_eq_false]
  intro x hx
  obtain ⟨d, hd, rfl⟩ := List.mem_map.mp hx
  show ¬ ((d : Int) == (k : Int)) = true
  rw [beq_iff_eq]
  intro e
  have : d = k := by omega
  rw [this] at hd
  exact h hd
theorem inV_yes {k : Nat} : ∀ {ds : List Nat}, k ∈ ds → inV (iV k) (ds.map iV) = true := fun {ds} h => by
  unfold inV
  rw [List.any_eq_true]
  exact ⟨iV k, List.mem_map.mpr ⟨k, h, rfl⟩, by show ((k : Int) == (k : Int)) = true; exact beq_self_eq_true _⟩
theorem inV_dec {k : Nat} {ds : List Nat} : inV (iV k) (ds.map iV) = decide (k ∈ ds) := by
  by_cases h : k ∈ ds
  · rw [inV_yes h, decide_eq_true h]
  · rw [inV_no h, decide_eq_false h]
theorem flat_iV (ds : List Nat) : (ds.map iV).all flatV = true := by
  rw [List.all_eq_true]
  intro x hx
  obtain ⟨d, _, rfl⟩ := List.mem_map.mp hx
  rfl
theorem ok_conflict_in (F : Df K mg "conflict_in" s_conflict_in) (c_too_many : Cal P w K mg base 1 "too_many" ["plugs"] sp_too_many) : Cal P w K mg base 2 "conflict_in" ["plugs"] sp_conflict_in := by
  refine mk_cal F sc_conflict_in (fun vs H Q E h => ?_)
      (fun _ _ _ _ _ _ us hl => match us, hl with | [_], _ => rfl)
    (fun f cdv A outer s H vs Q E hr h => ⟨_,
      (pss_cons (ps_if (pt_cmpR op_in_seq pe_int (pv 0) (by rfl))
          (pss_one (ps_ret (pe_tup (pa_cons pe_str (pa_cons (pe_bm PySem.F.plainAttrs_list PySem.F.slot_list_index PySem.F.type_list_index mt_index (pv 0) (pa_cons pe_int pa_nil)) pa_nil)))))
          pss_nil)
        (pss_one (ps_ret (pe_ifExp (pt_cmpR op_ne (pe_cal c_too_many hr (pa_cons (pv 0) pa_nil)) pe_int (nomark _)) (pe_tup (pa_cons pe_str (pa_cons (pe_cal c_too_many hr (pa_cons (pv 0) pa_nil)) pa_nil))) pe_non))))
    , ?_⟩)
  · obtain ⟨i, ⟨rfl, _⟩, _⟩ := h; rfl
  · obtain ⟨⟨a, ds⟩, ⟨rfl, hp, hq⟩, q⟩ := h
    have h1 : SqL K H a (ds.map iV) := sq_of hp.1
    have z0 : inV (iV 0) (ds.map iV) = false := inV_no fun h => by have := hq.1 0 h; omega
    have tm : tooMany ds = 0 := by have := hq.2; simp only at this; unfold tooMany; omega
    refine q_when (b := false) (et_is (et_test (ev_op ev_c (ev_var rfl) (rv_isL h1 rfl (flat_iV ds)))) z0) (fun z => Bool.noConfusion z) fun _ H1 e1 => ?_
    refine s_ret (ev_if (b := false) (et_is (et_test (ev_op (ev_call1 (a, ds) (ea_cons (ev_var rfl) ea_nil) fun H2 e => ⟨rfl, hp.mono (e1.trans e)⟩) ev_c (rv_ne rfl))) ?_) (fun z => Bool.noConfusion z) fun _ => ev_c) fun H2 e2 => q _ H2 (e1.trans e2) rfl
    show (!decide (V.int (tooMany ds) = V.int 0)) = false
    rw [tm]; rfl
abbrev N_need_net : List Str := ["plugs", "conflict"]
theorem sc_need_net : FnScope N_need_net ["plugs"] (defScope s_need_net) := ⟨rfl, rfl, rfl, by decide +kernel, rfl, by decide +kernel, by decide +kernel⟩
def sp_need_net : Sp := spP (fun (z : Addr × List Nat) vs H => vs = [.ref z.1] ∧ IsPl H z.1 z.2 ∧ Poss z.2) fun _ => Is .non
theorem ok_need_net (F : Df K mg "need_net" s_need_net) (c_conflict_in : Cal P w K mg base 2 "conflict_in" ["plugs"] sp_conflict_in) : Cal P w K mg base 3 "need_net" ["plugs"] sp_need_net := by
  refine mk_cal F sc_need_net (fun vs H Q E h => ?_)
      (fun _ _ _ _ _ _ us hl => match us, hl with | [_], _ => rfl)
    (fun f cdv A outer s H vs Q E hr h => ⟨_,
      (pss_cons (ps_set (i := 1) sc_need_net.nd rfl (by first | exact Or.inl rfl | exact Or.inr rfl) (pe_cal c_conflict_in hr (pa_cons (pv 0) pa_nil)))
        (pss_one (ps_if (pt_cmpR op_notN (pv 1) pe_non (nomark _))
          pss_never
          pss_nil)))
    , ?_⟩)
  · obtain ⟨i, ⟨rfl, _⟩, _⟩ := h; rfl
  · obtain ⟨⟨a, ds⟩, ⟨rfl, hp, hq⟩, q⟩ := h
    refine q_asg (ev_call1 (a, ds) (ea_cons (ev_var rfl) ea_nil) fun H2 e => ⟨rfl, hp.mono e, hq⟩) fun H1 e1 => ?_
    exact s_when (b := false) (et_test (ev_op (ev_var rfl) ev_c (rv_val fun H1 _ Q k => ⟨rfl, k⟩))) (fun z => Bool.noConfusion z) fun _ H2 e2 => q _ H2 (e1.trans e2) rfl
end
end Ly
end
section
set_option Elab.async false
set_option linter.all false
set_option maxRecDepth 100000
set_option maxHeartbeats 1000000
/-! Rules: xs[i] += e, a < b < c < d, xs.index(y, i). -/
namespace Ly
open PySem PySem.Spec PyProof.Rows L2 Evl
section
variable {X : Cx}
/-- o[i] read ahead of a store -/
def rGetL : V → V → Hp → VK → Prop := fun o i H Q => ∃ (p : Addr) (xs : List V) (j : Nat) (v : V), o = .ref p ∧ i = .int (j : Int) ∧ H p = some (.lst xs) ∧ xs[j]? = some v ∧ Q v H
theorem get_list : PGet X rGetL := by
  intro pins s σ H o i ov iv Q I ro ri h
  obtain ⟨p, xs, j, v, rfl, rfl, hH, hj, q⟩ := h
  cases ro
  obtain ⟨t, rfl⟩ := ri
  obtain ⟨its, r, pl, hz⟩ := I.list (sq_of hH)
  obtain ⟨u, eu, ru⟩ := r.get hj
  have hn := line63
  have hjl := (List.getElem?_eq_some_iff.mp hj).1
  exact wpAny_getItem_list pl.isList (Int.natCast_nonneg j) (by omega) (by rw [Int.toNat_natCast]; simpa using eu) ⟨v, H, I, ru, q⟩
/-- a op b op c op d -/
def tChain3 (r1 r2 r3 : R2) (ta tb tc td : TE) : TE := fun σ H Q => ta σ H fun x H1 => tb σ H1 fun y H2 => r1 x y H2 fun z H3 => ∃ k, z = .bl k ∧
  (if k = true then tc σ H3 fun x2 H4 => r2 y x2 H4 fun z2 H5 => ∃ k2, z2 = .bl k2 ∧ (if k2 = true then td σ H5 fun x3 H6 => r3 x2 x3 H6 Q else Q (.bl false) H5) else Q (.bl false) H3)
theorem pe_chain3 {o1 o2 o3 : CmpOp} {r1 r2 r3 : R2} {a b c d : Expr} {ta tb tc td : TE} {pos : Pos} (h1 : OpR X (compareOp o1) r1) (h2 : OpR X (compareOp o2) r2) (h3 : OpR X (compareOp o3) r3) (ha : PE X a ta) (hb : PE X b tb) (hc : PE X c tc) (hd : PE X d td)
    (hm : lastMarks [o1, o2, o3] [b, c, d] = false := by with_unfolding_all rfl) : PE X (.Compare a [o1, o2, o3] [b, c, d] pos) (tChain3 r1 r2 r3 ta tb tc td) := by
  refine ⟨fun pins s σ H Q I h => ?_⟩
  refine Compare_chain (thn (ha.run pins s σ H _ I h) fun v s1 ⟨x, H1, I1, rx, q1⟩ => chain_link (thn (hb.run pins s1 σ H1 _ I1 q1) fun u s2 ⟨y, H2, I2, ry, q2⟩ =>
    thn (h1 pins s2 σ H2 x y v u _ I2 rx ry q2) fun e s3 ⟨z, H3, I3, rz, k, ek, q3⟩ => ?_)) hm
  subst ek
  cases rz
  refine wpAny_truthy_bool ?_
  cases k with
  | false => exact ite_ff ⟨.bl false, H3, I3, rfl, q3⟩
  | true =>
    refine ite_tt (chain_link (thn (hc.run pins s3 σ H3 _ I3 q3) fun u2 s4 ⟨x2, H4, I4, rx2, q4⟩ => thn (h2 pins s4 σ H4 y x2 u u2 _ I4 ry rx2 q4) fun e2 s5 ⟨z2, H5, I5, rz2, k2, ek2, q5⟩ => ?_))
    subst ek2
    cases rz2
    refine wpAny_truthy_bool ?_
    cases k2 with
    | false => exact ite_ff ⟨.bl false, H5, I5, rfl, q5⟩
    | true => exact ite_tt (chain_last (thn (hd.run pins s5 σ H5 _ I5 q5) fun u3 s6 ⟨x3, H6, I6, rx3, q6⟩ => h3 pins s6 σ H6 x2 x3 u2 u3 Q I6 rx2 rx3 q6))
/-- xs.index(y, i), flat items, 0 ≤ i -/
def rIndexF (K : PySem.W.Frag) : V → List V → Hp → VK → Prop := fun x xs H Q => ∃ (a : Addr) (ys : List V) (y : V) (i j : Nat) (z : V), x = V.ref a ∧ xs = [y, .int (i : Int)] ∧ SqL K H a ys ∧ flatV y = true ∧ ys.all flatV = true ∧ i ≤ j ∧ ys[j]? = some z ∧ eqV z y = true ∧
  (∀ (m : Nat) (z' : V), i ≤ m → m < j → ys[m]? = some z' → eqV z' y = false) ∧ Q (.int (j : Nat)) H
theorem mt_indexFrom : MtR X "list.index" (rIndexF X.K) := by
  intro pins s σ H x xs v us Q I rx rxs h
  obtain ⟨a, ys, y, i, j, z, rfl, rfl, hs, fy, fys, hij, hz, hzj, hno, q⟩ := h
  cases rx
  obtain ⟨uy, ui, rfl, ry, ri⟩ := rxs.two
  obtain ⟨ti, rfl⟩ := ri
  obtain ⟨its, rv, ⟨⟨cls, dd, data, sl⟩, n, ho, hc, hdn, hd⟩, hlen⟩ := I.list hs
  simp only at hc hd
  subst hc hd
  obtain ⟨u, hu, ru⟩ := rv.get hz
  obtain ⟨hjl, hje⟩ := List.getElem?_eq_some_iff.mp hu
  have hvl := rv.length
  have hj : j < its.toArray.size := by simpa using hjl
  have hsl := sizeLine_eq
  have hsf : SeqAt.searchFrom (i : Int) its.toArray.size = i := by rw [SeqAt.searchFrom_nonneg (Int.natCast_nonneg i)]; simp
  have item : ∀ (m : Nat) (hm : m < its.toArray.size), ∃ z', ys[m]? = some z' ∧ eqU y its.toArray[m] = eqV z' y := fun m hm => by
    have hml : m < its.length := by simpa using hm
    have hy' : ys[m]? = some (ys[m]'(by omega)) := List.getElem?_eq_getElem (by omega)
    obtain ⟨u2, hu2, ru2⟩ := rv.get hy'
    obtain ⟨_, hme⟩ := List.getElem?_eq_some_iff.mp hu2
    have e1 : its.toArray[m] = u2 := by simpa using hme
    exact ⟨_, hy', by rw [e1, eqU_of ru2 (flat_at fys hy')]⟩
  have gd : ∀ (m : Nat) (hm : m < its.toArray.size), its.toArray.getD m .none = its.toArray[m] := fun m hm => by
    unfold Array.getD
    rw [dif_pos hm]; rfl
  refine call_meets PySem.F.slot_list_index ⟨_, ho, rfl⟩ PySem.F.entry_list_index (PySem.F.args_list_index_3 _ _ _)
    (SeqAt.list_index3_found a its.toArray n dd sl uy (fun m => eqU y (its.toArray.getD m .none)) (i : Int) ti j hj (by rw [hsf]; exact hij) (by omega) ?_ ?_) ⟨ho, fun m hm => ?_, ⟨.int (j : Nat), H, I.tok _, ⟨_, rfl⟩, q⟩⟩
  · obtain ⟨z', e1, e2⟩ := item j hj
    have e3 := gd j hj
    rw [e3, e2]
    rw [hz] at e1
    cases e1
    exact hzj
  · intro m hm h1 h2
    rw [hsf] at h1
    obtain ⟨z', e1, e2⟩ := item m hm
    have e3 := gd m hm
    rw [e3, e2]
    exact hno m z' h1 h2 e1
  · have e3 := gd m hm
    rw [e3]
    exact mem_eqAt ry fy rv fys its.toArray[m] (by simp)
end
section
variable {K : PySem.W.Frag} {σ : L2.St} {H H' : Hp} {ta tb tc td : TE} {x y z v : V}
theorem ev_chain3 {r1 r2 r3 : R2} {x2 : V} (ha : Ev ta σ H x) (hb : Ev tb σ H y) (h1 : RV r1 x y H (.bl true)) (hc : Ev tc σ H x2) (h2 : RV r2 y x2 H (.bl true)) (hd : Ev td σ H z) (h3 : RV r3 x2 z H (.bl true)) : Ev (tChain3 r1 r2 r3 ta tb tc td) σ H (.bl true) := fun H1 e Q q =>
  ha H1 e _ fun H2 e2 => hb H2 (e.trans e2) _ fun H3 e3 => h1 H3 ((e.trans e2).trans e3) _ fun H4 e4 => ⟨true, rfl, by
    have e14 := (e2.trans e3).trans e4
    show tc σ H4 _
    exact hc H4 (e.trans e14) _ fun H5 e5 => h2 H5 ((e.trans e14).trans e5) _ fun H6 e6 => ⟨true, rfl, by
      have e16 := (e14.trans e5).trans e6
      show td σ H6 _
      exact hd H6 (e.trans e16) _ fun H7 e7 => h3 H7 ((e.trans e16).trans e7) Q fun H8 e8 => q H8 ((e16.trans e7).trans e8)⟩⟩
end
end Ly
end
section
set_option Elab.async false
set_option linter.all false
set_option maxRecDepth 100000
set_option maxHeartbeats 1000000
/-! Rules: sorted lists of lists of ints. -/
namespace Ly
open PySem PySem.Spec PyProof.Rows L2 Evl
/-! ### lists of ints, in their order -/
def liLt : List Int → List Int → Bool
  | [], [] => false
  | [], _ :: _ => true
  | _ :: _, [] => false
  | x :: xs, y :: ys => if x = y then liLt xs ys else decide (x < y)
theorem firstLt_li (ns ms : List Int) (e r : Nat → Bool) (h : ∀ j x y, ns[j]? = some x → ms[j]? = some y → (e j = decide (x = y)) ∧ (e j = false → r j = decide (x < y))) :
    ∀ m k, min ns.length ms.length - k = m → k ≤ min ns.length ms.length → SeqAt.firstLt e r (decide (ns.length < ms.length)) ((List.range (min ns.length ms.length)).drop k) = liLt (ns.drop k) (ms.drop k) := by
  intro m
  induction m with
  | zero =>
    intro k hm hk
    have hkk : k = min ns.length ms.length := by omega
    rw [List.drop_eq_nil_of_le (as := List.range _) (by rw [List.length_range]; omega)]
    show decide (ns.length < ms.length) = _
    by_cases q : ns.length < ms.length
    · rw [decide_eq_true q, List.drop_eq_nil_of_le (as := ns) (by omega), List.drop_eq_getElem_cons (l := ms) (by omega)]
      rfl
    · rw [decide_eq_false q, List.drop_eq_nil_of_le (as := ms) (by omega)]
      cases ns.drop k <;> rfl
  | succ m ih =>
    intro k hm hk
    have h1 : k < ns.length := by omega
    have h2 : k < ms.length := by omega
    have hd : (List.range (min ns.length ms.length)).drop k = k :: (List.range (min ns.length ms.length)).drop (k + 1) := by
      rw [List.drop_eq_getElem_cons (by rw [List.length_range]; omega), List.getElem_range]
    rw [hd, List.drop_eq_getElem_cons h1, List.drop_eq_getElem_cons h2]
    obtain ⟨q1, q2⟩ := h k ns[k] ms[k] (List.getElem?_eq_getElem h1) (List.getElem?_eq_getElem h2)
    show _ = if ns[k] = ms[k] then liLt (ns.drop (k + 1)) (ms.drop (k + 1)) else decide (ns[k] < ms[k])
    by_cases q : ns[k] = ms[k]
    · rw [if_pos q, SeqAt.firstLt_yes (by rw [q1, decide_eq_true q])]
      exact ih (k + 1) (by omega) (by omega)
    · have hf : e k = false := by rw [q1, decide_eq_false q]
      rw [if_neg q, SeqAt.firstLt_no hf, q2 hf]
theorem liLt_asym : ∀ xs ys, liLt xs ys = true → liLt ys xs = false
  | [], [], h => nomatch h
  | [], _ :: _, _ => rfl
  | _ :: _, [], h => nomatch h
  | x :: xs, y :: ys, h => by
    unfold liLt at h ⊢
    by_cases e : x = y
    · rw [if_pos e] at h
      rw [if_pos e.symm]
      exact liLt_asym xs ys h
    · rw [if_neg e] at h
      rw [if_neg (fun z => e z.symm)]
      have := of_decide_eq_true h
      exact decide_eq_false (by omega)
theorem liLt_tr : ∀ xs ys zs, liLt ys xs = false → liLt zs ys = false → liLt zs xs = false
  | [], _, [], _, _ => rfl
  | [], _, _ :: _, _, _ => rfl
  | _ :: _, [], _, h, _ => nomatch h
  | _ :: _, _ :: _, [], _, h => nomatch h
  | x :: xs, y :: ys, z :: zs, h1, h2 => by
    unfold liLt at h1 h2 ⊢
    by_cases e1 : y = x
    · rw [if_pos e1] at h1
      by_cases e2 : z = y
      · rw [if_pos e2] at h2
        rw [if_pos (e2.trans e1)]
        exact liLt_tr xs ys zs h1 h2
      · rw [if_neg e2] at h2
        rw [if_neg (fun q => e2 (q.trans e1.symm))]
        have := of_decide_eq_false h2
        exact decide_eq_false (by omega)
    · rw [if_neg e1] at h1
      have a1 := of_decide_eq_false h1
      by_cases e2 : z = y
      · rw [if_neg (fun q => e1 (e2.symm.trans q))]
        exact decide_eq_false (by omega)
      · rw [if_neg e2] at h2
        have a2 := of_decide_eq_false h2
        rw [if_neg (by omega)]
        exact decide_eq_false (by omega)
theorem liLt_swo {α : Type} (k : α → List Int) : SrtO.Swo fun x y => liLt (k x) (k y) := ⟨fun x y => liLt_asym (k x) (k y), fun x y z => liLt_tr (k x) (k y) (k z)⟩
/-! ### sorting them -/
section
variable {prog : Program} {w : World} {A : Around} {E : Value → Shared → Prop} {s : Shared}
def IsLi (h : Heap) (v : Value) (ns : List Int) : Prop := ∃ a its, v = .ref a ∧ h.IsList a its ∧ IntsAre its.toList ns
theorem IsLi.keeps {h h' : Heap} {v : Value} {ns : List Int} (p : IsLi h v ns) (k : ∀ b o, h.get? b = some o → h'.get? b = some o) : IsLi h' v ns := by
  obtain ⟨a, its, e, ⟨o, ho, r⟩, i⟩ := p
  exact ⟨a, its, e, ⟨o, k _ _ ho, r⟩, i⟩
theorem li_oneLt {x y : Value} {ns ms : List Int} {Q : Bool → Shared → Prop} (hx : IsLi s.heap x ns) (hy : IsLi s.heap y ms) (hu : A.units < cLine) (h : Q (liLt ns ms) s) : wpAny (model prog w) A (oneLt' true x y) Q E s := by
  obtain ⟨a, i1, rfl, l1, n1⟩ := hx
  obtain ⟨b, i2, rfl, l2, n2⟩ := hy
  have z1 : i1.size = ns.length := by rw [← n1.length, Array.length_toList]
  have z2 : i2.size = ms.length := by rw [← n2.length, Array.length_toList]
  have at1 : ∀ j (hj : j < i1.size), ∃ t, i1[j] = .int (ns[j]'(by omega)) t := fun j hj => by
    obtain ⟨t, e⟩ := n1.get j _ (List.getElem?_eq_getElem (by omega))
    obtain ⟨_, e2⟩ := List.getElem?_eq_some_iff.mp e
    exact ⟨t, by rw [← e2]; simp⟩
  have at2 : ∀ j (hj : j < i2.size), ∃ t, i2[j] = .int (ms[j]'(by omega)) t := fun j hj => by
    obtain ⟨t, e⟩ := n2.get j _ (List.getElem?_eq_getElem (by omega))
    obtain ⟨_, e2⟩ := List.getElem?_eq_some_iff.mp e
    exact ⟨t, by rw [← e2]; simp⟩
  rw [oneLt'_eq]
  simp only [if_true]
  refine wpAny_bind (wpAny_cRoomFor hu ?_)
  refine wpAny_bind (wpAny_callSpecialIfBound?_slot (id := "list.__lt__") l1.typeIs PySem.F.slot_list_lt
    (SeqAt.call_list_lt (e := fun j => decide (ns.getD j 0 = ms.getD j 0)) (r := fun j => decide (ns.getD j 0 < ms.getD j 0)) l1 l2 (fun j h1 h2 => ?_) (fun j h1 h2 _ => ?_) ?_))
  · obtain ⟨t, e⟩ := at1 j h1
    obtain ⟨t', e'⟩ := at2 j h2
    rw [e, e']
    have g1 : ns.getD j 0 = ns[j]'(by omega) := by rw [List.getD_eq_getElem?_getD, List.getElem?_eq_getElem (by omega)]; rfl
    have g2 : ms.getD j 0 = ms[j]'(by omega) := by rw [List.getD_eq_getElem?_getD, List.getElem?_eq_getElem (by omega)]; rfl
    rw [g1, g2]
    have := SeqAt.EqAt.int_int (A := A.in1) (s := s) (ns[j]'(by omega)) t (ms[j]'(by omega)) t'
    rwa [Bool.beq_eq_decide_eq] at this
  · obtain ⟨t, e⟩ := at1 j h1
    obtain ⟨t', e'⟩ := at2 j h2
    rw [e, e']
    have g1 : ns.getD j 0 = ns[j]'(by omega) := by rw [List.getD_eq_getElem?_getD, List.getElem?_eq_getElem (by omega)]; rfl
    have g2 : ms.getD j 0 = ms[j]'(by omega) := by rw [List.getD_eq_getElem?_getD, List.getElem?_eq_getElem (by omega)]; rfl
    rw [g1, g2]
    exact fun _ _ _ _ q => PyProof.Rows.lt_int q
  · have key := firstLt_li ns ms (fun j => decide (ns.getD j 0 = ms.getD j 0)) (fun j => decide (ns.getD j 0 < ms.getD j 0)) (fun j x y e1 e2 => by
      rw [List.getD_eq_getElem?_getD, List.getD_eq_getElem?_getD, e1, e2]
      exact ⟨rfl, fun _ => rfl⟩) _ 0 rfl (Nat.zero_le _)
    rw [z1, z2]
    simp only [List.drop_zero] at key
    rw [key]
    exact wpAny_truthy_bool h
theorem li_cmp {vs : List Value} {k : Value → List Int} (hu : A.units < cLine) (hp : ∀ v ∈ vs, IsLi s.heap v (k v)) : SrtO.Cmp prog w A s oneType' (fun p => p.1 ∈ vs) (SrtO.lt2 fun v u => liLt (k v) (k u)) := by
  intro p q hm hm'
  show wpAny (model prog w) A (keyLt' oneType' p.1 q.1) (fun r s' => s' = s ∧ r = liLt (k p.1) (k q.1)) (fun _ _ => False) s
  rw [keyLt'_oneType]
  exact li_oneLt (hp _ hm) (hp _ hm') hu ⟨rfl, rfl⟩
theorem li_sortable {a : Addr} {vs : List Value} {k : Value → List Int} (hu : A.units < cLine) (h2 : 2 ≤ vs.length) (hp : ∀ v ∈ vs, ∀ h' : Heap, (∀ b o, b ≠ a → s.heap.get? b = some o → h'.get? b = some o) → IsLi h' v (k v)) : SrtO.SortableO prog w A s a vs fun v u => liLt (k v) (k u) := by
  intro h' keep
  refine ⟨oneType', fun Q E hq => PySem.W.kas_kind (T := .type "list") h2 (fun v hv => ?_) (by decide) (by decide) hq, li_cmp hu fun v hv => hp v hv h' keep⟩
  obtain ⟨b, its, rfl, ⟨o, ho, hc, _⟩, _⟩ := hp v hv h' keep
  rw [← hc]
  exact (show PySem.W.Looks (model prog w) h' (typeOf (.ref b)) o.cls from (PySem.W.Looks.ld ho).andThen .now)
end
/-- sorted(xs), xs a list of lists of ints -/
def rSortedLL (K : PySem.W.Frag) : List V → Hp → VK → Prop := fun vs H Q => ∃ (a : Addr) (xs : List V) (k : V → List Int), vs = [V.ref a] ∧ SqL K H a xs ∧ (∀ x ∈ xs, ∃ t, x = V.ref t ∧ H t = some (.lst ((k x).map V.int))) ∧
  ∀ ys p, ys.Pairwise (fun x y => liLt (k y) (k x) = false) → ys.Perm xs → H p = none → Q (.ref p) (upd H p (.lst ys))
section
variable {X : Cx}
theorem cr_sortedLL (hu : X.A.units + 64 < cLine) : CallR X (.builtin "sorted") (rSortedLL X.K) := by
  intro pins s σ H vs us Q I r h
  obtain ⟨a, xs, k, rfl, hs, hx, q⟩ := h
  obtain ⟨its, rv, hl, hz⟩ := I.list hs
  obtain ⟨u, rfl, ru⟩ := vals1 r
  obtain rfl : u = Value.ref a := ru
  obtain ⟨e1, e2⟩ := refs_back rv fun x m => by
    obtain ⟨t, e, _⟩ := hx x m
    exact ⟨t, e⟩
  have hp : ∀ v ∈ its, IsLi s.heap v (k (backV v)) := fun v hv => by
    obtain ⟨t, rfl⟩ := e2 v hv
    have hm : V.ref t ∈ xs := by rw [e1]; exact List.mem_map.mpr ⟨_, hv, rfl⟩
    obtain ⟨t', e, ht⟩ := hx _ hm
    cases e
    obtain ⟨i2, r2, p2, _⟩ := I.list (sq_of ht)
    refine ⟨t, i2.toArray, rfl, p2.isList, ?_⟩
    show IntsAre i2.toArray.toList (k (V.ref t))
    simpa using r2.ints
  have hu2 : X.A.in1.in1.units < cLine := by show X.A.units + 1 + 1 < cLine; omega
  refine SrtO.sorted_ord (ltv := fun v u => liLt (k (backV v)) (k (backV u))) (liLt_swo fun v => k (backV v)) hl.isList (by rw [← rv.length]; exact hz) (fun h2 h₁ a' _ kk => li_sortable hu2 h2 fun v hv h' keep => ?_) fun out h1 h2 => ?_
  · obtain ⟨b, i2, rfl, ⟨o, ho, r⟩, n⟩ := hp v hv
    obtain ⟨k1, k2⟩ := kk b o ho
    exact ⟨b, i2, rfl, ⟨o, keep b o k1 k2, r⟩, n⟩
  · have h3 : ∀ u ∈ out, ∃ a, u = Value.ref a := fun u hu => e2 u (h2.perm.mem_iff.mp hu)
    obtain ⟨n, hn⟩ := sortedAll_at s.heap its out.toArray
    have hb : (out.map backV).Perm xs := by rw [e1]; exact h2.perm.map backV
    refine ⟨.ref _, upd H (s.heap.objs.size + 1) (.lst (out.map backV)), I.laid (t' := s.toks) (fun _ _ => PyProof.Rows.sortedAll_old) (Nat.le_succ _) ⟨?_, out, n, vals_back h3, hn⟩, rfl, q _ _ (List.pairwise_map.mpr h1) hb (I.hok.fresh (Nat.le_succ _))⟩
    rw [hb.length_eq]
    exact hz
end
end Ly
end
section
set_option Elab.async false
set_option linter.all false
set_option maxRecDepth 100000
/-! Rules: set(xs) of a list of ints, sorted(set(..)), len(set(..)) of tuples. -/
namespace Ly
open PySem PySem.Spec PyProof.Rows L2 Evl
section
variable {P : Program} {w : World} {A : Around} {E : Value → Shared → Prop} {s : Shared}
abbrev set0 (w : World) : Obj := { cls := .type "set", dict := none, data := .set #[] 0 (.fresh 0 0 (!w.params.followText "set-order")) }
/-- the heap with a new empty set -/
abbrev hp0 (w : World) (h : Heap) : Heap := h.push (set0 w)
set_option maxHeartbeats 3200000 in
/-- set(l), l a list of ints -/
theorem set_of_ints {l : Addr} {xs : Array Value} {ks : List Int} {Q : Value → Shared → Prop} (calm : A.handled = none) (hl : s.heap.IsList l xs) (hk : IntsAre xs.toList ks) (room : ks.length + 1 < scanBound)
    (fin : ∀ (h2 : Heap) (t c : Nat), SetR w h2 s.heap.objs.size (fun j => decide (j ∈ ks)) c → c ≤ ks.length → (∀ b o, s.heap.get? b = some o → h2.get? b = some o) → Q (.ref s.heap.objs.size) { s with heap := h2, toks := t }) :
    wpAny (model P w) A (call (.type "set") [.ref l]) Q E s := by
  have sz : xs.size = ks.length := by rw [← hk.length, Array.length_toList]
  obtain ⟨_, _, _⟩ := F.called_set.mro
  have m1 := F.called_set.made
  have m2 := F.called_set.sub
  refine wpAny_call (codeAny_of_tree ?_)
  show wpAny _ _ (callAny (.type "set") _) _ _ _
  refine wpAny_pure ⟨Code.quiet_builtin _ (by decide +kernel), codeAny_builtin F.entry_type_call ?_⟩
  rw [Around.under_plain (weight_type_call_type "set" [.ref l] []) rfl]
  have m3 := F.called_set.notType
  have m4 := F.called_set.canCreate
  have m5 := F.typeCall_set_1 (.ref l)
  repeat (any_goals (first | assumption | wp_step))
  refine codeAny_mono (L2.code_set_led1 (.ref l) (E := E) (Q₁ := fun ob s1 => ob = .ref s.heap.objs.size ∧ s1 = { s with heap := hp0 w s.heap }) ⟨rfl, rfl⟩) fun r s1 hr => ?_
  cases r with
  | error _ => exact hr
  | ok f1 =>
    cases f1 with
    | next => exact hr.elim
    | brk => exact hr.elim
    | cont => exact hr.elim
    | ret ob =>
      obtain ⟨rfl, rfl⟩ := hr
      have g0 : (hp0 w s.heap).get? s.heap.objs.size = some (set0 w) := Heap.get?_push_size _ rfl
      have ty : Shared.TypeIs { s with heap := hp0 w s.heap } (.ref s.heap.objs.size) "set" := ⟨_, g0, rfl⟩
      have m6 := F.called_set.init.lookup
      have m7 := F.called_set.init.bind (.ref s.heap.objs.size)
      repeat (any_goals (first | assumption | wp_step))
      refine codeAny_mono (codeAny_call_builtin (R := wants (fun r s2 => r = .none ∧ ∃ h2 t c, s2 = { s with heap := h2, toks := t } ∧ SetR w h2 s.heap.objs.size (fun j => decide (j ∈ ks)) c ∧ c ≤ ks.length ∧ (∀ b o, s.heap.get? b = some o → h2.get? b = some o)) E)
        F.called_set.init.plain F.entry_set_init (check_set_init_1 ty ?_)) fun r2 s2 hr2 => ?_
      · obtain ⟨⟨oc, od, dt, sl⟩, ho, c1, n1, c2⟩ := hl
        simp only at c1 c2
        subst c1; subst c2
        have ho' : (hp0 w s.heap).get? l = some { cls := .type "list", dict := od, data := .seq xs n1, slots := sl } := Heap.get?_push_of_some _ ho
        have f1 := F.sub_list_set
        have f2 := F.sub_list_frozenset
        have f3 : (Value.type "list" == Value.type "dict") = false := by decide
        have il : (hp0 w s.heap).IsList l xs := ⟨_, ho', rfl, n1, rfl⟩
        unfold Builtin.«set.__init__» noKeywords Builtin.Frozenset.updateFrom
        generalize hPI : pyIter = PI
        wp_walk
        subst hPI
        refine wpAny_pyIter_list il ?_
        refine wpAny_bind (wpAny_runValue ?_)
        have lS : l < s.heap.objs.size := Heap.lt_size ho
        have calm3 : A.in1.in1.in1.handled = none := by simp [calm]
        have lI : l ≠ (hp0 w s.heap).objs.size := by
          rw [Heap.size_push]; exact Nat.ne_of_lt (Nat.lt_succ_of_lt lS)
        have apart : s.heap.objs.size ∉ [(hp0 w s.heap).objs.size, l] := by
          rw [Heap.size_push]
          simp only [List.mem_cons, List.mem_singleton, List.not_mem_nil, or_false, not_or]
          exact ⟨Nat.ne_of_lt (Nat.lt_succ_self _), Nat.ne_of_gt lS⟩
        have item : ∀ (i : Nat) (v : Value), xs[i]? = some v → ∃ k t, ks[i]? = some k ∧ v = .int k t := fun i v hv => by
          have hi : i < ks.length := by rw [← sz]; exact (Array.getElem?_eq_some_iff.mp hv).1
          obtain ⟨t, e⟩ := hk.get i _ (List.getElem?_eq_getElem hi)
          rw [Array.getElem?_toList, hv] at e
          exact ⟨ks[i], t, List.getElem?_eq_getElem hi, Option.some.inj e⟩
        refine L2.set_update_ints ((Walks.list calm3 _ l lI xs).toS) s.heap.objs.size apart ks sz room item (xs.size - 0) 0 _ (by omega) (Nat.zero_le _) ⟨⟨_, Heap.get?_push_size _ rfl, rfl, rfl⟩, il.push _⟩ ?start ?stop
        case start => exact ⟨0, Nat.le_refl 0, L2.setR_new_at (Heap.get?_push_of_some _ g0)⟩
        case stop =>
          intro s' c hm hc hS
          obtain ⟨h2, g2, d2, t2, o2⟩ := s'
          have eg : g2 = s.gens := hm.gens
          have ed : d2 = s.drawn := hm.drawn
          have eo : o2 = s.os := hm.os
          subst eg; subst ed; subst eo
          show wpAny _ _ _ _ _ _
          refine wpAny_pure ?_
          show wpAny _ _ (ret Value.none) _ _ _
          rw [sz] at hc
          refine wpAny_pure ⟨rfl, h2, t2, c, rfl, hS, hc, fun b o e => ?_⟩
          have lt := Heap.lt_size e
          have n2 : b ≠ (hp0 w s.heap).objs.size := by rw [Heap.size_push]; exact Nat.ne_of_lt (Nat.lt_succ_of_lt lt)
          exact hm.heap b o (by
            simp only [List.mem_cons, List.mem_singleton, List.not_mem_nil, or_false, not_or]
            exact ⟨Nat.ne_of_lt lt, n2⟩) (Heap.get?_push_of_some _ (Heap.get?_push_of_some _ e))
      · cases r2 with
        | error _ => exact hr2
        | ok f2 =>
          cases f2 with
          | next => exact hr2.elim
          | brk => exact hr2.elim
          | cont => exact hr2.elim
          | ret _ =>
            obtain ⟨rfl, h2, t2, c, rfl, hS, hc, kp⟩ := hr2
            repeat (any_goals (first | assumption | wp_step))
            exact fin _ _ _ hS hc kp
end
/-- set(xs), ints -/
def rSetOfL (K : PySem.W.Frag) (w : World) : List V → Hp → VK → Prop := fun vs H Q => ∃ (a : Addr) (ks : List Int), vs = [V.ref a] ∧ SqL K H a (ks.map V.int) ∧ ks.length ≤ 1000 ∧ ∀ p c, c ≤ ks.length → H p = none → Q (.ref p) (upd H p (SetO w p (fun j => decide (j ∈ ks)) c))
section
variable {X : Cx}
theorem cr_setL (hc : X.calm = true) : CallR X (.type "set") (rSetOfL X.K X.w) := by
  intro pins s σ H vs us Q I r h
  obtain ⟨a, ks, rfl, hs, hl, q⟩ := h
  obtain ⟨its, rv, pl, hz⟩ := I.list hs
  rw [Vals.ref1 r]
  refine set_of_ints (I.ok.hd hc) pl.isList (by simpa using rv.ints) (by unfold scanBound; omega) fun h2 t c R1 hc1 k => ?_
  exact ⟨.ref s.heap.objs.size, upd H s.heap.objs.size (SetO X.w s.heap.objs.size (fun j => decide (j ∈ ks)) c), I.laid (t' := t) k (Nat.le_refl _) (setO_new R1), rfl, q _ c hc1 I.fresh⟩
end
end Ly
end
section
set_option Elab.async false
set_option linter.all false
set_option maxRecDepth 100000
set_option maxHeartbeats 1000000
/-! Rules: sorted(set(..)), len(set(..)) of tuples, repr. -/
namespace Ly
open PySem PySem.Spec PyProof.Rows L2 Evl
section
variable {X : Cx}
/-- len of a set of unlike tuples of ints -/
def rLenT (P : Program) (w : World) : List V → Hp → VK → Prop := fun vs H Q => ∃ (a : Addr) (L : List (Addr × List Int)), vs = [V.ref a] ∧ H a = some (SetTO P w a L) ∧ ((L.map (·.2)).Nodup → Q (.int (L.length : Nat)) H)
theorem call_len_setT : CallR X (.builtin "len") (rLenT X.prog X.w) := by
  intro pins s σ H vs us Q I r h
  obtain ⟨a, L, rfl, hH, q⟩ := h
  rw [Vals.ref1 r]
  have R0 : SetT0 X.prog X.w s.heap a L := (I.hok a _ hH).1
  obtain ⟨es, ep, t, ⟨o, ho, hex, hd⟩, hrows, htab, hnd, hpl, hled, hroom, hfew⟩ := R0.ex
  have hsz : es.size = L.length := by
    have := congrArg List.length hrows
    rw [Array.length_toList] at this
    rw [this]
    show (L.map _).length = L.length
    rw [List.length_map]
  have fits : t.fits es.size = true := by
    have h1 := htab.sz
    rw [List.length_map] at h1
    unfold SetTable.fits SetTable.fill
    rw [htab.dm, Bool.and_eq_true, beq_iff_eq, decide_eq_true_eq]
    show t.place.size = es.size ∧ t.place.size + 0 ≤ t.mask
    omega
  exact call_len_set ho hex hd fits (by omega) ⟨.int (L.length : Nat), H, I.tok _, ⟨_, by rw [hsz]⟩, q hnd⟩
end
section
variable {K : PySem.W.Frag} {wd : World} {σ : L2.St} {H : Hp} {te : TE}
/-- sorted(set(xs)), natural numbers: the ascending list of those that are there -/
theorem ev_sortedSet {ks : List Nat} {us : List Nat} (h : EvL te σ H (ks.map iV)) (h1 : us.Pairwise (· < ·)) (h2 : ∀ j, j ∈ us ↔ j ∈ ks) (hl : ks.length ≤ 63) :
    EvL (tCB (rSortedSet wd) (tCons (tCB (rSetOfL K wd) (tCons te tNil)) tNil)) σ H (us.map iV) := fun H1 e Q q => by
  refine h H1 e _ fun p H2 hp e2 hk => ⟨p, ks.map Int.ofNat, rfl, by rw [map_iV] at hk; exact sq_of hk, by rw [List.length_map]; omega, fun S c hc hS => ?_⟩
  rw [List.length_map] at hc
  refine ⟨S, _, c, rfl, upd_same, by omega, fun ns r hp1 hp2 _ hr => ?_⟩
  have e3 : ns = us.map Int.ofNat := by
    have n2 : (us.map Int.ofNat).Pairwise (· < ·) := List.Pairwise.map _ (fun a b (z : a < b) => by show (a : Int) < (b : Int); omega) h1
    have d1 : ns.Nodup := hp1.imp fun z => by omega
    have d2 : (us.map Int.ofNat).Nodup := n2.imp fun z => by omega
    refine List.Perm.eq_of_pairwise (le := fun a b => a < b) (fun a b _ _ x y => by omega) hp1 n2 ((List.perm_ext_iff_of_nodup d1 d2).mpr fun k => ?_)
    rw [hp2, decide_eq_true_eq, List.mem_map, List.mem_map]
    constructor
    · rintro ⟨a, ha, rfl⟩; exact ⟨a, (h2 a).mpr ha, rfl⟩
    · rintro ⟨a, ha, rfl⟩; exact ⟨a, (h2 a).mp ha, rfl⟩
  subst e3
  have hS2 : H1 S = none := fresh_back e2 hS
  have hr2 : H2 r = none := fresh_back (Ex.new hS) hr
  exact q r _ (fresh_back e2 hr2) ((e2.trans (Ex.new hS)).trans (Ex.new hr)) (by rw [upd_same, map_iV])
end
end Ly
end
section
set_option Elab.async false
set_option linter.all false
set_option maxRecDepth 100000
set_option maxHeartbeats 4000000
/-! The walk: cables, parts by labels, divisors, choices. -/
namespace Ly
open PySem PySem.Spec PyProof.Rows L2 Evl Hd Pn
/-! ### data -/
/-- a new tuple of a cable, lists of them, lists of numbers -/
def CB (c : Cab) : Ph := IsU [iV c.1, iV c.2]
def CL (cs : List Cab) : Ph := LL (cs.map CB)
def NL (ns : List Nat) : Ph := IsL (ns.map iV)
def NLs (pss : List (List Nat)) : Ph := LL (pss.map NL)
theorem mono_CB {c : Cab} : Mono (CB c) := mono_U
theorem mono_NL {ns : List Nat} : Mono (NL ns) := mono_L
theorem mem_map_mono {α : Type} {f : α → Ph} (h : ∀ a, Mono (f a)) (l : List α) : ∀ Φ ∈ l.map f, Mono Φ := fun Φ m => by
  obtain ⟨a, _, rfl⟩ := List.mem_map.mp m
  exact h a
theorem mono_CL {cs : List Cab} : Mono (CL cs) := mono_LL (mem_map_mono (fun _ => mono_CB) cs)
theorem mono_NLs {pss : List (List Nat)} : Mono (NLs pss) := mono_LL (mem_map_mono (fun _ => mono_NL) pss)
/-- the list at a has these cables -/
def CLa (H : Hp) (a : Addr) (cs : List Cab) (vs : List V) : Prop := H a = some (.lst vs) ∧ Al (cs.map CB) vs H
theorem CLa.of {H : Hp} {a : Addr} {cs : List Cab} (h : CL cs (.ref a) H) : ∃ vs, CLa H a cs vs := by
  obtain ⟨p, vs, e, h1, h2⟩ := h
  cases e
  exact ⟨vs, h1, h2⟩
theorem CLa.len {H : Hp} {a : Addr} {cs : List Cab} {vs : List V} (h : CLa H a cs vs) : vs.length = cs.length := by rw [h.2.length, List.length_map]
theorem CLa.mono {H H' : Hp} {a : Addr} {cs : List Cab} {vs : List V} (h : CLa H a cs vs) (e : Ex H H') : CLa H' a cs vs := ⟨e _ _ h.1, h.2.mono e (mem_map_mono (fun _ => mono_CB) cs)⟩
theorem CLa.back {H : Hp} {a : Addr} {cs : List Cab} {vs : List V} (h : CLa H a cs vs) : CL cs (.ref a) H := ⟨a, vs, rfl, h.1, h.2⟩
/-- its i-th cable -/
theorem CLa.item {H : Hp} {a : Addr} {cs : List Cab} {vs : List V} (h : CLa H a cs vs) {i : Nat} {x : V} (e : vs[i]? = some x) : ∃ c t, cs[i]? = some c ∧ x = .ref t ∧ H t = some (.tup [iV c.1, iV c.2]) := by
  obtain ⟨Φ, e1, k⟩ := h.2.get e
  rw [List.getElem?_map] at e1
  cases e2 : cs[i]? with
  | none => rw [e2] at e1; cases e1
  | some c =>
    rw [e2] at e1
    cases e1
    obtain ⟨t, e3, e4⟩ := k
    exact ⟨c, t, rfl, e3, e4⟩
/-! ### functions over the first n numbers as lists -/
def fl (n : Nat) (f : Nat → Nat) : List V := (List.range n).map fun x => iV (f x)
theorem fl_len {n : Nat} {f : Nat → Nat} : (fl n f).length = n := by unfold fl; rw [List.length_map, List.length_range]
theorem fl_at {n : Nat} {f : Nat → Nat} {i : Nat} (h : i < n) : (fl n f)[i]? = some (iV (f i)) := by unfold fl; rw [List.getElem?_map, List.getElem?_range h]; rfl
theorem fl_congr {n : Nat} {f g : Nat → Nat} (h : ∀ x, x < n → f x = g x) : fl n f = fl n g := by
  unfold fl
  refine List.map_congr_left fun x hx => ?_
  rw [h x (List.mem_range.mp hx)]
theorem fl_set {n : Nat} {f : Nat → Nat} {j y : Nat} (h : j < n) : (fl n f).set j (iV y) = fl n (up f j y) := by
  refine List.ext_getElem? fun i => ?_
  by_cases hi : i < n
  · by_cases e : i = j
    · subst e
      rw [List.getElem?_set_self (by rw [fl_len]; exact h), fl_at hi, up_same]
    · rw [List.getElem?_set_ne (Ne.symm e), fl_at hi, fl_at hi, up_ne e]
  · rw [List.getElem?_eq_none (by rw [List.length_set, fl_len]; omega), List.getElem?_eq_none (by rw [fl_len]; omega)]
theorem fl_map {n : Nat} {f : Nat → Nat} : fl n f = ((List.range n).map f).map iV := by unfold fl; rw [List.map_map]; rfl
theorem fl_given {n : Nat} {f : Nat → Nat} : given n (fun _ => true) (fun i => iV (f i)) = fl n f := given_all n _
section
variable {K : PySem.W.Frag} {σ : L2.St} {H H' : Hp} {ta tb te : TE} {x y z v : V} {D : Ends} {tz : TS}
/-- list(range(n)) -/
theorem el_rng {n : Nat} (h : Ev te σ H (iV n)) (hn : n ≤ 1000) : EvL (tLstRg (tRg1 te)) σ H (fl n id) := fun H1 e Q q => h H1 e _ fun H2 e2 => ⟨(n : Int), rfl, RgOk.of_le (by omega) (by omega) (by omega) (by omega), fun p hp => q p _ (fresh_back e2 hp) (e2.trans (Ex.new hp)) (by
  rw [upd_same]
  congr 2
  show (List.range ((n : Int) - 0).toNat).map (fun i => V.int (0 + (i : Nat))) = (List.range n).map fun x => iV (id x)
  rw [show ((n : Int) - 0).toNat = n by omega]
  refine List.map_congr_left fun i _ => ?_
  rw [Int.zero_add]; rfl)⟩
/-- a new tuple is unpacked -/
theorem q_asgT {i j : Nat} (h : EvU te σ H [x, y]) (k : ∀ H1, Ex H H1 → tz D ((σ.set i (some x)).set j (some y)) H1) : tSeq (tAsg te (gTup K 2 (gCons (gName i) (gCons (gName j) gNil)))) tz D σ H :=
  h H (Ex.refl H) _ fun p H1 hp e h1 => ⟨p, [x, y], rfl, st_of h1, rfl, x, [y], rfl, y, [], rfl, rfl, k H1 e⟩
theorem ev_min2 {i j : Int} (ha : Ev ta σ H (.int i)) (hb : Ev tb σ H (.int j)) : Ev (tCB (fun xs H Q => ∃ i j, xs = [.int i, .int j] ∧ Q (.int (if j < i then j else i)) H) (tCons ta (tCons tb tNil))) σ H (.int (if j < i then j else i)) := fun H1 e Q q =>
  ha H1 e _ fun H2 e2 => hb H2 (e.trans e2) _ fun H3 e3 => ⟨i, j, rfl, q H3 (e2.trans e3)⟩
theorem min_iV {a b : Nat} : V.int (if (b : Int) < (a : Int) then (b : Int) else (a : Int)) = iV (min a b) := by
  unfold iV
  congr 1
  split <;> omega
theorem max_iV {a b : Nat} : V.int (if (b : Int) > (a : Int) then (b : Int) else (a : Int)) = iV (max a b) := by
  unfold iV
  congr 1
  split <;> omega
theorem ev_minN {a b : Nat} (ha : Ev ta σ H (iV a)) (hb : Ev tb σ H (iV b)) : Ev (tCB (fun xs H Q => ∃ i j, xs = [.int i, .int j] ∧ Q (.int (if j < i then j else i)) H) (tCons ta (tCons tb tNil))) σ H (iV (min a b)) := ev_is (ev_min2 ha hb) min_iV
theorem ev_maxN {a b : Nat} (ha : Ev ta σ H (iV a)) (hb : Ev tb σ H (iV b)) : Ev (tCB rMax2 (tCons ta (tCons tb tNil))) σ H (iV (max a b)) := ev_is (ev_max2 ha hb) max_iV
/-- an item of such a list -/
theorem ev_fl {p : Addr} {n : Nat} {f : Nat → Nat} {i : Nat} (ha : Ev ta σ H (.ref p)) (hb : Ev tb σ H (iV i)) (h : SqL K H p (fl n f)) (hi : i < n) : Ev (tOp (rIxL K) ta tb) σ H (iV (f i)) := ev_op ha hb (rv_ixL h (atI_nat (fl_at hi)))
/-- xs[j] += 1, xs[j] -= 1, in a list of numbers -/
theorem q_augN {i0 i1 p j n d : Nat} {f : Nat → Nat} {tip : TIp} (hl : H p = some (.lst (fl n f))) (ho : σ[i0]? = some (some (.ref p))) (hi : σ[i1]? = some (some (iV j))) (hj : j < n) (ht : ∀ H1 Q, Q (iV d) H1 → tip (iV (f j)) (.int 1) H1 Q) (k : tz D σ (upd H p (.lst (fl n (up f j d))))) :
    tSeq (tAugS (tVar i0) (tVar i1) (tC (.int 1)) rGetL tip rSetL) tz D σ H := by
  refine ⟨.ref p, ho, iV j, hi, p, fl n f, j, iV (f j), rfl, rfl, hl, fl_at hj, ht H _ ⟨p, fl n f, (j : Int), j, rfl, rfl, hl, ?_, ?_⟩⟩
  · rw [fl_len]; exact ixN_nat hj
  · rw [fl_set hj]; exact k
theorem s_augN {i0 i1 p j n d : Nat} {f : Nat → Nat} {tip : TIp} (hl : H p = some (.lst (fl n f))) (ho : σ[i0]? = some (some (.ref p))) (hi : σ[i1]? = some (some (iV j))) (hj : j < n) (ht : ∀ H1 Q, Q (iV d) H1 → tip (iV (f j)) (.int 1) H1 Q) (k : D.nx σ (upd H p (.lst (fl n (up f j d))))) :
    tAugS (tVar i0) (tVar i1) (tC (.int 1)) rGetL tip rSetL D σ H := by
  refine ⟨.ref p, ho, iV j, hi, p, fl n f, j, iV (f j), rfl, rfl, hl, fl_at hj, ht H _ ⟨p, fl n f, (j : Int), j, rfl, rfl, hl, ?_, ?_⟩⟩
  · rw [fl_len]; exact ixN_nat hj
  · rw [fl_set hj]; exact k
/-- [x] * n -/
theorem el_rep {n : Nat} (h : EvL te σ H [x]) (hb : Ev tb σ H (iV n)) (hn : n ≤ 1000) : EvL (tOp rRep te tb) σ H (List.replicate n x) := fun H1 e Q q =>
  h H1 e _ fun p H2 hp e2 h2 => hb H2 (e.trans e2) _ fun H3 e3 => ⟨p, (n : Int), [x], rfl, rfl, e3 _ _ h2, by omega, by omega, by rw [Int.toNat_natCast]; exact Nat.le_trans (by simp; exact hn) (show 1000 ≤ sizeLine by decide), fun r hr => q r _ (fresh_back (e2.trans e3) hr) ((e2.trans e3).trans (Ex.new hr)) (by
    rw [upd_same, Int.toNat_natCast]
    congr 2
    induction n with
    | zero => rfl
    | succ n _ => simp)⟩
theorem rep_fl {n k : Nat} : List.replicate n (iV k) = fl n fun _ => k := by
  refine List.ext_getElem? fun i => ?_
  by_cases h : i < n
  · rw [fl_at h, List.getElem?_replicate, if_pos h]
  · rw [List.getElem?_eq_none (by rw [List.length_replicate]; omega), List.getElem?_eq_none (by rw [fl_len]; omega)]
end
section
variable {P : Program} {w : World} {K : PySem.W.Frag} {mg : Str → Option Value} {base : Heap}
abbrev N_is_cable_of : List Str := ["thing", "many"]
theorem sc_is_cable_of : FnScope N_is_cable_of ["thing", "many"] (defScope s_is_cable_of) := ⟨rfl, rfl, rfl, by decide +kernel, rfl, by decide +kernel, by decide +kernel⟩
def sp_is_cable_of : Sp := spP (fun (z : Addr × Cab × Nat) vs H => vs = [.ref z.1, iV z.2.2] ∧ H z.1 = some (.tup [iV z.2.1.1, iV z.2.1.2]) ∧ z.2.1.1 < z.2.1.2 ∧ z.2.1.2 < z.2.2) fun _ => Is (.bl true)
theorem ok_is_cable_of (M : Ms mg) (F : Df K mg "is_cable_of" s_is_cable_of) (c_is_integer : Cal P w K mg base 1 "is_integer" ["thing"] sp_is_integer) : Cal P w K mg base 2 "is_cable_of" ["thing", "many"] sp_is_cable_of := by
  refine mk_cal F sc_is_cable_of (fun vs H Q E h => ?_)
      (fun _ _ _ _ _ _ us hl => match us, hl with | [_, _], _ => rfl)
    (fun f cdv A outer s H vs Q E hr h => ⟨_,
      (pss_cons (ps_if (PW.pt (pw_or (pt_not (pt_val (pe_callB call_isi (by rfl) M.isinstance (by decide +kernel) (pa_cons (pv 0) (pa_cons (pe_bltn (v := .ty "tuple") (u := .type "tuple") (by rfl) M.tuple (by decide +kernel) rfl) pa_nil))))) (pw_or (pt_cmpR op_ne (pe_callB call_len_seq (by rfl) M.len PySem.boot_len (pa_cons (pv 0) pa_nil)) pe_int (nomark _)) (pw_or (pt_not (pt_val (pe_cal c_is_integer hr (pa_cons (pe_ix ix_tup (pv 0) pe_int (fun _ _ => rfl)) pa_nil)))) (pw_or1 (pt_not (pt_val (pe_cal c_is_integer hr (pa_cons (pe_ix ix_tup (pv 0) pe_int (fun _ _ => rfl)) pa_nil)))))))))
          (pss_one (ps_ret pe_bl))
          pss_nil)
        (pss_one (ps_ret (pe_chain3 op_le op_lt op_lt pe_int (pe_ix ix_tup (pv 0) pe_int (fun _ _ => rfl)) (pe_ix ix_tup (pv 0) pe_int (fun _ _ => rfl)) (pv 1)))))
    , ?_⟩)
  · obtain ⟨i, ⟨rfl, _⟩, _⟩ := h; rfl
  · obtain ⟨⟨t, c, n⟩, ⟨rfl, hT, h1, h2⟩, q⟩ := h
    simp only at hT h1 h2 q
    have hS : SqT K H t [iV c.1, iV c.2] := st_of hT
    have i0 : Ev (tOp (rIxT K) (tVar 0) (tC (.int 0))) [some (.ref t), some (iV n)] H (iV c.1) := ev_op (ev_var rfl) ev_c (rv_ixT hS (atI_nat (j := 0) rfl))
    have i1 : Ev (tOp (rIxT K) (tVar 0) (tC (.int 1))) [some (.ref t), some (iV n)] H (iV c.2) := ev_op (ev_var rfl) ev_c (rv_ixT hS (atI_nat (j := 1) rfl))
    refine q_when (b := false) (et_is (et_or (et_not (et_B (ev_cb (ea_cons (ev_var rfl) (ea_cons ev_c ea_nil)) (isi_tup hT)))) fun _ => et_or (et_test (ev_op (ev_lenT (ev_var rfl) hS) ev_c (rv_ne rfl))) fun _ => et_or (et_not (et_B (ev_call1 (c.1 : Int) (ea_cons i0 ea_nil) fun _ _ => rfl))) fun _ => et_not (et_B (ev_call1 (c.2 : Int) (ea_cons i1 ea_nil) fun _ _ => rfl))) (by rfl)) (fun z => Bool.noConfusion z) fun _ H1 e1 => ?_
    have d1 : decide ((0 : Int) ≤ (c.1 : Int)) = true := decide_eq_true (by omega)
    have d2 : decide ((c.1 : Int) < (c.2 : Int)) = true := decide_eq_true (by omega)
    have d3 : decide ((c.2 : Int) < (n : Int)) = true := decide_eq_true (by omega)
    refine s_ret (ev_chain3 ev_c (i0.mono e1) (by rw [← d1]; exact rv_I0) (i1.mono e1) (by rw [← d2]; exact rv_I0) (ev_var rfl) (by rw [← d3]; exact rv_I0)) fun H2 e2 => q _ H2 (e1.trans e2) rfl
abbrev N_joined_parts : List Str := ["many", "cables", "found", "one", "two", "least", "other", "part"]
theorem sc_joined_parts : FnScope N_joined_parts ["many", "cables"] (defScope s_joined_parts) := ⟨rfl, rfl, rfl, by decide +kernel, rfl, by decide +kernel, by decide +kernel⟩
def InN (n : Nat) (L : List Cab) : Prop := ∀ c ∈ L, c.1 < c.2 ∧ c.2 < n
def sp_joined_parts : Sp := spP (fun (z : Nat × Addr × List Cab) vs H => vs = [iV z.1, .ref z.2.1] ∧ z.1 ≤ 60 ∧ CL z.2.2 (.ref z.2.1) H ∧ InN z.1 z.2.2) fun z => IsL (fl z.1 (lab z.2.2))
theorem ok_joined_parts (M : Ms mg) (F : Df K mg "joined_parts" s_joined_parts) : Cal P w K mg base 1 "joined_parts" ["many", "cables"] sp_joined_parts := by
  refine mk_cal F sc_joined_parts (fun vs H Q E h => ?_)
      (fun _ _ _ _ _ _ us hl => match us, hl with | [_, _], _ => rfl)
    (fun f cdv A outer s H vs Q E hr h => ⟨_,
      (pss_cons (ps_set (i := 2) sc_joined_parts.nd rfl (by first | exact Or.inl rfl | exact Or.inr rfl) (pe_listRg rfl rfl M.list (prg_1 rfl M.range (pv 0))))
        (pss_cons (ps_for PassesOwn.never rfl (pi_list (pv 1)) (pg_tup rfl (pgs_cons (pg_name (i := 3) sc_joined_parts.nd rfl (by first | exact Or.inl rfl | exact Or.inr rfl)) (pgs_cons (pg_name (i := 4) sc_joined_parts.nd rfl (by first | exact Or.inl rfl | exact Or.inr rfl)) pgs_nil)))
          (pss_cons (ps_asg (pe_tup (pa_cons (pe_callB (call_min2 rfl) (by rfl) M.min (by decide +kernel) (pa_cons (pe_ix ix_list (pv 2) (pv 3) (fun _ _ => rfl)) (pa_cons (pe_ix ix_list (pv 2) (pv 4) (fun _ _ => rfl)) pa_nil))) (pa_cons (pe_callB (call_max2 rfl) (by rfl) M.max (by decide +kernel) (pa_cons (pe_ix ix_list (pv 2) (pv 3) (fun _ _ => rfl)) (pa_cons (pe_ix ix_list (pv 2) (pv 4) (fun _ _ => rfl)) pa_nil))) pa_nil))) (pg_tup rfl (pgs_cons (pg_name (i := 5) sc_joined_parts.nd rfl (by first | exact Or.inl rfl | exact Or.inr rfl)) (pgs_cons (pg_name (i := 6) sc_joined_parts.nd rfl (by first | exact Or.inl rfl | exact Or.inr rfl)) pgs_nil))))
        (pss_one (ps_setLc (i := 2) (own := [("part", 7)]) (tt := tYes) rfl sc_joined_parts.nd rfl rfl (sw_true rfl rfl rfl (by decide +kernel)) (pi_list (pv 2)) (blkOk_by (own := [("part", 7)]) (N := N_joined_parts) (sc := defScope s_joined_parts) (by decide +kernel)) (fun _ _ _ _ _ => (pg_name (i := 7) sc_joined_parts.nd rfl (by first | exact Or.inl rfl | exact Or.inr rfl))) (fun _ _ _ _ _ => pts_nil) (fun _ _ _ _ _ => (pe_ifExp (pt_cmpR op_eq (pv 7) (pv 6) (nomark _)) (pv 5) (pv 7)))))))
        (pss_one (ps_ret (pv 2)))))
    , ?_⟩)
  · obtain ⟨i, ⟨rfl, _⟩, _⟩ := h; rfl
  · obtain ⟨⟨n, a, L⟩, ⟨rfl, hn, hL, hin⟩, q⟩ := h
    simp only at hn hL hin q
    obtain ⟨vs, hc⟩ := CLa.of hL
    have hvl := hc.len
    refine q_asgL (el_rng (ev_var rfl) (by omega)) fun p H1 hp e1 h1 => ?_
    have hq : ∀ p' H', H p' = none → Ex H H' → H' p' = some (.lst (fl n (lab L))) → Q (.ref p') H' := fun p' H' a1 a2 a3 => q _ H' a2 ⟨p', rfl, newp_of a1 a3⟩
    refine q_for (itw_list (K := K) (xs := vs) (ev_var rfl) (sq_of (e1 _ _ hc.1)))
      (fun i σ' H' => ∃ y3 y4 y5 y6 y7 p', σ' = [some (iV n), some (.ref a), some (.ref p'), y3, y4, y5, y6, y7] ∧ Ex H H' ∧ H p' = none ∧ H' p' = some (.lst (fl n (lab (L.take i)))))
      (fun H2 e2 => ⟨none, none, none, none, none, p, rfl, e1.trans e2, hp, e2 _ _ h1⟩) (fun i σ' H' ⟨_, _, _, _, _, _, _, e, _, _⟩ => sq_of (e _ _ hc.1)) (fun i x σ' H' H2 hi hw e3 hx => ?_) (fun σ' H' hw => ?_)
    · obtain ⟨y3, y4, y5, y6, y7, p', rfl, ex, hp', hf⟩ := hw
      obtain ⟨c, t, hci, rfl, hT⟩ := (hc.mono (ex.trans e3)).item hx
      have hcm : c ∈ L := List.mem_of_getElem? hci
      obtain ⟨b1, b2⟩ := hin c hcm
      refine ⟨t, [iV c.1, iV c.2], rfl, st_of hT, rfl, iV c.1, [iV c.2], rfl, iV c.2, [], rfl, rfl, ?_⟩
      have hS2 : SqL K H2 p' (fl n (lab (L.take i))) := sq_of (e3 _ _ hf)
      have g1 : ∀ σ2 : L2.St, σ2[2]? = some (some (.ref p')) → σ2[3]? = some (some (iV c.1)) → Ev (tOp (rIxL K) (tVar 2) (tVar 3)) σ2 H2 (iV (lab (L.take i) c.1)) := fun σ2 z1 z2 => ev_fl (ev_var z1) (ev_var z2) hS2 (by omega)
      have g2 : ∀ σ2 : L2.St, σ2[2]? = some (some (.ref p')) → σ2[4]? = some (some (iV c.2)) → Ev (tOp (rIxL K) (tVar 2) (tVar 4)) σ2 H2 (iV (lab (L.take i) c.2)) := fun σ2 z1 z2 => ev_fl (ev_var z1) (ev_var z2) hS2 b2
      refine q_asgT (eu_tup (ea_cons (ev_minN (g1 _ rfl rfl) (g2 _ rfl rfl)) (ea_cons (ev_maxN (g1 _ rfl rfl) (g2 _ rfl rfl)) ea_nil)) (by show 2 ≤ 100000; decide)) fun H4 e4 => ?_
      refine s_asgL (el_lc (fun _ => true) (fun x => iV (Pn.mg (lab (L.take i)) c x)) (itw_list (K := K) (ev_var rfl) (ex_l e4 hS2)) (by rw [fl_len]; omega) (fun H' e => ex_l (e4.trans e) hS2) fun j x H5 e5 hj hy R k => k _ rfl et_yes fun _ => ?_) fun r H5 hr e5 h5 => ?_
      · rw [fl_len] at hj
        rw [fl_at hj] at hy
        cases hy
        unfold Pn.mg
        by_cases z : lab (L.take i) j = max (lab (L.take i) c.1) (lab (L.take i) c.2)
        · rw [if_pos z]
          exact ev_if (b := true) (et_is (et_test (ev_op (ev_var rfl) (ev_var rfl) (rv_eq rfl))) (decide_eq_true (by rw [z]))) (fun _ => ev_var rfl) (fun z => Bool.noConfusion z)
        · rw [if_neg z]
          exact ev_if (b := false) (et_is (et_test (ev_op (ev_var rfl) (ev_var rfl) (rv_eq rfl))) (decide_eq_false (fun z' => z (iV_inj.mp z')))) (fun z => Bool.noConfusion z) (fun _ => ev_var rfl)
      · have ex5 := ((ex.trans e3).trans e4).trans e5
        refine ⟨_, _, _, _, _, r, rfl, ex5, fresh_back ((ex.trans e3).trans e4) hr, ?_⟩
        rw [h5, fl_len, fl_given]
        congr 2
        have : L.take (i + 1) = L.take i ++ [c] := by rw [List.take_add_one, hci]; rfl
        rw [this, lab_snoc]
    · obtain ⟨y3, y4, y5, y6, y7, p', rfl, ex, hp', hf⟩ := hw
      rw [hvl, List.take_length] at hf
      exact s_ret (ev_var rfl) fun H2 e2 => hq p' H2 hp' (ex.trans e2) (e2 _ _ hf)
abbrev N_plugs_in : List Str := ["many", "cables", "found", "one", "two"]
theorem sc_plugs_in : FnScope N_plugs_in ["many", "cables"] (defScope s_plugs_in) := ⟨rfl, rfl, rfl, by decide +kernel, rfl, by decide +kernel, by decide +kernel⟩
def sp_plugs_in : Sp := spP (fun (z : Nat × Addr × List Cab) vs H => vs = [iV z.1, .ref z.2.1] ∧ z.1 ≤ 60 ∧ CL z.2.2 (.ref z.2.1) H ∧ InN z.1 z.2.2) fun z => IsL (fl z.1 (deg z.2.2))
theorem deg_snoc (L : List Cab) (c : Cab) (x : Nat) : deg (L ++ [c]) x = deg L x + (if tch c x then 1 else 0) := by
  unfold deg; rw [List.countP_append, List.countP_cons, List.countP_nil, Nat.zero_add]
theorem ok_plugs_in (F : Df K mg "plugs_in" s_plugs_in) : Cal P w K mg base 1 "plugs_in" ["many", "cables"] sp_plugs_in := by
  refine mk_cal F sc_plugs_in (fun vs H Q E h => ?_)
      (fun _ _ _ _ _ _ us hl => match us, hl with | [_, _], _ => rfl)
    (fun f cdv A outer s H vs Q E hr h => ⟨_,
      (pss_cons (ps_set (i := 2) sc_plugs_in.nd rfl (by first | exact Or.inl rfl | exact Or.inr rfl) (pe_op op_rep (pe_lst (pa_cons pe_int pa_nil)) (pv 0)))
        (pss_cons (ps_for PassesOwn.never rfl (pi_list (pv 1)) (pg_tup rfl (pgs_cons (pg_name (i := 3) sc_plugs_in.nd rfl (by first | exact Or.inl rfl | exact Or.inr rfl)) (pgs_cons (pg_name (i := 4) sc_plugs_in.nd rfl (by first | exact Or.inl rfl | exact Or.inr rfl)) pgs_nil)))
          (pss_cons (ps_augS (pv 2) (pv 3) get_list pe_int ip_add set_list)
        (pss_one (ps_augS (pv 2) (pv 4) get_list pe_int ip_add set_list))))
        (pss_one (ps_ret (pv 2)))))
    , ?_⟩)
  · obtain ⟨i, ⟨rfl, _⟩, _⟩ := h; rfl
  · obtain ⟨⟨n, a, L⟩, ⟨rfl, hn, hL, hin⟩, q⟩ := h
    simp only at hn hL hin q
    obtain ⟨vs, hc⟩ := CLa.of hL
    have hvl := hc.len
    have hq : ∀ p' H', H p' = none → Ex H H' → H' p' = some (.lst (fl n (deg L))) → Q (.ref p') H' := fun p' H' a1 a2 a3 => q _ H' a2 ⟨p', rfl, newp_of a1 a3⟩
    refine q_asgL (el_rep (el_lst (ea_cons (ev_c (v := .int 0)) ea_nil) (by show 1 ≤ 100000; decide)) (ev_var rfl) (by omega)) fun p H1 hp e1 h1 => ?_
    rw [show V.int 0 = iV 0 from rfl, rep_fl] at h1
    refine q_for (itw_list (K := K) (xs := vs) (ev_var rfl) (sq_of (e1 _ _ hc.1)))
      (fun i σ' H' => ∃ y3 y4, σ' = [some (iV n), some (.ref a), some (.ref p), y3, y4] ∧ Ex H H' ∧ H' p = some (.lst (fl n (deg (L.take i)))))
      (fun H2 e2 => ⟨none, none, rfl, e1.trans e2, by rw [e2 _ _ h1]; rfl⟩) (fun i σ' H' ⟨_, _, _, e, _⟩ => sq_of (e _ _ hc.1)) (fun i x σ' H' H2 hi hw e3 hx => ?_) (fun σ' H' hw => ?_)
    · obtain ⟨y3, y4, rfl, ex, hf⟩ := hw
      obtain ⟨c, t, hci, rfl, hT⟩ := (hc.mono (ex.trans e3)).item hx
      have hcm : c ∈ L := List.mem_of_getElem? hci
      obtain ⟨b1, b2⟩ := hin c hcm
      refine ⟨t, [iV c.1, iV c.2], rfl, st_of hT, rfl, iV c.1, [iV c.2], rfl, iV c.2, [], rfl, rfl, ?_⟩
      have hf2 := e3 _ _ hf
      refine q_augN (d := deg (L.take i) c.1 + 1) (f := deg (L.take i)) hf2 rfl rfl (by omega) (fun H1 Q k => ⟨_, 1, rfl, rfl, k⟩) ?_
      refine s_augN (d := deg (L.take i) c.2 + 1) (f := up (deg (L.take i)) c.1 (deg (L.take i) c.1 + 1)) upd_same rfl rfl b2 (fun H1 Q k => ⟨_, 1, rfl, rfl, by rw [up_ne (show c.2 ≠ c.1 by omega)]; exact k⟩) ?_
      refine ⟨_, _, rfl, ?_, ?_⟩
      · exact Ex.mut (Ex.mut (ex.trans e3) hp) hp
      · rw [upd_same]
        congr 2
        refine fl_congr fun x hx => ?_
        have : L.take (i + 1) = L.take i ++ [c] := by rw [List.take_add_one, hci]; rfl
        rw [this, deg_snoc]
        by_cases z2 : x = c.2
        · subst z2
          rw [up_same, if_pos (tch_iff.mpr (Or.inr rfl))]
        · rw [up_ne z2]
          by_cases z1 : x = c.1
          · subst z1
            rw [up_same, if_pos (tch_iff.mpr (Or.inl rfl))]
          · rw [up_ne z1, if_neg (fun z => (tch_iff.mp z).elim (fun y => z1 y.symm) fun y => z2 y.symm)]; rfl
    · obtain ⟨y3, y4, rfl, ex, hf⟩ := hw
      rw [hvl, List.take_length] at hf
      exact s_ret (ev_var rfl) fun H2 e2 => hq p H2 hp (ex.trans e2) (e2 _ _ hf)
end
end Ly
end
section
set_option Elab.async false
set_option linter.all false
set_option maxRecDepth 100000
set_option maxHeartbeats 1000000
/-! Comprehensions over lists that are made on the way; whole numbers; data for ==. -/
namespace Ly
open PySem PySem.Spec PyProof.Rows L2 Evl Hd Pn
/-- what a comprehension walks (the walked thing may be new) -/
def Itc (wi : TI) (σ : L2.St) (H : Hp) (n : Nat) (Y : Nat → V → Hp → Prop) : Prop :=
  ∀ H1, Ex H H1 → ∀ R : It → Hp → Prop, (∀ J H2, Ex H1 H2 → (∀ i H3, Ex H2 H3 → i < n → J.go i H3) → (∀ H3, Ex H2 H3 → J.stop n H3) → (∀ i H3 x H4, Ex H2 H3 → i < n → J.yld i H3 x H4 → Ex H3 H4 ∧ Y i x H4) → R J H2) → wi σ H1 R
section
variable {K : PySem.W.Frag} {σ : L2.St} {H : Hp} {tl te ta tb : TE} {tA : TA} {tt : TT} {wi : TI} {g : TG} {x y z v : V}
theorem evp_lcC {vs : List Nat} {n : Nat} {Y : Nat → V → Hp → Prop} (f : Nat → Bool) (Φ : Nat → Ph) (I : Itc wi σ H n Y) (hn : n ≤ 40000) (m : ∀ i, Mono (Φ i))
    (turn : ∀ i x H1, Ex H H1 → i < n → Y i x H1 → ∀ R : L2.St → Hp → Prop, (∀ σ2, wipe σ2 vs = wipe σ vs → EvT tt σ2 H1 (f i) → (f i = true → EvP te σ2 H1 (Φ i)) → R σ2 H1) → g x (wipe σ vs) H1 R) :
    EvP (tLc wi g tt te vs) σ H (LL (((List.range n).filter f).map Φ)) := fun H1 e Q q => by
  refine I H1 e _ fun J H2 e2 go stop yld => ?_
  have mm : Mono (LL (((List.range n).filter f).map Φ)) := mono_LL (mem_map_mono m _)
  refine (evp_lc (wi := fun _ H R => R J H) (σ := σ) (H := H2) (n := n) (Y := Y) (kp := fun H' => Ex H2 H') f Φ (fun H3 e3 R r => r J H3 (Ex.refl _) go stop yld) hn (fun _ e => e) m (fun i x H3 e3 hi hy R k => turn i x H3 ((e.trans e2).trans e3) hi hy R k)) H2 (Ex.refl _) Q fun v H3 e3 k => q v H3 (e2.trans e3) (mm _ _ _ (newp_mono e2 (Ex.refl _)) k)
theorem el_lcC {vs : List Nat} {n : Nat} {Y : Nat → V → Hp → Prop} (f : Nat → Bool) (v : Nat → V) (I : Itc wi σ H n Y) (hn : n ≤ 40000)
    (turn : ∀ i x H1, Ex H H1 → i < n → Y i x H1 → ∀ R : L2.St → Hp → Prop, (∀ σ2, wipe σ2 vs = wipe σ vs → EvT tt σ2 H1 (f i) → (f i = true → Ev te σ2 H1 (v i)) → R σ2 H1) → g x (wipe σ vs) H1 R) :
    EvL (tLc wi g tt te vs) σ H (given n f v) := fun H1 e Q q => by
  refine I H1 e _ fun J H2 e2 go stop yld => ?_
  refine (el_lc (wi := fun _ H R => R J H) (σ := σ) (H := H2) (n := n) (Y := Y) (kp := fun H' => Ex H2 H') f v (fun H3 e3 R r => r J H3 (Ex.refl _) go stop yld) hn (fun _ e => e) (fun i x H3 e3 hi hy R k => turn i x H3 ((e.trans e2).trans e3) hi hy R k)) H2 (Ex.refl _) Q fun p H3 hp e3 k => q p H3 (fresh_back e2 hp) (e2.trans e3) k
theorem itc_of {n : Nat} {Y : Nat → V → Hp → Prop} {kp : Hp → Prop} (I : Itw wi σ H n Y kp) (hk : ∀ H', Ex H H' → kp H') : Itc wi σ H n Y := fun H1 e R r => I H1 e R fun J H2 e2 go stop yld =>
  r J H2 e2 (fun i H3 e3 hi => go i H3 (hk _ ((e.trans e2).trans e3)) hi) (fun H3 e3 => stop H3 (hk _ ((e.trans e2).trans e3))) fun i H3 x H4 e3 hi hy => yld i H3 x H4 (hk _ ((e.trans e2).trans e3)) hi hy
/-- a new list -/
theorem itc_new {xs : List V} (h : EvL tl σ H xs) : Itc (iList K tl) σ H xs.length (fun i x _ => xs[i]? = some x) := fun H1 e R r =>
  h H1 e _ fun p H2 hp e2 h2 => ⟨p, rfl, ⟨xs, sq_of h2⟩, r _ H2 e2 (fun i H3 k hi => ⟨xs, xs[i], sq_of (k _ _ h2), List.getElem?_eq_getElem hi⟩) (fun H3 k => ⟨xs, sq_of (k _ _ h2), Nat.le_refl _⟩) fun i H3 x H4 k hi y => by
    obtain ⟨rfl, y2⟩ := y
    exact ⟨Ex.refl _, y2 xs (sq_of (k _ _ h2))⟩⟩
/-- a list and a new one, at least as long as that -/
theorem itc_zipN {a : Addr} {xs ys : List V} {te2 : TE} (h : Ev te σ H (.ref a)) (hx : SqL K H a xs) (h2 : EvL te2 σ H ys) (hl : ys.length ≤ xs.length) :
    Itc (iZip K (tCons te (tCons te2 tNil))) σ H ys.length (fun i v H' => ∃ T x y, v = .ref T ∧ xs[i]? = some x ∧ ys[i]? = some y ∧ H' T = some (.tup [x, y])) := fun H1 e R r =>
  h H1 e _ fun H2 e2 => h2 H2 (e.trans e2) _ fun b H3 hb e3 h3 => ⟨a, b, xs, ys, rfl, ex_l ((e.trans e2).trans e3) hx, sq_of h3, r _ H3 (e2.trans e3) (fun i H4 k hi => ⟨xs, ys, xs[i], ys[i], ex_l (((e.trans e2).trans e3).trans k) hx, sq_of (k _ _ h3), List.getElem?_eq_getElem (by omega), List.getElem?_eq_getElem hi⟩)
    (fun H4 k => ⟨xs, ys, ex_l (((e.trans e2).trans e3).trans k) hx, sq_of (k _ _ h3), .inr (Nat.le_refl _)⟩) fun i H4 x H5 k hi y => by
    obtain ⟨T, z, z2, rfl, hT, rfl, y1, y2⟩ := y
    exact ⟨Ex.new hT, T, z, z2, rfl, y1 xs (ex_l (((e.trans e2).trans e3).trans k) hx), y2 ys (sq_of (k _ _ h3)), upd_same⟩⟩
/-- a tuple of two to two slots -/
theorem g_two {i j : Nat} {T : Addr} {H1 : Hp} {R : L2.St → Hp → Prop} (h : H1 T = some (.tup [x, y])) (k : R ((σ.set i (some x)).set j (some y)) H1) : gTup K 2 (gCons (gName i) (gCons (gName j) gNil)) (.ref T) σ H1 R :=
  ⟨T, [x, y], rfl, st_of h, rfl, x, [y], rfl, y, [], rfl, rfl, k⟩
theorem ev_allTC {vs : List Nat} {n : Nat} {Y : Nat → V → Hp → Prop} (I : Itc wi σ H n Y) (hn : n ≤ 40000)
    (turn : ∀ i x H1, Ex H H1 → i < n → Y i x H1 → ∀ R : L2.St → Hp → Prop, (∀ σ2, wipe σ2 vs = wipe σ vs → Ev te σ2 H1 (.bl true) → R σ2 H1) → g x (wipe σ vs) H1 R) :
    Ev (tCB (rAll K) (tCons (tLc wi g tYes te vs) tNil)) σ H (.bl true) := by
  have h := el_lcC (te := te) (tt := tYes) (g := g) (fun _ => true) (fun _ => .bl true) I hn fun i x H1 e hi hy R k => turn i x H1 e hi hy R fun σ2 a b => k σ2 a et_yes fun _ => b
  have e : given n (fun _ => true) (fun _ => V.bl true) = (List.replicate n true).map V.bl := by
    rw [given_all, List.map_replicate]
    refine List.ext_getElem? fun j => ?_
    by_cases q : j < n
    · rw [List.getElem?_map, List.getElem?_range q, List.getElem?_replicate, if_pos q]; rfl
    · rw [List.getElem?_map, List.getElem?_eq_none (by rw [List.length_range]; omega), List.getElem?_replicate, if_neg q]; rfl
  rw [e] at h
  refine ev_is (ev_all (K := K) h) ?_
  have e2 : (List.replicate n true).all id = true := by
    rw [List.all_eq_true]; intro b hb; rw [(List.mem_replicate.mp hb).2]; rfl
  rw [e2]
/-! natural numbers -/
theorem ev_addN {a b : Nat} (ha : Ev ta σ H (iV a)) (hb : Ev tb σ H (iV b)) : Ev (tOp (rI0 fun i j => .int (i + j)) ta tb) σ H (iV (a + b)) := ev_is (ev_op ha hb rv_I0) (by show V.int _ = V.int _; rw [Int.natCast_add])
theorem ev_subN {a b : Nat} (ha : Ev ta σ H (iV a)) (hb : Ev tb σ H (iV b)) (h : b ≤ a) : Ev (tOp (rI0 fun i j => .int (i - j)) ta tb) σ H (iV (a - b)) := ev_is (ev_op ha hb rv_I0) (by show V.int _ = V.int _; congr 1; omega)
theorem ev_divW {a b : Nat} (ha : Ev ta σ H (iV a)) (hb : Ev tb σ H (iV b)) (h0 : 0 < b) (h1 : b < 2 ^ 200) : Ev (tOp (rI CDivW fun i j => .int (i / j)) ta tb) σ H (iV (a / b)) :=
  ev_is (ev_op ha hb (rv_I (wide_div (b := 200) (by omega) (by rw [Int.natAbs_natCast]; exact h1) (by decide) (by decide)))) (by show V.int _ = V.int _; rw [Int.natCast_ediv])
end
end Ly
end
section
set_option Elab.async false
set_option linter.all false
set_option maxRecDepth 100000
set_option maxHeartbeats 4000000
/-! The walk: divisors, choices, groups, cables. -/
namespace Ly
open PySem PySem.Spec PyProof.Rows L2 Evl Hd Pn
section
variable {K : PySem.W.Frag} {σ : L2.St} {H : Hp} {tl te ta tb : TE} {tA : TA} {x y z v : V}
theorem ev_modN {a b : Nat} (ha : Ev ta σ H (iV a)) (hb : Ev tb σ H (iV b)) (h : 0 < b) : Ev (tOp (rI (fun _ j => j ≠ 0) fun i j => .int (i.fmod j)) ta tb) σ H (iV (a % b)) :=
  ev_is (ev_op ha hb (rv_I (by omega))) (by show V.int _ = V.int _; rw [Int.fmod_eq_emod_of_nonneg _ (by omega), Int.natCast_emod])
theorem ev_mulN {a b : Nat} (ha : Ev ta σ H (iV a)) (hb : Ev tb σ H (iV b)) (h : b < 2 ^ 64) : Ev (tOp (rI CMul fun i j => .int (i * j)) ta tb) σ H (iV (a * b)) :=
  ev_is (ev_op ha hb (rv_I (.inr ⟨by omega, by omega⟩))) (by show V.int _ = V.int _; rw [Int.natCast_mul])
theorem ev_mulN' {a b : Nat} (ha : Ev ta σ H (iV a)) (hb : Ev tb σ H (iV b)) (h : a < 2 ^ 64) : Ev (tOp (rI CMul fun i j => .int (i * j)) ta tb) σ H (iV (a * b)) :=
  ev_is (ev_op ha hb (rv_I (.inl ⟨by omega, by omega⟩))) (by show V.int _ = V.int _; rw [Int.natCast_mul])
theorem fdiv_nat {a b : Nat} : (a : Int).fdiv (b : Int) = ((a / b : Nat) : Int) := by
  rw [Int.fdiv_eq_ediv_of_nonneg _ (by omega), Int.natCast_ediv]
theorem ev_divN {a b : Nat} (ha : Ev ta σ H (iV a)) (hb : Ev tb σ H (iV b)) (h0 : 0 < b) (h1 : b < 1073741824) : Ev (tOp (rI (fun _ j => j ≠ 0 ∧ j.natAbs < 1073741824) fun i j => .int (i.fdiv j)) ta tb) σ H (iV (a / b)) :=
  ev_is (ev_op ha hb (rv_I ⟨by omega, by omega⟩)) (by show V.int _ = V.int _; rw [fdiv_nat])
theorem cut1 (xs : List V) : cutV xs (some 1) none = xs.drop 1 := by
  unfold cutV
  rw [show HT.sIx xs.length 0 (some 1) = min 1 xs.length from HT.sIx_nat xs.length 0 1, HT.sIx_none]
  cases xs with
  | nil => rfl
  | cons x r =>
    rw [List.length_cons, show min 1 (r.length + 1) = 1 by omega]
    exact List.take_of_length_le (by rw [List.length_drop, List.length_cons]; omega)
end
def chI (n : Nat) (t : Int) : Nat := if 0 ≤ t ∧ t ≤ n then ch n t.toNat else 0
theorem ch_le : ∀ (n k : Nat), ch n k ≤ 2 ^ n
  | n, 0 => by rw [ch_zero]; exact Nat.one_le_two_pow
  | 0, k + 1 => by show 0 ≤ _; omega
  | n + 1, k + 1 => by
    have a := ch_le n k
    have b := ch_le n (k + 1)
    show ch n k + ch n (k + 1) ≤ _
    rw [Nat.pow_succ]; omega
section
variable {P : Program} {w : World} {K : PySem.W.Frag} {mg : Str → Option Value} {base : Heap}
abbrev N_divisor_of : List Str := ["one", "other"]
theorem sc_divisor_of : FnScope N_divisor_of ["one", "other"] (defScope s_divisor_of) := ⟨rfl, rfl, rfl, by decide +kernel, rfl, by decide +kernel, by decide +kernel⟩
def sp_divisor_of : Sp := spP (fun (z : Nat × Nat) vs _ => vs = [iV z.1, iV z.2]) fun z => Is (iV (Nat.gcd z.1 z.2))
theorem ok_divisor_of (F : Df K mg "divisor_of" s_divisor_of) : Cal P w K mg base 1 "divisor_of" ["one", "other"] sp_divisor_of := by
  refine mk_cal F sc_divisor_of (fun vs H Q E h => ?_)
      (fun _ _ _ _ _ _ us hl => match us, hl with | [_, _], _ => rfl)
    (fun f cdv A outer s H vs Q E hr h => ⟨_,
      (pss_cons (ps_while PassesOwn.never (pt_cmpR op_ne (pv 1) pe_int (nomark _))
          (pss_one (ps_par (i := 0) (j := 1) (by rfl) sc_divisor_of.nd rfl rfl (by decide) rfl rfl (pa_cons (pv 1) (pa_cons (pe_op op_modN (pv 0) (pv 1)) pa_nil)) (by rfl))))
        (pss_one (ps_ret (pv 0))))
    , ?_⟩)
  · obtain ⟨i, rfl, _⟩ := h; rfl
  · obtain ⟨⟨t, b⟩, rfl, q⟩ := h
    simp only at q
    refine q_while (fun m σ' H' => ∃ a c : Nat, σ' = [some (iV a), some (iV c)] ∧ Ex H H' ∧ Nat.gcd a c = Nat.gcd t b ∧ m = c) b ⟨t, b, rfl, Ex.refl _, rfl, rfl⟩ fun m σ' H' hw => ?_
    obtain ⟨a, c, rfl, ex, hg, rfl⟩ := hw
    by_cases hc : m = 0
    · refine ⟨false, et_is (et_test (ev_op (ev_var rfl) ev_c (rv_ne rfl))) (by rw [hc]; rfl), (fun z => Bool.noConfusion z), fun _ H1 e1 => ?_⟩
      refine s_ret (ev_var rfl) fun H2 e2 => q _ H2 ((ex.trans e1).trans e2) ?_
      rw [hc, Nat.gcd_zero_right] at hg
      rw [← hg]; rfl
    · refine ⟨true, et_is (et_test (ev_op (ev_var rfl) ev_c (rv_ne rfl))) ?_, fun _ H1 e1 => ⟨fun σ2 H2 => ∃ a' c' : Nat, σ2 = [some (iV a'), some (iV c')] ∧ Ex H H2 ∧ Nat.gcd a' c' = Nat.gcd t b ∧ c' < m, ?_, ?_⟩, (fun z => Bool.noConfusion z)⟩
      · show (!decide (iV m = V.int 0)) = true
        rw [decide_eq_false]; rfl
        intro z
        exact hc (iV_inj.mp (show iV m = iV 0 from z))
      · rintro σ2 H2 ⟨a', c', rfl, e2, g2, lt⟩
        exact ⟨c', lt, a', c', rfl, e2, g2, rfl⟩
      · refine (ea_cons (ev_var (v := iV m) rfl) (ea_cons (ev_modN (ev_var (v := iV a) rfl) (ev_var (v := iV m) rfl) (by omega)) ea_nil)) H1 (Ex.refl _) _ fun H2 e2 => ⟨_, _, rfl, m, a % m, rfl, (ex.trans e1).trans e2, ?_, Nat.mod_lt _ (by omega)⟩
        rw [← hg, Nat.gcd_comm m, ← Nat.gcd_rec, Nat.gcd_comm]
abbrev N_lowest : List Str := ["top", "bottom", "divisor"]
theorem sc_lowest : FnScope N_lowest ["top", "bottom"] (defScope s_lowest) := ⟨rfl, rfl, rfl, by decide +kernel, rfl, by decide +kernel, by decide +kernel⟩
def sp_lowest : Sp := spP (fun (z : Nat × Nat) vs _ => vs = [iV z.1, iV z.2] ∧ 0 < z.2 ∧ z.2 < 2 ^ 200) fun z => IsU [iV (low z.1 z.2).1, iV (low z.1 z.2).2]
theorem ok_lowest (F : Df K mg "lowest" s_lowest) (c_divisor_of : Cal P w K mg base 1 "divisor_of" ["one", "other"] sp_divisor_of) : Cal P w K mg base 2 "lowest" ["top", "bottom"] sp_lowest := by
  refine mk_cal F sc_lowest (fun vs H Q E h => ?_)
      (fun _ _ _ _ _ _ us hl => match us, hl with | [_, _], _ => rfl)
    (fun f cdv A outer s H vs Q E hr h => ⟨_,
      (pss_cons (ps_set (i := 2) sc_lowest.nd rfl (by first | exact Or.inl rfl | exact Or.inr rfl) (pe_cal c_divisor_of hr (pa_cons (pv 0) (pa_cons (pv 1) pa_nil))))
        (pss_one (ps_ret (pe_tup (pa_cons (pe_op op_fdivW (pv 0) (pv 2)) (pa_cons (pe_op op_fdivW (pv 1) (pv 2)) pa_nil))))))
    , ?_⟩)
  · obtain ⟨i, ⟨rfl, _⟩, _⟩ := h; rfl
  · obtain ⟨⟨t, b⟩, ⟨rfl, h0, h1⟩, q⟩ := h
    simp only at q h0 h1
    have g0 : 0 < Nat.gcd t b := Nat.gcd_pos_of_pos_right _ h0
    have g1 : Nat.gcd t b < 2 ^ 200 := Nat.lt_of_le_of_lt (Nat.gcd_le_right _ h0) h1
    refine q_asg (ev_call1 (t, b) (ea_cons (ev_var rfl) (ea_cons (ev_var rfl) ea_nil)) fun _ _ => rfl) fun H1 e1 => ?_
    refine s_retU (eu_tup (ea_cons (ev_divW (ev_var (v := iV t) rfl) (ev_var (v := iV (Nat.gcd t b)) rfl) g0 g1) (ea_cons (ev_divW (ev_var (v := iV b) rfl) (ev_var (v := iV (Nat.gcd t b)) rfl) g0 g1) ea_nil)) (by show 2 ≤ 100000; decide)) fun p H2 hp e2 h2 => q _ H2 (e1.trans e2) ⟨p, rfl, newp_of (fresh_back e1 hp) h2⟩
abbrev N_choices : List Str := ["many", "taken", "found", "turn"]
theorem sc_choices : FnScope N_choices ["many", "taken"] (defScope s_choices) := ⟨rfl, rfl, rfl, by decide +kernel, rfl, by decide +kernel, by decide +kernel⟩
def sp_choices : Sp := spP (fun (z : Nat × Int) vs _ => vs = [iV z.1, .int z.2] ∧ z.1 ≤ 100) fun z => Is (iV (chI z.1 z.2))
theorem ok_choices (M : Ms mg) (F : Df K mg "choices" s_choices) : Cal P w K mg base 1 "choices" ["many", "taken"] sp_choices := by
  refine mk_cal F sc_choices (fun vs H Q E h => ?_)
      (fun _ _ _ _ _ _ us hl => match us, hl with | [_, _], _ => rfl)
    (fun f cdv A outer s H vs Q E hr h => ⟨_,
      (pss_cons (ps_if (pt_not (pt_chain op_le op_le pe_int (pv 1) (pv 0)))
          (pss_one (ps_ret pe_int))
          pss_nil)
        (pss_cons (ps_set (i := 2) sc_choices.nd rfl (by first | exact Or.inl rfl | exact Or.inr rfl) pe_int)
        (pss_cons (ps_for PassesOwn.never rfl (pi_range1 rfl M.range (pa_cons (pe_callB (call_min2 rfl) (by rfl) M.min (by decide +kernel) (pa_cons (pv 1) (pa_cons (pe_op op_sub (pv 0) (pv 1)) pa_nil))) pa_nil)) (pg_name (i := 3) sc_choices.nd rfl (by first | exact Or.inl rfl | exact Or.inr rfl))
          (pss_one (ps_set (i := 2) sc_choices.nd rfl (by first | exact Or.inl rfl | exact Or.inr rfl) (pe_op op_fdivN (pe_op op_mul (pv 2) (pe_op op_sub (pv 0) (pv 3))) (pe_op op_add (pv 3) pe_int)))))
        (pss_one (ps_ret (pv 2))))))
    , ?_⟩)
  · obtain ⟨i, ⟨rfl, _⟩, _⟩ := h; rfl
  · obtain ⟨⟨n, t⟩, ⟨rfl, hn⟩, q⟩ := h
    simp only at q hn
    have test : EvT (tNot (tTest (tChain (rI0 fun i j => .bl (decide (i ≤ j))) (rI0 fun i j => .bl (decide (i ≤ j))) (tC (.int 0)) (tVar 1) (tVar 0)))) [some (iV n), some (.int t), none, none] H (!(decide (0 ≤ t) && decide (t ≤ n))) :=
      et_not (et_test (ev_chain ev_c (ev_var rfl) rv_I0 (fun _ => ev_var (v := iV n) rfl) fun _ => rv_I0))
    by_cases ht : 0 ≤ t ∧ t ≤ n
    · obtain ⟨k, rfl⟩ : ∃ k : Nat, t = (k : Int) := ⟨t.toNat, by omega⟩
      have hk : k ≤ n := by omega
      refine q_when (b := false) (et_is test (by rw [decide_eq_true ht.1, decide_eq_true ht.2]; rfl)) (fun z => Bool.noConfusion z) fun _ H1 e1 => ?_
      refine q_asg (ev_c (v := .int 1)) fun H2 e2 => ?_
      refine q_for (itw_range1 (n := min k (n - k)) (ea_cons (ev_minN (ev_var (v := iV k) rfl) (ev_subN (ev_var (v := iV n) rfl) (ev_var (v := iV k) rfl) hk)) ea_nil) (by omega))
        (fun i σ' H' => ∃ y3, σ' = [some (iV n), some (iV k), some (iV (ch n i)), y3] ∧ Ex H H') (fun H3 e3 => ⟨none, by rw [ch_zero]; rfl, (e1.trans e2).trans e3⟩) (fun _ _ _ _ => trivial) (fun i x σ' H' H3 hi hw e3 hx => ?_) (fun σ' H' hw => ?_)
      · obtain ⟨y3, rfl, ex⟩ := hw
        subst hx
        refine s_asg (ev_divN (ev_mulN (ev_var (v := iV (ch n i)) rfl) (ev_subN (ev_var (v := iV n) rfl) (ev_var (v := iV i) rfl) (by omega)) (by omega)) (ev_addN (ev_var (v := iV i) rfl) (ev_c (v := iV 1))) (by omega) (by omega)) fun H4 e4 => ⟨some (iV i), ?_, (ex.trans e3).trans e4⟩
        rw [ch_turn (by omega)]; rfl
      · obtain ⟨y3, rfl, ex⟩ := hw
        refine s_ret (ev_var rfl) fun H3 e3 => q _ H3 (ex.trans e3) ?_
        show iV (ch n (min k (n - k))) = iV (chI n k)
        have : chI n (k : Int) = ch n k := by
          unfold chI
          rw [if_pos ht, Int.toNat_natCast]
        rw [this]
        congr 1
        rcases Nat.le_total k (n - k) with z | z
        · rw [Nat.min_eq_left z]
        · rw [Nat.min_eq_right z, ch_symm hk]
    · refine q_when (b := true) (et_is test ?_) (fun _ H1 e1 => s_ret ev_c fun H2 e2 => q _ H2 (e1.trans e2) ?_) (fun z => Bool.noConfusion z)
      · by_cases h0 : 0 ≤ t
        · rw [decide_eq_true h0, decide_eq_false (fun z => ht ⟨h0, z⟩)]; rfl
        · rw [decide_eq_false h0]; rfl
      · have : chI n t = 0 := by unfold chI; rw [if_neg ht]
        rw [this]; rfl
abbrev N_is_group : List Str := ["plugs", "thing", "least", "one", "other"]
theorem sc_is_group : FnScope N_is_group ["plugs", "thing", "least"] (defScope s_is_group) := ⟨rfl, rfl, rfl, by decide +kernel, rfl, by decide +kernel, by decide +kernel⟩
/-- an ascending list of devices -/
def IsGr (H : Hp) (n : Nat) (a : Addr) (gs : List Nat) : Prop := H a = some (.lst (gs.map iV)) ∧ gs.Pairwise (· < ·) ∧ (∀ v ∈ gs, v < n) ∧ gs ≠ [] ∧ n ≤ 60
theorem IsGr.mono {H H' : Hp} {n : Nat} {a : Addr} {gs : List Nat} (h : IsGr H n a gs) (e : Ex H H') : IsGr H' n a gs := ⟨e _ _ h.1, h.2⟩
theorem asc_len : ∀ {gs : List Nat} {lo n : Nat}, gs.Pairwise (· < ·) → (∀ v ∈ gs, lo ≤ v ∧ v < n) → lo ≤ n → gs.length + lo ≤ n
  | [], lo, n, _, _, h => by simpa using h
  | g :: gs, lo, n, h, k, _ => by
    have h2 := List.pairwise_cons.mp h
    have hg := k g (by simp)
    have := asc_len (gs := gs) (lo := g + 1) (n := n) h2.2 (fun v hv => ⟨h2.1 v hv, (k v (by simp [hv])).2⟩) (by omega)
    rw [List.length_cons]; omega
theorem IsGr.len {H : Hp} {n : Nat} {a : Addr} {gs : List Nat} (h : IsGr H n a gs) : gs.length ≤ 60 := by
  have := asc_len (lo := 0) (n := n) h.2.1 (fun v hv => ⟨by omega, h.2.2.1 v hv⟩) (by omega)
  have := h.2.2.2.2
  omega
def sp_is_group : Sp := spP (fun (z : Addr × Addr × List Nat × List V) vs H => vs = [.ref z.1, .ref z.2.1, .int 1] ∧ H z.1 = some (.lst z.2.2.2) ∧ IsGr H z.2.2.2.length z.2.1 z.2.2.1) fun _ => Is (.bl true)
theorem ok_is_group (M : Ms mg) (F : Df K mg "is_group" s_is_group) (c_is_integer : Cal P w K mg base 1 "is_integer" ["thing"] sp_is_integer) : Cal P w K mg base 2 "is_group" ["plugs", "thing", "least"] sp_is_group := by
  refine mk_cal F sc_is_group (fun vs H Q E h => ?_)
      (fun _ _ _ _ _ _ us hl => match us, hl with | [_, _, _], _ => rfl)
    (fun f cdv A outer s H vs Q E hr h => ⟨_,
      (pss_cons (ps_if (PW.pt (pw_or (pt_not (pt_val (pe_callB call_isi (by rfl) M.isinstance (by decide +kernel) (pa_cons (pv 1) (pa_cons (pe_bltn (v := .ty "list") (u := .type "list") (by rfl) M.list (by decide +kernel) rfl) pa_nil))))) (pw_or1 (pt_cmpR op_lt (pe_callB call_len_seq (by rfl) M.len PySem.boot_len (pa_cons (pv 1) pa_nil)) (pv 2) (nomark _)))))
          (pss_one (ps_ret pe_bl))
          pss_nil)
        (pss_cons (ps_if (pt_not (pt_val (pe_callB (cr_all rfl) (by rfl) M.all (by decide +kernel) (pa_cons (pe_lc (own := [("one", 3)]) (tt := tYes) rfl sc_is_group.nd (pi_list (pv 1)) (blkOk_by (own := [("one", 3)]) (N := N_is_group) (sc := defScope s_is_group) (by decide +kernel)) (fun _ _ _ _ _ => (pg_name (i := 3) sc_is_group.nd rfl (by first | exact Or.inl rfl | exact Or.inr rfl))) (fun _ _ _ _ _ => pts_nil) (fun _ _ _ _ _ => (pe_and (pe_cal c_is_integer hr (pa_cons (pv 3) pa_nil)) (pe_one (pe_chain op_le op_lt pe_int (pv 3) (pe_callB (show CallR _ _ (rLenS K) from call_len_seq) (by rfl) M.len PySem.boot_len (pa_cons (pv 0) pa_nil))))))) pa_nil))))
          (pss_one (ps_ret pe_bl))
          pss_nil)
        (pss_one (ps_ret (pe_callB (cr_all rfl) (by rfl) M.all (by decide +kernel) (pa_cons (pe_lc (own := [("one", 3), ("other", 4)]) (tt := tYes) rfl sc_is_group.nd (pi_zip (by rfl) M.zip (pa_cons (pv 1) (pa_cons (pe_slice sl_list (pv 1) (po_some pe_int) po_none) pa_nil))) (blkOk_by (own := [("one", 3), ("other", 4)]) (N := N_is_group) (sc := defScope s_is_group) (by decide +kernel)) (fun _ _ _ _ _ => (show PG _ _ (gTup K 2 _) from pg_tup rfl (pgs_cons (pg_name (i := 3) sc_is_group.nd rfl (by first | exact Or.inl rfl | exact Or.inr rfl)) (pgs_cons (pg_name (i := 4) sc_is_group.nd rfl (by first | exact Or.inl rfl | exact Or.inr rfl)) pgs_nil)))) (fun _ _ _ _ _ => pts_nil) (fun _ _ _ _ _ => (pe_cmpR op_lt (pv 3) (pv 4) (nomark _)))) pa_nil))))))
    , ?_⟩)
  · obtain ⟨i, ⟨rfl, _⟩, _⟩ := h; rfl
  · obtain ⟨⟨pa, a, gs, ds⟩, ⟨rfl, hd, hg⟩, q⟩ := h
    simp only at hd hg q
    have hgl := hg.len
    obtain ⟨g1, g2, g3, g4, g5⟩ := hg
    have hS : SqL K H a (gs.map iV) := sq_of g1
    have hD : SqL K H pa ds := sq_of hd
    have hl1 : 1 ≤ gs.length := List.length_pos_iff.mpr g4
    refine q_when (b := false) (et_is (et_or (et_not (et_B (ev_cb (ea_cons (ev_var rfl) (ea_cons ev_c ea_nil)) (isi_list g1)))) fun _ => et_test (ev_op (ev_len0 (ev_var rfl) hS) (ev_var rfl) rv_I0)) ?_) (fun z => Bool.noConfusion z) fun _ H1 e1 => ?_
    · show (!true || decide (((gs.map iV).length : Int) < 1)) = false
      rw [decide_eq_false (by rw [List.length_map]; omega)]; rfl
    refine q_when (b := false) (et_is (et_not (et_B (ev_allTC (K := K) (itc_of (itw_list (K := K) (ev_var rfl) (ex_l e1 hS)) fun H' e => ex_l (e1.trans e) hS) (by rw [List.length_map]; omega) fun i x H2 e2 hi hy R k => k _ rfl ?_))) rfl) (fun z => Bool.noConfusion z) fun _ H2 e2 => ?_
    · have hi' : i < gs.length := by rw [List.length_map] at hi; exact hi
      rw [List.getElem?_map, List.getElem?_eq_getElem hi'] at hy
      cases hy
      have hv := g3 gs[i] (List.getElem_mem _)
      have d1 : decide ((0 : Int) ≤ (gs[i] : Int)) = true := decide_eq_true (by omega)
      have d2 : decide ((gs[i] : Int) < (ds.length : Int)) = true := decide_eq_true (by omega)
      exact ev_is (ev_andV (ev_call1 (gs[i] : Int) (ea_cons (ev_var rfl) ea_nil) fun _ _ => rfl) fun _ => ev_chain ev_c (ev_var (v := iV gs[i]) rfl) rv_I0 (fun _ => ev_len0 (ev_var rfl) (ex_l (e1.trans e2) hD)) fun _ => rv_I0) (by rw [d2]; rfl)
    · have e12 := e1.trans e2
      have hsl := el_sl (K := K) (ev_var (σ := [some (.ref pa), some (.ref a), some (.int 1), none, none]) (H := H2) (i := 1) rfl) (eo_some (ev_c (v := .int 1))) eo_none (ex_l e12 hS)
      rw [cut1] at hsl
      refine s_ret (ev_allTC (K := K) (itc_zipN (K := K) (ev_var rfl) (ex_l e12 hS) hsl (by rw [List.length_drop]; omega)) (by rw [List.length_drop, List.length_map]; omega) fun i x H3 e3 hi hy R k => ?_) fun H3 e3 => q _ H3 (e12.trans e3) rfl
      obtain ⟨T, x1, x2, rfl, y1, y2, hT⟩ := hy
      rw [List.length_drop, List.length_map] at hi
      rw [List.getElem?_map, List.getElem?_eq_getElem (by omega)] at y1
      rw [List.getElem?_drop, List.getElem?_map, List.getElem?_eq_getElem (by omega)] at y2
      cases y1
      cases y2
      refine g_two hT (k _ rfl ?_)
      have lt : gs[i] < gs[1 + i] := List.pairwise_iff_getElem.mp g2 i (1 + i) _ _ (by omega)
      exact ev_is (ev_op (ev_var (v := iV gs[i]) rfl) (ev_var (v := iV gs[1 + i]) rfl) rv_I0) (by rw [decide_eq_true (by omega)])
abbrev N_need_group : List Str := ["plugs", "thing", "least"]
theorem sc_need_group : FnScope N_need_group ["plugs", "thing", "least"] (defScope s_need_group) := ⟨rfl, rfl, rfl, by decide +kernel, rfl, by decide +kernel, by decide +kernel⟩
def sp_need_group : Sp := spP (fun (z : Addr × Addr × List Nat × List V) vs H => vs = [.ref z.1, .ref z.2.1, .int 1] ∧ H z.1 = some (.lst z.2.2.2) ∧ IsGr H z.2.2.2.length z.2.1 z.2.2.1) fun _ => Is .non
theorem ok_need_group (F : Df K mg "need_group" s_need_group) (c_is_group : Cal P w K mg base 2 "is_group" ["plugs", "thing", "least"] sp_is_group) : Cal P w K mg base 3 "need_group" ["plugs", "thing", "least"] sp_need_group := by
  refine mk_cal F sc_need_group (fun vs H Q E h => ?_)
      (fun _ _ _ _ _ _ us hl => match us, hl with | [_, _, _], _ => rfl)
    (fun f cdv A outer s H vs Q E hr h => ⟨_,
      (pss_one (ps_if (pt_not (pt_val (pe_cal c_is_group hr (pa_cons (pv 0) (pa_cons (pv 1) (pa_cons (pv 2) pa_nil))))))
          pss_never
          pss_nil))
    , ?_⟩)
  · obtain ⟨i, ⟨rfl, _⟩, _⟩ := h; rfl
  · obtain ⟨z, ⟨rfl, hd, hg⟩, q⟩ := h
    exact s_when (b := false) (et_is (et_not (et_B (ev_call1 z (ea_cons (ev_var rfl) (ea_cons (ev_var rfl) (ea_cons (ev_var rfl) ea_nil))) fun H1 e => ⟨rfl, e _ _ hd, hg.mono e⟩))) rfl) (fun z => Bool.noConfusion z) fun _ H1 e1 => q _ H1 e1 rfl
abbrev N_is_cable : List Str := ["thing", "many"]
theorem sc_is_cable : FnScope N_is_cable ["thing", "many"] (defScope s_is_cable) := ⟨rfl, rfl, rfl, by decide +kernel, rfl, by decide +kernel, by decide +kernel⟩
theorem ok_is_cable (F : Df K mg "is_cable" s_is_cable) (c_is_cable_of : Cal P w K mg base 2 "is_cable_of" ["thing", "many"] sp_is_cable_of) : Cal P w K mg base 3 "is_cable" ["thing", "many"] sp_is_cable_of := by
  refine mk_cal F sc_is_cable (fun vs H Q E h => ?_)
      (fun _ _ _ _ _ _ us hl => match us, hl with | [_, _], _ => rfl)
    (fun f cdv A outer s H vs Q E hr h => ⟨_,
      (pss_one (ps_ret (pe_cal c_is_cable_of hr (pa_cons (pv 0) (pa_cons (pv 1) pa_nil)))))
    , ?_⟩)
  · obtain ⟨i, ⟨rfl, _⟩, _⟩ := h; rfl
  · obtain ⟨z, ⟨rfl, hT, h1, h2⟩, q⟩ := h
    exact s_ret (ev_call1 z (ea_cons (ev_var rfl) (ea_cons (ev_var rfl) ea_nil)) fun H1 e => ⟨rfl, e _ _ hT, h1, h2⟩) fun H1 e1 => q _ H1 e1 rfl
end
end Ly
end
section
set_option Elab.async false
set_option linter.all false
set_option maxRecDepth 100000
set_option maxHeartbeats 1000000
/-! Data for ==, in and repr: whole numbers, tuples and lists of them; sorted sets of names. -/
namespace Ly
open PySem PySem.Spec PyProof.Rows L2 Evl Hd Pn
def natD (n : Nat) : PyData := .int (n : Int)
def listD {α : Type} (f : α → PyData) (l : List α) : PyData := .list (l.map f)
def cabD (c : Cab) : PyData := .tuple [natD c.1, natD c.2]
def triD (t : Nat × Nat × Nat) : PyData := .tuple [natD t.1, natD t.2.1, natD t.2.2]
section
variable {α : Type} {f : α → PyData}
theorem lay_map {l : List α} (h : ∀ a ∈ l, (f a).canLay0 = true) : PyData.canLayAll0 (l.map f) = true := by
  induction l with
  | nil => rfl
  | cons a l ih =>
    show (PyData.canLay0 (f a) && PyData.canLayAll0 (l.map f)) = true
    rw [h a (by simp), ih fun b hb => h b (by simp [hb])]; rfl
theorem depth_map {l : List α} {k : Nat} (h : ∀ a ∈ l, (f a).depth ≤ k) : PyData.depthAll (l.map f) ≤ k := by
  induction l with
  | nil => simp [PyData.depthAll]
  | cons a l ih =>
    have h1 := h a (by simp)
    have h2 := ih fun b hb => h b (by simp [hb])
    simp only [List.map_cons, PyData.depthAll]
    omega
theorem listD_lay {l : List α} (h : ∀ a, (f a).canLay0 = true) : (listD f l).canLay0 = true := lay_map fun a _ => h a
theorem listD_depth {l : List α} {k : Nat} (h : ∀ a, (f a).depth ≤ k) : (listD f l).depth ≤ k + 1 := by
  have := depth_map (l := l) fun a _ => h a
  unfold listD
  simp only [PyData.depth]
  omega
theorem eqvAll_map (h : ∀ a b, PyData.eqv (f a) (f b) = true ↔ a = b) : ∀ l m : List α, PyData.eqvAll (l.map f) (m.map f) = true ↔ l = m
  | [], [] => by simp [PyData.eqvAll]
  | [], b :: m => by simp [PyData.eqvAll]
  | a :: l, [] => by simp [PyData.eqvAll]
  | a :: l, b :: m => by
    simp only [List.map_cons, PyData.eqvAll, Bool.and_eq_true, List.cons.injEq]
    rw [h, eqvAll_map h l m]
theorem listD_eqv (h : ∀ a b, PyData.eqv (f a) (f b) = true ↔ a = b) (l m : List α) : PyData.eqv (listD f l) (listD f m) = true ↔ l = m := by
  show PyData.eqvAll (l.map f) (m.map f) = true ↔ _
  exact eqvAll_map h l m
end
theorem natD_eqv (a b : Nat) : PyData.eqv (natD a) (natD b) = true ↔ a = b := by
  show ((a : Int) == (b : Int)) = true ↔ _
  rw [beq_iff_eq]; omega
theorem natD_lay (a : Nat) : (natD a).canLay0 = true := rfl
theorem natD_depth (a : Nat) : (natD a).depth ≤ 0 := by simp [natD, PyData.depth]
theorem cabD_eqv (a b : Cab) : PyData.eqv (cabD a) (cabD b) = true ↔ a = b := by
  have := eqvAll_map natD_eqv [a.1, a.2] [b.1, b.2]
  show PyData.eqvAll _ _ = true ↔ _
  rw [show ([natD a.1, natD a.2] : List PyData) = [a.1, a.2].map natD from rfl, show ([natD b.1, natD b.2] : List PyData) = [b.1, b.2].map natD from rfl, this]
  obtain ⟨a1, a2⟩ := a
  obtain ⟨b1, b2⟩ := b
  simp
theorem cabD_lay (a : Cab) : (cabD a).canLay0 = true := rfl
theorem cabD_depth (a : Cab) : (cabD a).depth ≤ 1 := by simp [cabD, natD, PyData.depth, PyData.depthAll]
theorem triD_eqv (a b : Nat × Nat × Nat) : PyData.eqv (triD a) (triD b) = true ↔ a = b := by
  have := eqvAll_map natD_eqv [a.1, a.2.1, a.2.2] [b.1, b.2.1, b.2.2]
  show PyData.eqvAll _ _ = true ↔ _
  rw [show ([natD a.1, natD a.2.1, natD a.2.2] : List PyData) = [a.1, a.2.1, a.2.2].map natD from rfl, show ([natD b.1, natD b.2.1, natD b.2.2] : List PyData) = [b.1, b.2.1, b.2.2].map natD from rfl, this]
  obtain ⟨a1, a2, a3⟩ := a
  obtain ⟨b1, b2, b3⟩ := b
  simp
theorem triD_lay (a : Nat × Nat × Nat) : (triD a).canLay0 = true := rfl
theorem triD_depth (a : Nat × Nat × Nat) : (triD a).depth ≤ 1 := by simp [triD, natD, PyData.depth, PyData.depthAll]
theorem shaped_of {d : PyData} {k : Nat} (h1 : d.canLay0 = true) (h2 : d.depth ≤ k) (h3 : k ≤ 64) : SeqAt.shaped d = true := by
  unfold SeqAt.shaped
  rw [h1, decide_eq_true (Nat.le_trans h2 h3)]; rfl
/-! data in a heap -/
section
variable {K : PySem.W.Frag} {H H' : Hp}
theorem dp_all {α : Type} {f : α → PyData} {Φ : α → Ph} (h : ∀ a v, Φ a v H → Dp K H v (f a)) : ∀ {l : List α} {vs : List V}, Al (l.map Φ) vs H → DpAll K H vs (l.map f)
  | [], vs, a => by cases a; exact .nil
  | x :: l, vs, a => by
    cases a with
    | cons a1 a2 => exact .cons (h _ _ a1) (dp_all h a2)
theorem dp_list {α : Type} {f : α → PyData} {Φ : α → Ph} (h : ∀ a v, Φ a v H → Dp K H v (f a)) {l : List α} {v : V} (k : LL (l.map Φ) v H) : Dp K H v (listD f l) := by
  obtain ⟨p, vs, rfl, h1, h2⟩ := k
  exact .lst (sq_of h1) (dp_all h h2)
theorem dp_iV (n : Nat) : Dp K H (iV n) (natD n) := .int _
theorem dp_nats : ∀ ns : List Nat, DpAll K H (ns.map iV) (ns.map natD)
  | [] => .nil
  | n :: ns => .cons (dp_iV n) (dp_nats ns)
theorem dp_NL {ns : List Nat} {v : V} (h : NL ns v H) : Dp K H v (listD natD ns) := by
  obtain ⟨p, rfl, h1⟩ := h
  exact .lst (sq_of h1) (dp_nats ns)
theorem dp_CB {c : Cab} {v : V} (h : CB c v H) : Dp K H v (cabD c) := by
  obtain ⟨p, rfl, h1⟩ := h
  exact .tup (st_of h1) (.cons (dp_iV _) (.cons (dp_iV _) .nil))
theorem dp_CL {cs : List Cab} {v : V} (h : CL cs v H) : Dp K H v (listD cabD cs) := dp_list (Φ := CB) (fun _ _ h => dp_CB h) h
end
section
variable {K : PySem.W.Frag} {wd : World} {σ : L2.St} {H : Hp} {te ta tb : TE} {x y : V}
/-- sorted(set(xs)) of a list that has a name -/
theorem ev_sortedSetV {a : Addr} {ks : List Nat} {us : List Nat} (h : Ev te σ H (.ref a)) (hs : SqL K H a (ks.map iV)) (h1 : us.Pairwise (· < ·)) (h2 : ∀ j, j ∈ us ↔ j ∈ ks) (hl : ks.length ≤ 63) :
    EvL (tCB (rSortedSet wd) (tCons (tCB (rSetOfL K wd) (tCons te tNil)) tNil)) σ H (us.map iV) := fun H1 e Q q => by
  refine h H1 e _ fun H2 e2 => ⟨a, ks.map Int.ofNat, rfl, by rw [map_iV] at hs; exact ex_l (e.trans e2) hs, by rw [List.length_map]; omega, fun S c hc hS => ?_⟩
  rw [List.length_map] at hc
  refine ⟨S, _, c, rfl, upd_same, by omega, fun ns r hp1 hp2 _ hr => ?_⟩
  have e3 : ns = us.map Int.ofNat := by
    have n2 : (us.map Int.ofNat).Pairwise (· < ·) := List.Pairwise.map _ (fun a b (z : a < b) => by show (a : Int) < (b : Int); omega) h1
    have d1 : ns.Nodup := hp1.imp fun z => by omega
    have d2 : (us.map Int.ofNat).Nodup := n2.imp fun z => by omega
    refine List.Perm.eq_of_pairwise (le := fun a b => a < b) (fun a b _ _ x y => by omega) hp1 n2 ((List.perm_ext_iff_of_nodup d1 d2).mpr fun k => ?_)
    rw [hp2, decide_eq_true_eq, List.mem_map, List.mem_map]
    constructor
    · rintro ⟨a, ha, rfl⟩; exact ⟨a, (h2 a).mpr ha, rfl⟩
    · rintro ⟨a, ha, rfl⟩; exact ⟨a, (h2 a).mp ha, rfl⟩
  subst e3
  have hr2 : H2 r = none := fresh_back (Ex.new hS) hr
  exact q r _ (fresh_back e2 hr2) ((e2.trans (Ex.new hS)).trans (Ex.new hr)) (by rw [upd_same, map_iV])
/-- equality of data -/
theorem rv_eqD {d e : PyData} (hx : ∀ H1, Ex H H1 → Dp K H1 x d) (hy : ∀ H1, Ex H H1 → Dp K H1 y e) (sd : SeqAt.shaped d = true) (se : SeqAt.shaped e = true) : RV (rEqD K) x y H (.bl (PyData.eqv d e)) := fun H1 ex Q q =>
  ⟨d, e, hx H1 ex, hy H1 ex, sd, se, q H1 (Ex.refl _)⟩
theorem rv_neD {d e : PyData} (hx : ∀ H1, Ex H H1 → Dp K H1 x d) (hy : ∀ H1, Ex H H1 → Dp K H1 y e) (sd : SeqAt.shaped d = true) (se : SeqAt.shaped e = true) : RV (rNeD K) x y H (.bl (!PyData.eqv d e)) := fun H1 ex Q q =>
  ⟨d, e, hx H1 ex, hy H1 ex, sd, se, q H1 (Ex.refl _)⟩
end
/-- a comprehension's phrases, told by the list itself -/
theorem range_map {α β : Type} (l : List α) (F : Nat → β) (G : α → β) (h : ∀ i a, l[i]? = some a → F i = G a) : ((List.range l.length).filter (fun _ => true)).map F = l.map G := by
  rw [List.filter_eq_self.mpr fun _ _ => rfl]
  refine List.ext_getElem? fun i => ?_
  by_cases hi : i < l.length
  · rw [List.getElem?_map, List.getElem?_map, List.getElem?_range hi, List.getElem?_eq_getElem hi]
    exact congrArg some (h i _ (List.getElem?_eq_getElem hi))
  · rw [List.getElem?_eq_none (by rw [List.length_map, List.length_range]; omega), List.getElem?_eq_none (by rw [List.length_map]; omega)]
/-- .. with a test -/
theorem range_filter {α β : Type} (l : List α) (p : Nat → Bool) (q : α → Bool) (F : Nat → β) (G : α → β) (hp : ∀ i a, l[i]? = some a → p i = q a) (h : ∀ i a, l[i]? = some a → F i = G a) : ((List.range l.length).filter p).map F = (l.filter q).map G := by
  have step : ∀ m, m ≤ l.length → ((List.range m).filter p).map F = ((l.take m).filter q).map G := fun m => by
    induction m with
    | zero => intro _; rfl
    | succ m ih =>
      intro hm
      have hml : m < l.length := by omega
      have g := List.getElem?_eq_getElem hml
      rw [List.range_succ, List.filter_append, List.map_append, ih (by omega), List.take_add_one, g, List.filter_append, List.map_append]
      congr 1
      have hpm := hp m _ g
      have hm2 := h m _ g
      simp only [Option.toList, List.filter_cons, List.filter_nil, hpm]
      cases q l[m] with
      | true => exact congrArg (fun z => [z]) hm2
      | false => rfl
  have := step l.length (Nat.le_refl _)
  rwa [List.take_length] at this
end Ly
end
section
/-! Parts as lists, rings by other labels, sums over groups. -/
set_option linter.all false
set_option maxHeartbeats 1000000
namespace Pn
def mg2 (f : Nat → Nat) (c : Cab) : Nat → Nat := fun x => if f x = f c.2 then f c.1 else f x
def lab2 (L : List Cab) : Nat → Nat := L.foldl mg2 id
theorem lab2_snoc (L : List Cab) (c : Cab) : lab2 (L ++ [c]) = mg2 (lab2 L) c := by unfold lab2; rw [List.foldl_append]; rfl
theorem lab2_lab (L : List Cab) : ∀ x y, lab2 L x = lab2 L y → lab L x = lab L y := by
  refine snoc_ind (P := fun L => ∀ x y, lab2 L x = lab2 L y → lab L x = lab L y) ?_ ?_ L
  · intro x y h; exact h
  · intro L c ih x y h
    rw [lab2_snoc] at h
    rw [lab_snoc]
    unfold mg2 at h
    have key : ∀ z, lab L z = lab L c.2 → mg (lab L) c z = min (lab L c.1) (lab L c.2) := fun z hz => by
      unfold mg
      split
      · rfl
      · rw [hz]; omega
    have key1 : ∀ z, lab L z = lab L c.1 → mg (lab L) c z = min (lab L c.1) (lab L c.2) := fun z hz => by
      unfold mg
      split
      · rfl
      · rw [hz]; omega
    by_cases hx : lab2 L x = lab2 L c.2
    · rw [if_pos hx] at h
      by_cases hy : lab2 L y = lab2 L c.2
      · rw [key x (ih _ _ hx), key y (ih _ _ hy)]
      · rw [if_neg hy] at h
        rw [key x (ih _ _ hx), key1 y (ih _ _ h).symm]
    · rw [if_neg hx] at h
      by_cases hy : lab2 L y = lab2 L c.2
      · rw [if_pos hy] at h
        rw [key1 x (ih _ _ h), key y (ih _ _ hy)]
      · rw [if_neg hy] at h
        have := ih _ _ h
        unfold mg
        rw [this]
theorem split_at {L : List Cab} {i : Nat} {c : Cab} (e : L[i]? = some c) : L = L.take i ++ c :: L.drop (i + 1) := by
  obtain ⟨h, rfl⟩ := List.getElem?_eq_some_iff.mp e
  rw [← List.drop_eq_getElem_cons h, List.take_append_drop]
theorem NoRing.two {L : List Cab} (h : NoRing L) {i : Nat} {c : Cab} (e : L[i]? = some c) : lab2 (L.take i) c.1 ≠ lab2 (L.take i) c.2 := fun z => h _ _ _ (split_at e) (lab2_lab _ _ _ z)

/-! ### parts as lists -/
def reps (f : Nat → Nat) (n : Nat) : List Nat := (List.range n).filter fun r => decide (f r = r)
def one (f : Nat → Nat) (n r : Nat) : List Nat := (List.range n).filter fun x => decide (f x = r)
def cls (f : Nat → Nat) (n : Nat) : List (List Nat) := (reps f n).map (one f n)
theorem range_asc (n : Nat) (p : Nat → Bool) : ((List.range n).filter p).Pairwise (· < ·) := List.Pairwise.filter _ List.pairwise_lt_range
theorem reps_mem {f : Nat → Nat} {n r : Nat} : r ∈ reps f n ↔ r < n ∧ f r = r := by unfold reps; rw [List.mem_filter, List.mem_range, decide_eq_true_eq]
theorem one_mem {f : Nat → Nat} {n r x : Nat} : x ∈ one f n r ↔ x < n ∧ f x = r := by unfold one; rw [List.mem_filter, List.mem_range, decide_eq_true_eq]
theorem reps_all (L : List Cab) (n j : Nat) : j ∈ reps (lab L) n ↔ j ∈ (List.range n).map (lab L) := by
  rw [reps_mem, List.mem_map]
  constructor
  · rintro ⟨h1, h2⟩; exact ⟨j, List.mem_range.mpr h1, h2⟩
  · rintro ⟨x, hx, rfl⟩
    exact ⟨Nat.lt_of_le_of_lt (lab_le L x) (List.mem_range.mp hx), lab_idem L x⟩
theorem one_head {L : List Cab} {n r : Nat} (h1 : r < n) (h2 : lab L r = r) : ∃ t, one (lab L) n r = r :: t := by
  have hm : r ∈ one (lab L) n r := one_mem.mpr ⟨h1, h2⟩
  have hp : (one (lab L) n r).Pairwise (· < ·) := range_asc _ _
  cases e : one (lab L) n r with
  | nil => rw [e] at hm; cases hm
  | cons a t =>
    have ha : a ∈ one (lab L) n r := by rw [e]; exact List.mem_cons_self ..
    have h3 := (one_mem.mp ha).2
    have := lab_le L a
    rw [e] at hm hp
    rcases List.mem_cons.mp hm with z | z
    · exact ⟨t, by rw [z]⟩
    · have := (List.pairwise_cons.mp hp).1 r z
      omega
theorem cls_mem {L : List Cab} {n : Nat} {ps : List Nat} (h : ps ∈ cls (lab L) n) : ∃ r t, r < n ∧ lab L r = r ∧ ps = one (lab L) n r ∧ ps = r :: t := by
  obtain ⟨r, hr, rfl⟩ := List.mem_map.mp h
  obtain ⟨h1, h2⟩ := reps_mem.mp hr
  obtain ⟨t, e⟩ := one_head h1 h2
  exact ⟨r, t, h1, h2, rfl, e⟩
theorem one_sum (d : Nat → Nat) (L M : List Cab) (n r : Nat) : ((one (lab M) n r).map (op d L)).sum = Po n d L (lab M) r := by
  unfold one Po
  rw [S_filter]
  exact S_congr fun i _ => by by_cases z : lab M i = r <;> simp [z]
theorem cls_len (L : List Cab) (n : Nat) : (cls (lab L) n).length = S n fun r => if lab L r = r then 1 else 0 := by
  unfold cls reps
  rw [List.length_map, S_count]
  exact S_congr fun i _ => by by_cases z : lab L i = i <;> simp [z]
/-- the parts in a group -/
def inn (n : Nat) (L : List Cab) (s : Nat → Bool) : List (List Nat) := (cls (lab L) n).filter fun ps => (gr n L s).contains (ps.headD 0)
theorem inn_eq (n : Nat) (L : List Cab) (s : Nat → Bool) : inn n L s = ((reps (lab L) n).filter s).map (one (lab L) n) := by
  unfold inn cls
  rw [List.filter_map]
  congr 1
  refine List.filter_congr fun r hr => ?_
  obtain ⟨h1, h2⟩ := reps_mem.mp hr
  obtain ⟨t, e⟩ := one_head h1 h2
  show (gr n L s).contains ((one (lab L) n r).headD 0) = s r
  rw [e, List.headD_cons, gr_has h1, h2]
section
variable {n : Nat} {d : Nat → Nat} {L : List Cab} {s : Nat → Bool}
theorem Sub.inn_len (h : Sub n d L) : (inn n L s).length = Pn.cA n d (lab L) s := by
  rw [inn_eq, List.length_map, h.cA]
  unfold reps
  rw [List.filter_filter, S_count]
  exact S_congr fun i _ => by rw [Bool.and_comm]
theorem Sub.parts_two (h : Sub n d L) : (cls (lab L) n).length = Pn.cA n d (lab L) s + Pn.cA n d (lab L) (fun r => !s r) := by
  rw [cls_len, h.cA, h.cA, ← S_add]
  refine S_congr fun i _ => ?_
  by_cases z : lab L i = i <;> cases s i <;> simp [z]
theorem Sub.cls_le (h : Sub n d L) : (cls (lab L) n).length ≤ n := by
  have := h.parts
  rw [cls_len]; omega
theorem inn_perm : (inn n L s).flatten.Perm (gr n L s) := by
  rw [inn_eq]
  refine (List.perm_ext_iff_of_nodup ?_ ((range_asc _ _).imp fun q => by omega)).mpr fun v => ?_
  · rw [List.Nodup, List.pairwise_flatten]
    refine ⟨fun l hl => ?_, ?_⟩
    · obtain ⟨r, _, rfl⟩ := List.mem_map.mp hl
      exact (range_asc _ _).imp fun q => by omega
    · have hp : ((reps (lab L) n).filter s).Pairwise (· < ·) := (range_asc _ _).filter _
      refine List.pairwise_map.mpr (hp.imp fun {a b} hab x hx y hy e => ?_)
      have h1 := (one_mem.mp hx).2
      have h2 := (one_mem.mp hy).2
      rw [e] at h1
      omega
  · rw [List.mem_flatten]
    rw [List.mem_filter, List.mem_range]
    constructor
    · rintro ⟨l, hl, hv⟩
      obtain ⟨r, hr, rfl⟩ := List.mem_map.mp hl
      obtain ⟨h1, h2⟩ := one_mem.mp hv
      rw [h2]
      exact ⟨h1, (List.mem_filter.mp hr).2⟩
    · rintro ⟨h1, h2⟩
      refine ⟨one (lab L) n (lab L v), List.mem_map.mpr ⟨lab L v, List.mem_filter.mpr ⟨reps_mem.mpr ⟨Nat.lt_of_le_of_lt (lab_le L v) h1, lab_idem L v⟩, h2⟩, rfl⟩, one_mem.mpr ⟨h1, rfl⟩⟩
theorem gr_asc : (gr n L s).Pairwise (· < ·) := range_asc _ _
/-- the open plugs of a group -/
theorem gr_sum (h : Sub n d L) : ((gr n L s).map (op d L)).sum = S n fun r => if decide (lab L r = r) && s r then Po n d L (lab L) r else 0 := by
  unfold gr
  rw [S_filter, ← S_group (l := lab L) h.lb]
  refine S_congr fun r hr => ?_
  unfold Po
  by_cases z : lab L r = r
  · cases hs : s r with
    | true =>
      rw [if_pos (by simp [z])]
      refine S_congr fun i _ => ?_
      by_cases e : lab L i = r
      · rw [if_pos e, if_pos e, e, hs, if_pos rfl]
      · rw [if_neg e, if_neg e]
    | false =>
      rw [if_neg (by simp)]
      refine S_zero' fun i _ => ?_
      by_cases e : lab L i = r
      · rw [if_pos e, e, hs, if_neg (by simp)]
      · rw [if_neg e]
  · rw [if_neg (by simp [z])]
    refine S_zero' fun i _ => ?_
    rw [if_neg]
    intro e
    rw [← e] at z
    exact z (lab_idem L i)
theorem Sub.gr_open (h : Sub n d L) (ha : 1 ≤ Pn.cA n d (lab L) s) (hao : 1 ≤ Pn.cA n d (lab L) fun r => !s r) : ((gr n L s).map (op d L)).sum = Pn.cA n d (lab L) s + bA n d L (lab L) s := by
  rw [gr_sum h, h.cA]
  unfold bA
  rw [← S_add]
  rw [h.cA] at ha hao
  obtain ⟨r1, h1, q1⟩ := S_pos (Nat.lt_of_lt_of_le Nat.zero_lt_one ha)
  obtain ⟨r2, h2, q2⟩ := S_pos (Nat.lt_of_lt_of_le Nat.zero_lt_one hao)
  have a1 : (decide (lab L r1 = r1) && s r1) = true := by
    cases e : (decide (lab L r1 = r1) && s r1) with
    | true => rfl
    | false => rw [e] at q1; simp at q1
  have a2 : (decide (lab L r2 = r2) && !s r2) = true := by
    cases e : (decide (lab L r2 = r2) && !s r2) with
    | true => rfl
    | false => rw [e] at q2; simp at q2
  rw [Bool.and_eq_true, decide_eq_true_eq] at a1 a2
  have hne : r1 ≠ r2 := by
    intro e
    rw [e] at a1
    rw [a1.2] at a2
    exact absurd a2.2 (by simp)
  refine S_congr fun r hr => ?_
  rw [h.A r hr]
  by_cases z : lab L r = r
  · cases hs : s r with
    | false => simp
    | true =>
      have : 1 ≤ Po n d L (lab L) r := h.open_ r hr z (by
        refine ⟨r2, h2, a2.1, fun e => ?_⟩
        rw [e, hs] at a2
        exact absurd a2.2 (by simp))
      simp [z]
      omega
  · simp [z]
end
end Pn
end
section
set_option Elab.async false
set_option linter.all false
set_option maxRecDepth 100000
set_option maxHeartbeats 2000000
/-! Lists of parts, comprehensions with two sources, defs with a default. -/
namespace Ly
open PySem PySem.Spec PyProof.Rows L2 Evl Hd Pn
/-- the list at a has these parts -/
def NLa (H : Hp) (a : Addr) (pss : List (List Nat)) (vs : List V) : Prop := H a = some (.lst vs) ∧ Al (pss.map NL) vs H
theorem NLa.of {H : Hp} {a : Addr} {pss : List (List Nat)} (h : NLs pss (.ref a) H) : ∃ vs, NLa H a pss vs := by
  obtain ⟨p, vs, e, h1, h2⟩ := h
  cases e
  exact ⟨vs, h1, h2⟩
theorem NLa.len {H : Hp} {a : Addr} {pss : List (List Nat)} {vs : List V} (h : NLa H a pss vs) : vs.length = pss.length := by rw [h.2.length, List.length_map]
theorem NLa.mono {H H' : Hp} {a : Addr} {pss : List (List Nat)} {vs : List V} (h : NLa H a pss vs) (e : Ex H H') : NLa H' a pss vs := ⟨e _ _ h.1, h.2.mono e (mem_map_mono (fun _ => mono_NL) pss)⟩
theorem NLa.back {H : Hp} {a : Addr} {pss : List (List Nat)} {vs : List V} (h : NLa H a pss vs) : NLs pss (.ref a) H := ⟨a, vs, rfl, h.1, h.2⟩
theorem NLa.item {H : Hp} {a : Addr} {pss : List (List Nat)} {vs : List V} (h : NLa H a pss vs) {i : Nat} {x : V} (e : vs[i]? = some x) : ∃ ps t, pss[i]? = some ps ∧ x = .ref t ∧ H t = some (.lst (ps.map iV)) := by
  obtain ⟨Φ, e1, k⟩ := h.2.get e
  rw [List.getElem?_map] at e1
  cases e2 : pss[i]? with
  | none => rw [e2] at e1; cases e1
  | some ps =>
    rw [e2] at e1
    cases e1
    obtain ⟨t, e3, e4⟩ := k
    exact ⟨ps, t, rfl, e3, e4⟩
theorem LL.ref {Φs : List Ph} {v : V} {G : Hp} (h : LL Φs v G) : ∃ a, v = .ref a := by
  obtain ⟨p, _, e, _⟩ := h
  exact ⟨p, e⟩
/-- the items for which a test holds -/
theorem given_zip {α : Type} (l : List α) (vs : List V) (hl : vs.length = l.length) (f : Nat → Bool) (q : α → Bool) (h : ∀ i a, l[i]? = some a → f i = q a) :
    given vs.length f (fun i => vs.getD i .non) = ((l.zip vs).filter fun z => q z.1).map (·.2) := by
  have hz : (l.zip vs).length = vs.length := by rw [List.length_zip]; omega
  unfold given
  rw [← hz]
  refine range_filter (l.zip vs) f (fun z => q z.1) (fun i => vs.getD i .non) (·.2) (fun i a e => ?_) (fun i a e => ?_)
  · obtain ⟨e1, e2⟩ := List.getElem?_zip_eq_some.mp e
    exact h i _ e1
  · obtain ⟨e1, e2⟩ := List.getElem?_zip_eq_some.mp e
    rw [List.getD_eq_getElem?_getD, e2]; rfl
theorem al_filter {α : Type} {g : α → Ph} (q : α → Bool) : ∀ {l : List α} {vs : List V} {G : Hp}, Al (l.map g) vs G → Al ((l.filter q).map g) (((l.zip vs).filter fun z => q z.1).map (·.2)) G
  | [], vs, G, h => by cases h; exact .nil
  | a :: l, vs, G, h => by
    cases h with
    | cons h1 h2 =>
      have ih := al_filter q h2
      rw [List.zip_cons_cons, List.filter_cons, List.filter_cons]
      cases e : q a with
      | true => simp only [if_true, e]; exact .cons h1 ih
      | false => simpa only [Bool.false_eq_true, if_false, e] using ih
section
variable {K : PySem.W.Frag} {σ : L2.St} {H : Hp} {tl te ta tb : TE} {x y z v : V}
/-- [y for p in xs for y in p] -/
theorem el_lc2 {i0 i1 : Nat} {a : Addr} {vs : List V} {Fs : List (List V)} (h : Ev tl σ H (.ref a)) (hs : SqL K H a vs) (hl : vs.length = Fs.length) (hi : ∀ (i : Nat) (x : V) (F : List V), vs[i]? = some x → Fs[i]? = some F → ∃ q, x = V.ref q ∧ SqL K H q F) (hn : Fs.flatten.length ≤ 40000)
    (w0 : ∀ x, wipe ((wipe σ [i0, i1]).set i0 (some x)) [i0, i1] = wipe σ [i0, i1]) (r0 : ∀ x : V, ((wipe σ [i0, i1]).set i0 (some x))[i0]? = some (some x))
    (w1 : ∀ x y, wipe ((wipe ((wipe σ [i0, i1]).set i0 (some x)) [i1]).set i1 (some y)) [i1] = wipe ((wipe σ [i0, i1]).set i0 (some x)) [i1]) (r1 : ∀ x y : V, ((wipe ((wipe σ [i0, i1]).set i0 (some x)) [i1]).set i1 (some y))[i1]? = some (some y)) :
    EvL (tLc2 (iList K tl) (gName i0) tYes (iList K (tVar i0)) (gName i1) tYes (tVar i1) [i0, i1] [i1]) σ H Fs.flatten := fun H1 e Q q => by
  refine h H1 e _ fun H2 e2 => ⟨a, rfl, ⟨vs, ex_l (e.trans e2) hs⟩, fun D hD => ?_⟩
  have e02 := e.trans e2
  have flat_len : ∀ i, (Fs.take i).flatten.length ≤ Fs.flatten.length := fun i => by
    have : Fs.flatten = (Fs.take i).flatten ++ (Fs.drop i).flatten := by rw [← List.flatten_append, List.take_append_drop]
    rw [this, List.length_append]; omega
  refine ⟨fun i k H' => i + k = Fs.length ∧ Ex H2 H' ∧ H' D = some (.lst (Fs.take i).flatten), ⟨Fs.length, by omega, Ex.new hD, upd_same⟩, fun i k H' hW => ?_⟩
  obtain ⟨hik, ex, hacc⟩ := hW
  have hs' : SqL K H' a vs := ex_l (e02.trans ex) hs
  by_cases hi' : i < Fs.length
  · refine .inr ⟨⟨vs, vs[i]'(by omega), hs', List.getElem?_eq_getElem (by omega)⟩, fun H'' => Ex H2 H'' ∧ H'' D = some (.lst (Fs.take (i + 1)).flatten), fun H'' hN => ⟨k - 1, by omega, by omega, hN⟩, fun x H3 y => ?_⟩
    obtain ⟨rfl, y2⟩ := y
    have hx := y2 vs hs'
    obtain ⟨p, rfl, hp⟩ := hi i x _ hx (List.getElem?_eq_getElem hi')
    refine ⟨w0 _, ?_⟩
    unfold tYes
    simp only [if_true]
    refine ⟨.ref p, r0 _, p, rfl, ⟨Fs[i], ex_l (e02.trans ex) hp⟩, ?_⟩
    refine ⟨fun j k H5 => j + k = Fs[i].length ∧ Ex H2 H5 ∧ H5 D = some (.lst ((Fs.take i).flatten ++ Fs[i].take j)), ⟨Fs[i].length, by omega, ex, by rw [hacc]; simp⟩, fun j k1 H5 hW1 => ?_⟩
    obtain ⟨hjk, ex5, hacc5⟩ := hW1
    have hp5 : SqL K H5 p Fs[i] := ex_l (e02.trans ex5) hp
    by_cases hj : j < Fs[i].length
    · refine .inr ⟨⟨Fs[i], Fs[i][j], hp5, List.getElem?_eq_getElem hj⟩, fun H6 => Ex H2 H6 ∧ H6 D = some (.lst ((Fs.take i).flatten ++ Fs[i].take (j + 1))), fun H6 hN => ⟨k1 - 1, by omega, by omega, hN⟩, fun y H6 yy => ?_⟩
      obtain ⟨rfl, y3⟩ := yy
      have hy := y3 _ hp5
      refine ⟨w1 _ _, ?_⟩
      try unfold tYes
      simp only [if_true]
      refine ⟨y, r1 _ _, (Fs.take i).flatten ++ Fs[i].take j, hacc5, sz_lt ?_, Ex.mut ex5 hD, ?_⟩
      · have : ((Fs.take i).flatten ++ Fs[i].take j).length ≤ (Fs.take (i + 1)).flatten.length := by
          rw [List.take_add_one, List.getElem?_eq_getElem hi', List.flatten_append, List.length_append, List.length_append]
          simp
          omega
        have := flat_len (i + 1)
        omega
      · rw [upd_same, List.take_add_one, hy, List.append_assoc]; rfl
    · have hjn : j = Fs[i].length := by omega
      subst hjn
      refine .inl ⟨⟨Fs[i], hp5, Nat.le_refl _⟩, ex5, ?_⟩
      rw [hacc5, List.take_length, List.take_add_one, List.getElem?_eq_getElem hi', List.flatten_append]
      simp
  · have hin : i = Fs.length := by omega
    subst hin
    refine .inl ⟨⟨vs, hs', by omega⟩, q D H' (fresh_back e2 hD) (e2.trans ex) ?_⟩
    rw [hacc, List.take_length]
/-- sorted(xs), numbers -/
theorem ev_sortedN {ns us : List Nat} (h : EvL te σ H (ns.map iV)) (h1 : us.Pairwise (· < ·)) (h2 : us.Perm ns) : EvL (tCB (rSortedI K) (tCons te tNil)) σ H (us.map iV) := fun H1 e Q q => by
  refine h H1 e _ fun p H2 hp e2 hk => ⟨p, ns.map Int.ofNat, rfl, by rw [map_iV] at hk; exact sq_of hk, fun ns' r hp1 hp2 hr => ?_⟩
  have e3 : ns' = us.map Int.ofNat := by
    have n2 : (us.map Int.ofNat).Pairwise (· ≤ ·) := List.Pairwise.map _ (fun a b (z : a < b) => by show (a : Int) ≤ (b : Int); omega) h1
    exact List.Perm.eq_of_pairwise (le := fun a b => a ≤ b) (fun a b _ _ x y => by omega) hp2 n2 (hp1.trans (h2.map _).symm)
  subst e3
  exact q r _ (fresh_back e2 hr) (e2.trans (Ex.new hr)) (by rw [upd_same, map_iV])
end
/-! ### data on the way -/
def EvD (K : PySem.W.Frag) (te : TE) (σ : L2.St) (H : Hp) (d : PyData) : Prop := ∀ H1, Ex H H1 → ∀ Q : VK, (∀ v H2, Ex H1 H2 → (∀ H3, Ex H2 H3 → Dp K H3 v d) → Q v H2) → te σ H1 Q
section
variable {K : PySem.W.Frag} {σ : L2.St} {H H' : Hp} {te ta tb : TE} {x y : V} {d e : PyData} {Φ : Ph}
theorem evd_val (h : Ev te σ H x) (hd : ∀ H1, Ex H H1 → Dp K H1 x d) : EvD K te σ H d := fun H1 e1 Q q => h H1 e1 Q fun H2 e2 => q x H2 e2 fun H3 e3 => hd H3 ((e1.trans e2).trans e3)
theorem evd_new (m : Mono Φ) (h : EvP te σ H Φ) (hd : ∀ v G, Φ v G → Dp K G v d) : EvD K te σ H d := fun H1 e1 Q q => h H1 e1 Q fun v H2 e2 k => q v H2 e2 fun H3 e3 => hd v H3 (m _ _ _ (newp_ex.trans e3) k)
theorem evd_nil : EvD K (tLst tNil) σ H (.list []) := evd_new (Φ := LL []) (mono_LL fun _ h => nomatch h) (evp_lst (fun _ h => nomatch h) epa_nil (Nat.zero_le _)) fun v G h => dp_list (Φ := fun (c : Cab) => CB c) (f := cabD) (l := []) (fun _ _ h => dp_CB h) h
theorem EvD.mono (a : Ex H H') (h : EvD K te σ H d) : EvD K te σ H' d := fun H1 e1 Q q => h H1 (a.trans e1) Q q
theorem ev_eqD (ha : EvD K ta σ H d) (hb : EvD K tb σ H e) (sd : SeqAt.shaped d = true) (se : SeqAt.shaped e = true) : Ev (tOp (rEqD K) ta tb) σ H (.bl (PyData.eqv d e)) := fun H1 e1 Q q =>
  ha H1 e1 _ fun v H2 e2 k => hb H2 (e1.trans e2) _ fun u H3 e3 k2 => ⟨d, e, k H3 e3, k2 H3 (Ex.refl _), sd, se, q H3 (e2.trans e3)⟩
theorem ev_neD (ha : EvD K ta σ H d) (hb : EvD K tb σ H e) (sd : SeqAt.shaped d = true) (se : SeqAt.shaped e = true) : Ev (tOp (rNeD K) ta tb) σ H (.bl (!PyData.eqv d e)) := fun H1 e1 Q q =>
  ha H1 e1 _ fun v H2 e2 k => hb H2 (e1.trans e2) _ fun u H3 e3 k2 => ⟨d, e, k H3 e3, k2 H3 (Ex.refl _), sd, se, q H3 (e2.trans e3)⟩
theorem ev_inD {ds : List PyData} (ha : EvD K ta σ H d) (hb : EvD K tb σ H (.list ds)) (sd : SeqAt.shaped d = true) (se : SeqAt.shaped (.list ds) = true) : Ev (tOp (rInD K) ta tb) σ H (.bl (ds.any fun z => PyData.eqv z d)) := fun H1 e1 Q q =>
  ha H1 e1 _ fun v H2 e2 k => hb H2 (e1.trans e2) _ fun u H3 e3 k2 => ⟨d, ds, k H3 e3, k2 H3 (Ex.refl _), sd, se, q H3 (e2.trans e3)⟩
theorem ev_notInD {ds : List PyData} (ha : EvD K ta σ H d) (hb : EvD K tb σ H (.list ds)) (sd : SeqAt.shaped d = true) (se : SeqAt.shaped (.list ds) = true) : Ev (tOp (rNotInD K) ta tb) σ H (.bl (!ds.any fun z => PyData.eqv z d)) := fun H1 e1 Q q =>
  ha H1 e1 _ fun v H2 e2 k => hb H2 (e1.trans e2) _ fun u H3 e3 k2 => ⟨d, ds, k H3 e3, k2 H3 (Ex.refl _), sd, se, q H3 (e2.trans e3)⟩
end
theorem any_map {α : Type} {f : α → PyData} [DecidableEq α] (h : ∀ a b, PyData.eqv (f a) (f b) = true ↔ a = b) (l : List α) (a : α) : (l.map f).any (fun z => PyData.eqv z (f a)) = decide (a ∈ l) := by
  rw [List.any_map]
  by_cases k : a ∈ l
  · rw [decide_eq_true k, List.any_eq_true]
    exact ⟨a, k, (h a a).mpr rfl⟩
  · rw [decide_eq_false k, List.any_eq_false]
    intro x hx e
    rw [(h x a).mp e] at hx
    exact k hx
theorem eqv_dec {α : Type} [DecidableEq α] {f : α → PyData} (h : ∀ a b, PyData.eqv (f a) (f b) = true ↔ a = b) (a b : α) : PyData.eqv (f a) (f b) = decide (a = b) := by
  by_cases k : a = b
  · rw [decide_eq_true k]; exact (h a b).mpr k
  · rw [decide_eq_false k]
    cases e : PyData.eqv (f a) (f b) with
    | true => exact absurd ((h a b).mp e) k
    | false => rfl
theorem shaped_listD {α : Type} {f : α → PyData} (h : ∀ a, (f a).canLay0 = true) (k : ∀ a, (f a).depth ≤ 3) (l : List α) : SeqAt.shaped (listD f l) = true := shaped_of (listD_lay h) (listD_depth (k := 3) k) (by decide)
/-! ### a def with a default -/
def CalD (P : Program) (w : World) (K : PySem.W.Frag) (mg : Str → Option Value) (base : Heap) (k : Nat) (x : Str) (ps : List Str) (dvs : List V) (sp : Sp) : Prop :=
  ∃ f fd ds, FnOk P w K mg base CX0 k f fd ps sp ∧ mg x = some (.ref f) ∧ PySem.W.keepIn K (.ref f) = true ∧ Vals dvs ds ∧ Binds K fd ps ds
theorem pe_calD {X : Cx} {k j : Nat} {x : Str} {ps : List Str} {dvs : List V} {sp : Sp} {p pos : Pos} {e : Expr} {es : List Expr} {t : TA} (c : CalD X.prog X.w X.K X.mg X.base k x ps dvs sp) (hr : Room j X.A) (ha : PA X (e :: es) t) (hg : Gl X x := by rfl) (hk : k ≤ j := by decide)
    (hdb : (x == ("__debug__" : Str)) = false := by decide) (he : starEach (e :: es) X.env = (false, eval e X.env) :: starEach es X.env := by rfl) (hpl : (backTo pos (starEach es X.env)).any (·.1) = false := by rfl) :
    PE X (.Call (.Name x p) (e :: es) [] pos) (tCall sp dvs E0 t) := by
  obtain ⟨f, fd, ds, F, g, kp, hd, b⟩ := c
  exact pe_call F (hr.mono hk) hg g kp b hd pass0 ha hdb he hpl
def DfD (K : PySem.W.Frag) (mg : Str → Option Value) (x : Str) (st : Stmt) (dvs : List V) : Prop := ∃ f fd, FunD K x x (defArgs st) (defBody st) (defScope st) dvs [] f fd ∧ mg x = some (.ref f)
section
variable {P : Program} {w : World} {K : PySem.W.Frag} {mg : Str → Option Value} {base : Heap}
theorem mk_calD {x : Str} {st : Stmt} {N ps : List Str} {dvs : List V} {k : Nat} {sp : Sp} (F : DfD K mg x st dvs) (S : FnScope N ps (defScope st)) (len : ∀ vs H Q E, sp vs H Q E → vs.length = ps.length)
    (hb : ∀ f fd, FunD K x x (defArgs st) (defBody st) (defScope st) dvs [] f fd → ∃ ds, Vals dvs ds ∧ Binds K fd ps ds)
    (hbody : ∀ (f : Addr) (cdv : Value) (A : Around) (outer : List Env) (s : Shared) (H : Hp) (vs : List V) (Q : VK) (E : XK), Room k (A.deeper (envOfC x (defScope st) s.heap.objs.size f cdv)) → sp vs H Q E →
      ∃ t, PSs (cxOf CX0 P w K mg base N x (defScope st) f cdv A outer s H E).nox (defBody st) t ∧ t { nx := fun _ H' => Q .non H', rt := Q } (start N vs) H) : CalD P w K mg base (k + 1) x ps dvs sp := by
  obtain ⟨f, fd, F, g⟩ := F
  obtain ⟨ds, hd, b⟩ := hb f fd F
  refine ⟨f, fd, ds, F.ok S len fun cdv A outer s H vs Q E hr h => ?_, g, F.kp, hd, b⟩
  obtain ⟨t, h1, h2⟩ := hbody f cdv A outer s H vs Q E hr h
  exact ⟨t, h1.nox, h2⟩
end
theorem ev_callD1 {α : Type} {ar : α → List V → Hp → Prop} {f : α → V} {σ : L2.St} {H : Hp} {ta : TA} {E : XK} {dvs : List V} (a : α) {vs : List V} (h : EvA ta σ H vs) (ha : ∀ H1, Ex H H1 → ar a (vs ++ dvs) H1) : Ev (tCall (spP ar fun a => Is (f a)) dvs E ta) σ H (f a) :=
  ev_ofp fun H1 e Q q => h H1 e _ fun H2 e2 => ⟨a, ha H2 (e.trans e2), fun v H3 e3 k => q v H3 (e2.trans e3) k⟩
end Ly
end
section
set_option Elab.async false
set_option linter.all false
set_option maxRecDepth 100000
set_option maxHeartbeats 4000000
/-! The walk: known cables. -/
namespace Ly
open PySem PySem.Spec PyProof.Rows L2 Evl Hd Pn
/-- plugs by number -/
def dd (ds : List Nat) (x : Nat) : Nat := ds.getD x 0
theorem dd_at {ds : List Nat} {i : Nat} (h : i < ds.length) : ds[i] = dd ds i := by
  unfold dd
  rw [List.getD_eq_getElem?_getD, List.getElem?_eq_getElem h]; rfl
theorem fl_dd (ds : List Nat) : ds.map iV = fl ds.length (dd ds) := by
  refine List.ext_getElem? fun i => ?_
  by_cases h : i < ds.length
  · rw [fl_at h, List.getElem?_map, List.getElem?_eq_getElem h, dd_at h]; rfl
  · rw [List.getElem?_eq_none (by rw [List.length_map]; omega), List.getElem?_eq_none (by rw [fl_len]; omega)]
theorem nd_len : ∀ {α : Type} [DecidableEq α] {l m : List α}, l.Nodup → (∀ a ∈ l, a ∈ m) → l.length ≤ m.length := fun {α} _ {l m} h k => by
  induction l generalizing m with
  | nil => exact Nat.zero_le _
  | cons a l ih =>
    have hn := List.nodup_cons.mp h
    have ha := k a (by simp)
    have := ih (m := m.erase a) hn.2 fun b hb => (List.mem_erase_of_ne (fun e => hn.1 (by rw [← e]; exact hb))).mpr (k b (by simp [hb]))
    rw [List.length_erase_of_mem ha] at this
    have : 0 < m.length := List.length_pos_of_mem ha
    rw [List.length_cons]; omega
section
variable {P : Program} {w : World} {K : PySem.W.Frag} {mg : Str → Option Value} {base : Heap}
abbrev N_need_cables : List Str := ["many", "thing", "most", "cable"]
theorem sc_need_cables : FnScope N_need_cables ["many", "thing", "most"] (defScope s_need_cables) := ⟨rfl, rfl, rfl, by decide +kernel, rfl, by decide +kernel, by decide +kernel⟩
def sp_need_cables : Sp := spP (fun (z : Nat × Addr × List Cab) vs H => vs = [iV z.1, .ref z.2.1, .int 59] ∧ CL z.2.2 (.ref z.2.1) H ∧ InN z.1 z.2.2 ∧ z.2.2.Nodup ∧ z.2.2.length ≤ 59) fun _ => Is .non
/-- the rows of a list of cables -/
theorem al_rows : ∀ {cs : List Cab} {vs : List V} {H : Hp}, Al (cs.map CB) vs H → ∃ ks : List (Addr × List Int), vs = ks.map (fun p => V.ref p.1) ∧ ks.map (·.2) = cs.map (fun c => [(c.1 : Int), (c.2 : Int)]) ∧ ∀ p ∈ ks, H p.1 = some (.tup (p.2.map V.int))
  | [], vs, H, h => by cases h; exact ⟨[], rfl, rfl, fun _ h => nomatch h⟩
  | c :: cs, vs, H, h => by
    cases h with
    | cons h1 h2 =>
      obtain ⟨t, rfl, ht⟩ := h1
      obtain ⟨ks, rfl, e2, e3⟩ := al_rows h2
      refine ⟨(t, [(c.1 : Int), (c.2 : Int)]) :: ks, rfl, by rw [List.map_cons, List.map_cons, e2], fun p hp => ?_⟩
      rcases List.mem_cons.mp hp with rfl | hp
      · exact ht
      · exact e3 p hp
theorem ok_need_cables (M : Ms mg) (F : DfD K mg "need_cables" s_need_cables [.int 59]) (c_is_cable : Cal P w K mg base 3 "is_cable" ["thing", "many"] sp_is_cable_of) : CalD P w K mg base 4 "need_cables" ["many", "thing", "most"] [.int 59] sp_need_cables := by
  refine mk_calD F sc_need_cables (fun vs H Q E h => ?_)
    (fun f fd FD => FD.binds1 2 0 (by simp) rfl fun T kV doc pm an cdv ct us its h1 h2 => match us, its, h1, h2 with | [_, _], [_], _, _ => ⟨_, rfl, rfl⟩)
    (fun f cdv A outer s H vs Q E hr h => ⟨_,
      (pss_cons (ps_if (PW.pt (pw_or (pt_not (pt_val (pe_callB call_isi (by rfl) M.isinstance (by decide +kernel) (pa_cons (pv 1) (pa_cons (pe_bltn (v := .ty "list") (u := .type "list") (by rfl) M.list (by decide +kernel) rfl) pa_nil))))) (pw_or (pt_cmpR op_gt (pe_callB call_len_seq (by rfl) M.len PySem.boot_len (pa_cons (pv 1) pa_nil)) (pv 2) (nomark _)) (pw_or1 (pt_not (pt_val (pe_callB (cr_all rfl) (by rfl) M.all (by decide +kernel) (pa_cons (pe_lc (own := [("cable", 3)]) (tt := tYes) rfl sc_need_cables.nd (pi_list (pv 1)) (blkOk_by (own := [("cable", 3)]) (N := N_need_cables) (sc := defScope s_need_cables) (by decide +kernel)) (fun _ _ _ _ _ => (pg_name (i := 3) sc_need_cables.nd rfl (by first | exact Or.inl rfl | exact Or.inr rfl))) (fun _ _ _ _ _ => pts_nil) (fun _ _ _ _ _ => (pe_cal c_is_cable hr (pa_cons (pv 3) (pa_cons (pv 0) pa_nil))))) pa_nil))))))))
          pss_never
          pss_nil)
        (pss_one (ps_if (pt_cmpR op_lt (pe_callB call_len_setT (by rfl) M.len PySem.boot_len (pa_cons (pe_callTy (cr_setOfT rfl hr.units) (by rfl) M.set (by decide +kernel) (pa_cons (pv 1) pa_nil)) pa_nil)) (pe_callB call_len_seq (by rfl) M.len PySem.boot_len (pa_cons (pv 1) pa_nil)) (nomark _))
          pss_never
          pss_nil)))
    , ?_⟩)
  · obtain ⟨i, ⟨rfl, _⟩, _⟩ := h; rfl
  · obtain ⟨⟨n, a, L⟩, ⟨rfl, hL, hin, hnd, hlen⟩, q⟩ := h
    simp only at hL hin hnd hlen q
    obtain ⟨vs, hc⟩ := CLa.of hL
    have hvl := hc.len
    have hS : SqL K H a vs := sq_of hc.1
    refine q_when (b := false) (et_is (et_or (et_not (et_B (ev_cb (ea_cons (ev_var rfl) (ea_cons ev_c ea_nil)) (isi_list hc.1)))) fun _ => et_or (et_test (ev_op (ev_len0 (ev_var rfl) hS) (ev_var rfl) rv_I0)) fun _ => et_not (et_B (ev_allTC (K := K) (itc_of (itw_list (K := K) (ev_var rfl) hS) fun H' e => ex_l e hS) (by omega) fun i x H2 e2 hi hy R k => k _ rfl ?_))) ?_) (fun z => Bool.noConfusion z) fun _ H1 e1 => ?_
    · obtain ⟨c, t, hci, rfl, hT⟩ := (hc.mono e2).item hy
      obtain ⟨b1, b2⟩ := hin c (List.mem_of_getElem? hci)
      exact ev_call1 (t, c, n) (ea_cons (ev_var rfl) (ea_cons (ev_var rfl) ea_nil)) fun H3 e3 => ⟨rfl, e3 _ _ hT, b1, b2⟩
    · show (!true || (decide ((vs.length : Int) > 59) || !true)) = false
      rw [decide_eq_false (by omega)]; rfl
    · refine s_when (b := false) (fun H2 e2 Q2 q2 => ?_) (fun z => Bool.noConfusion z) fun _ H2 e2 => q _ H2 (e1.trans e2) rfl
      obtain ⟨ks, e3, e4, e5⟩ := al_rows hc.2
      have l1 : ks.length = vs.length := by rw [e3, List.length_map]
      have hS2 : SqL K H2 a vs := ex_l (e1.trans e2) hS
      refine ⟨_, rfl, a, ks, rfl, by rw [← e3]; exact hS2, fun p hp => st_of ((e1.trans e2) _ _ (e5 p hp)), by omega, fun S Ls hS3 h1 h2 => ⟨S, Ls, rfl, upd_same, fun h3 => ?_⟩⟩
      have eS : SqL K (upd H2 S (SetTO P w S Ls)) a vs := ex_l (Ex.new hS3) hS2
      have hl : ks.length ≤ Ls.length := by
        have nd2 : (ks.map (·.2)).Nodup := by
          rw [e4]
          refine List.Pairwise.map _ (fun a b z e => z ?_) hnd
          obtain ⟨a1, a2⟩ := a
          obtain ⟨b1, b2⟩ := b
          simp only [List.cons.injEq, and_true] at e
          exact Prod.ext (by simp only; omega) (by simp only; omega)
        have := nd_len nd2 (m := Ls.map (·.2)) fun x hx => by
          obtain ⟨p, hp, rfl⟩ := List.mem_map.mp hx
          exact h2 p hp
        rw [List.length_map, List.length_map] at this
        exact this
      refine ⟨_, rfl, a, vs, rfl, .inl eS, ?_⟩
      refine ⟨_, _, rfl, rfl, ?_⟩
      refine ⟨_, rfl, ?_⟩
      rw [decide_eq_false (by omega)]
      exact q2 _ (Ex.new hS3)
abbrev N_parts_in : List Str := ["many", "cables", "least", "part", "device"]
theorem sc_parts_in : FnScope N_parts_in ["many", "cables"] (defScope s_parts_in) := ⟨rfl, rfl, rfl, by decide +kernel, rfl, by decide +kernel, by decide +kernel⟩
def sp_parts_in : Sp := spP (fun (z : Nat × Addr × List Cab) vs H => vs = [iV z.1, .ref z.2.1] ∧ z.1 ≤ 60 ∧ CL z.2.2 (.ref z.2.1) H ∧ InN z.1 z.2.2) fun z => NLs (cls (lab z.2.2) z.1)
theorem ok_parts_in (M : Ms mg) (F : Df K mg "parts_in" s_parts_in) (c_joined_parts : Cal P w K mg base 1 "joined_parts" ["many", "cables"] sp_joined_parts) : Cal P w K mg base 2 "parts_in" ["many", "cables"] sp_parts_in := by
  refine mk_cal F sc_parts_in (fun vs H Q E h => ?_)
      (fun _ _ _ _ _ _ us hl => match us, hl with | [_, _], _ => rfl)
    (fun f cdv A outer s H vs Q E hr h => ⟨_,
      (pss_cons (ps_set (i := 2) sc_parts_in.nd rfl (by first | exact Or.inl rfl | exact Or.inr rfl) (pe_cal c_joined_parts hr (pa_cons (pv 0) (pa_cons (pv 1) pa_nil))))
        (pss_one (ps_ret (pe_lc (own := [("part", 3)]) (tt := tYes) rfl sc_parts_in.nd (pi_list (pe_callB (cr_sortedSet rfl) (by rfl) M.sorted (by decide +kernel) (pa_cons (pe_callTy (cr_setL rfl) (by rfl) M.set (by decide +kernel) (pa_cons (pv 2) pa_nil)) pa_nil))) (blkOk_by (own := [("part", 3)]) (N := N_parts_in) (sc := defScope s_parts_in) (by decide +kernel)) (fun _ _ _ _ _ => (pg_name (i := 3) sc_parts_in.nd rfl (by first | exact Or.inl rfl | exact Or.inr rfl))) (fun _ _ _ _ _ => pts_nil) (fun _ _ _ _ _ => (pe_lc (own := [("device", 4)]) rfl sc_parts_in.nd (pi_range1 rfl M.range (pa_cons (pv 0) pa_nil)) (blkOk_by (by kernel_rfl)) (fun _ _ _ _ _ => (pg_name (i := 4) sc_parts_in.nd rfl (by first | exact Or.inl rfl | exact Or.inr rfl))) (fun _ _ _ _ _ => pts_one (pt_cmpR op_eq (pe_ix (show IxR _ (rIxL K) from ix_list) (pv 2) (pv 4) (fun _ _ => rfl)) (pv 3) (nomark _))) (fun _ _ _ _ _ => (pv 4))))))))
    , ?_⟩)
  · obtain ⟨i, ⟨rfl, _⟩, _⟩ := h; rfl
  · obtain ⟨⟨n, a, L⟩, ⟨rfl, hn, hL, hin⟩, q⟩ := h
    simp only at hn hL hin q
    refine q_asgP (evp_call (n, a, L) mono_L (ea_cons (ev_var rfl) (ea_cons (ev_var rfl) ea_nil)) fun H1 e1 => ⟨rfl, hn, mono_CL _ _ _ e1 hL, hin⟩) fun v H1 e1 hv => ?_
    obtain ⟨p, rfl, hp⟩ := hv
    have hp1 := newp_is hp
    have hS : SqL K H1 p (fl n (lab L)) := sq_of hp1.2
    have hr1 : (reps (lab L) n).length ≤ n := by
      unfold reps
      have := List.length_filter_le (fun r => decide (lab L r = r)) (List.range n)
      rw [List.length_range] at this
      exact this
    have src := itc_new (K := K) (ev_sortedSetV (K := K) (wd := w) (σ := (start N_parts_in [iV n, V.ref a]).set 2 (some (V.ref p))) (H := H1) (ks := (List.range n).map (lab L)) (us := reps (lab L) n) (te := tVar 2) (ev_var rfl) (by rw [← fl_map]; exact hS) (range_asc _ _) (fun j => reps_all L n j) (by rw [List.length_map, List.length_range]; omega))
    rw [List.length_map] at src
    refine s_retP (evp_lcC (fun _ => true) (fun i => NL (one (lab L) n ((reps (lab L) n).getD i 0))) src (by omega) (fun _ => mono_NL) fun i x H2 e2 hi hx R k => k _ rfl et_yes fun _ => ?_) fun v H2 e2 k => q _ H2 (e1.trans e2) ?_
    · rw [List.getElem?_map, List.getElem?_eq_getElem hi] at hx
      cases hx
      have hg : (reps (lab L) n).getD i 0 = (reps (lab L) n)[i] := by rw [List.getD_eq_getElem?_getD, List.getElem?_eq_getElem hi]; rfl
      rw [hg]
      refine evp_ofL ?_
      have := el_lc (σ := (((start N_parts_in [iV n, V.ref a]).set 2 (some (V.ref p))).set 3 (some (iV (reps (lab L) n)[i])))) (H := H2) (vs := [4]) (te := tVar 4) (g := gName 4) (tt := tTest (tOp rEq (tOp (rIxL K) (tVar 2) (tVar 4)) (tVar 3))) (fun j => decide (lab L j = (reps (lab L) n)[i])) iV (itw_range1 (n := n) (ta := tCons (tVar 0) tNil) (ea_cons (ev_var rfl) ea_nil) (by omega)) (by omega) (fun _ _ => trivial) fun j y H3 e3 hj hy R k => k _ rfl ?_ fun _ => ?_
      · exact this
      · subst hy
        refine et_is (et_test (ev_op (ev_fl (ev_var rfl) (ev_var (v := iV j) rfl) (ex_l (e2.trans e3) hS) hj) (ev_var rfl) (rv_eq rfl))) ?_
        show decide (iV _ = iV _) = _
        rw [decide_eq_decide, iV_inj]
      · subst hy
        exact ev_var rfl
    · have e : ((List.range (reps (lab L) n).length).filter (fun _ => true)).map (fun i => NL (one (lab L) n ((reps (lab L) n).getD i 0))) = (cls (lab L) n).map NL := by
        rw [range_map (reps (lab L) n) _ (fun r => NL (one (lab L) n r)) (fun i r h => by rw [List.getD_eq_getElem?_getD, h]; rfl)]
        unfold cls
        rw [List.map_map]; rfl
      rw [e] at k
      exact mono_NLs _ _ _ (newp_mono e1 (Ex.refl _)) k
abbrev N_open_in : List Str := ["plugs", "cables", "used", "number", "taken"]
theorem sc_open_in : FnScope N_open_in ["plugs", "cables"] (defScope s_open_in) := ⟨rfl, rfl, rfl, by decide +kernel, rfl, by decide +kernel, by decide +kernel⟩
def sp_open_in : Sp := spP (fun (z : Addr × Addr × List Nat × List Cab) vs H => vs = [.ref z.1, .ref z.2.1] ∧ IsPl H z.1 z.2.2.1 ∧ CL z.2.2.2 (.ref z.2.1) H ∧ InN z.2.2.1.length z.2.2.2 ∧ ∀ x, x < z.2.2.1.length → deg z.2.2.2 x ≤ dd z.2.2.1 x) fun z => IsL (fl z.2.2.1.length (op (dd z.2.2.1) z.2.2.2))
theorem ok_open_in (M : Ms mg) (F : Df K mg "open_in" s_open_in) (c_plugs_in : Cal P w K mg base 1 "plugs_in" ["many", "cables"] sp_plugs_in) : Cal P w K mg base 2 "open_in" ["plugs", "cables"] sp_open_in := by
  refine mk_cal F sc_open_in (fun vs H Q E h => ?_)
      (fun _ _ _ _ _ _ us hl => match us, hl with | [_, _], _ => rfl)
    (fun f cdv A outer s H vs Q E hr h => ⟨_,
      (pss_cons (ps_set (i := 2) sc_open_in.nd rfl (by first | exact Or.inl rfl | exact Or.inr rfl) (pe_cal c_plugs_in hr (pa_cons (pe_callB call_len_seq (by rfl) M.len PySem.boot_len (pa_cons (pv 0) pa_nil)) (pa_cons (pv 1) pa_nil))))
        (pss_one (ps_ret (pe_lc (own := [("number", 3), ("taken", 4)]) (tt := tYes) rfl sc_open_in.nd (pi_zip (by rfl) M.zip (pa_cons (pv 0) (pa_cons (pv 2) pa_nil))) (blkOk_by (own := [("number", 3), ("taken", 4)]) (N := N_open_in) (sc := defScope s_open_in) (by decide +kernel)) (fun _ _ _ _ _ => (show PG _ _ (gTup K 2 _) from pg_tup rfl (pgs_cons (pg_name (i := 3) sc_open_in.nd rfl (by first | exact Or.inl rfl | exact Or.inr rfl)) (pgs_cons (pg_name (i := 4) sc_open_in.nd rfl (by first | exact Or.inl rfl | exact Or.inr rfl)) pgs_nil)))) (fun _ _ _ _ _ => pts_nil) (fun _ _ _ _ _ => (pe_op op_sub (pv 3) (pv 4)))))))
    , ?_⟩)
  · obtain ⟨i, ⟨rfl, _⟩, _⟩ := h; rfl
  · obtain ⟨⟨pa, a, ds, L⟩, ⟨rfl, hp, hL, hin, hdg⟩, q⟩ := h
    simp only at hp hL hin hdg q
    have hP : SqL K H pa (ds.map iV) := sq_of hp.1
    rw [fl_dd] at hP
    have hl := hp.2.2.1
    have lenP : Ev (tCB (rLenS K) (tCons (tVar 0) tNil)) (start N_open_in [V.ref pa, V.ref a]) H (iV ds.length) := ev_is (ev_len0 (ev_var rfl) hP) (by rw [fl_len]; rfl)
    refine q_asgP (evp_call (ds.length, a, L) mono_L (ea_cons lenP (ea_cons (ev_var rfl) ea_nil)) fun H1 e1 => ⟨rfl, hl, mono_CL _ _ _ e1 hL, hin⟩) fun v H1 e1 hv => ?_
    obtain ⟨p, rfl, hp1⟩ := hv
    have hp2 := newp_is hp1
    simp only at hp2
    have hU : SqL K H1 p (fl ds.length (deg L)) := sq_of hp2.2
    have hP1 := ex_l e1 hP
    have src := itw_zip (K := K) (σ := (start N_open_in [V.ref pa, V.ref a]).set 2 (some (V.ref p))) (H := H1) (ta := tCons (tVar 0) (tCons (tVar 2) tNil)) (ea_cons (ev_var rfl) (ea_cons (ev_var rfl) ea_nil)) hP1 hU (by rw [fl_len, fl_len])
    rw [fl_len] at src
    refine s_retP (evp_ofL (el_lc (fun _ => true) (fun i => iV (op (dd ds) L i)) src (by omega) (fun H' e => ⟨ex_l e hP1, ex_l e hU⟩) fun i x H2 e2 hi hx R k => ?_)) fun v H2 e2 k => q _ H2 (e1.trans e2) ?_
    · obtain ⟨T, x1, x2, rfl, y1, y2, hT⟩ := hx
      rw [fl_at hi] at y1 y2
      cases y1
      cases y2
      exact g_two hT (k _ rfl et_yes fun _ => ev_subN (ev_var rfl) (ev_var rfl) (hdg i hi))
    · rw [fl_given] at k
      exact mono_L _ _ _ (newp_mono e1 (Ex.refl _)) k
abbrev N_ring_in : List Str := ["many", "cables", "least", "index", "one", "two", "part", "other", "own"]
theorem sc_ring_in : FnScope N_ring_in ["many", "cables"] (defScope s_ring_in) := ⟨rfl, rfl, rfl, by decide +kernel, rfl, by decide +kernel, by decide +kernel⟩
def sp_ring_in : Sp := spP (fun (z : Nat × Addr × List Cab) vs H => vs = [iV z.1, .ref z.2.1] ∧ z.1 ≤ 60 ∧ CL z.2.2 (.ref z.2.1) H ∧ InN z.1 z.2.2 ∧ NoRing z.2.2) fun _ => Is .non
theorem ok_ring_in (M : Ms mg) (F : Df K mg "ring_in" s_ring_in) : Cal P w K mg base 1 "ring_in" ["many", "cables"] sp_ring_in := by
  refine mk_cal F sc_ring_in (fun vs H Q E h => ?_)
      (fun _ _ _ _ _ _ us hl => match us, hl with | [_, _], _ => rfl)
    (fun f cdv A outer s H vs Q E hr h => ⟨_,
      (pss_cons (ps_set (i := 2) sc_ring_in.nd rfl (by first | exact Or.inl rfl | exact Or.inr rfl) (pe_listRg rfl rfl M.list (prg_1 rfl M.range (pv 0))))
        (pss_cons (ps_for PassesOwn.never rfl (pi_enum (by rfl) M.enumerate (pa_cons (pv 1) pa_nil)) (pg_tup rfl (pgs_cons (pg_name (i := 3) sc_ring_in.nd rfl (by first | exact Or.inl rfl | exact Or.inr rfl)) (pgs_cons (pg_tup rfl (pgs_cons (pg_name (i := 4) sc_ring_in.nd rfl (by first | exact Or.inl rfl | exact Or.inr rfl)) (pgs_cons (pg_name (i := 5) sc_ring_in.nd rfl (by first | exact Or.inl rfl | exact Or.inr rfl)) pgs_nil))) pgs_nil)))
          (pss_cons (ps_if (pt_cmpR op_eq (pe_ix ix_list (pv 2) (pv 4) (fun _ _ => rfl)) (pe_ix ix_list (pv 2) (pv 5) (fun _ _ => rfl)) (nomark _))
          (pss_one (ps_ret (pv 3)))
          pss_nil)
        (pss_cons (ps_asg (pe_tup (pa_cons (pe_ix ix_list (pv 2) (pv 4) (fun _ _ => rfl)) (pa_cons (pe_ix ix_list (pv 2) (pv 5) (fun _ _ => rfl)) pa_nil))) (pg_tup rfl (pgs_cons (pg_name (i := 6) sc_ring_in.nd rfl (by first | exact Or.inl rfl | exact Or.inr rfl)) (pgs_cons (pg_name (i := 7) sc_ring_in.nd rfl (by first | exact Or.inl rfl | exact Or.inr rfl)) pgs_nil))))
        (pss_one (ps_setLc (i := 2) (own := [("own", 8)]) (tt := tYes) rfl sc_ring_in.nd rfl rfl (sw_true rfl rfl rfl (by decide +kernel)) (pi_list (pv 2)) (blkOk_by (own := [("own", 8)]) (N := N_ring_in) (sc := defScope s_ring_in) (by decide +kernel)) (fun _ _ _ _ _ => (pg_name (i := 8) sc_ring_in.nd rfl (by first | exact Or.inl rfl | exact Or.inr rfl))) (fun _ _ _ _ _ => pts_nil) (fun _ _ _ _ _ => (pe_ifExp (pt_cmpR op_eq (pv 8) (pv 7) (nomark _)) (pv 6) (pv 8))))))))
        (pss_one (ps_ret pe_non))))
    , ?_⟩)
  · obtain ⟨i, ⟨rfl, _⟩, _⟩ := h; rfl
  · obtain ⟨⟨n, a, L⟩, ⟨rfl, hn, hL, hin, hring⟩, q⟩ := h
    simp only at hn hL hin hring q
    obtain ⟨vs, hc⟩ := CLa.of hL
    have hvl := hc.len
    refine q_asgL (el_rng (ev_var rfl) (by omega)) fun p H1 hp e1 h1 => ?_
    simp only at h1
    refine q_for (itw_enum (K := K) (xs := vs) (ea_cons (ev_var rfl) ea_nil) (sq_of (e1 _ _ hc.1)))
      (fun i σ' H' => ∃ y3 y4 y5 y6 y7 y8 p', σ' = [some (iV n), some (.ref a), some (.ref p'), y3, y4, y5, y6, y7, y8] ∧ Ex H H' ∧ H' p' = some (.lst (fl n (lab2 (L.take i)))))
      (fun H2 e2 => ⟨none, none, none, none, none, none, p, rfl, e1.trans e2, e2 _ _ h1⟩) (fun i σ' H' ⟨_, _, _, _, _, _, _, _, e, _⟩ => sq_of (e _ _ hc.1)) (fun i x σ' H' H2 hi hw e3 hx => ?_) (fun σ' H' hw => ?_)
    · obtain ⟨y3, y4, y5, y6, y7, y8, p', rfl, ex, hf⟩ := hw
      obtain ⟨T, xc, rfl, hxc, hT⟩ := hx
      obtain ⟨c, t, hci, rfl, ht⟩ := (hc.mono (ex.trans e3)).item hxc
      obtain ⟨b1, b2⟩ := hin c (List.mem_of_getElem? hci)
      refine ⟨T, [iV i, .ref t], rfl, st_of hT, rfl, iV i, [.ref t], rfl, .ref t, [], rfl, ?_⟩
      refine ⟨t, [iV c.1, iV c.2], rfl, st_of ht, rfl, iV c.1, [iV c.2], rfl, iV c.2, [], rfl, rfl, rfl, ?_⟩
      have hS2 : SqL K H2 p' (fl n (lab2 (L.take i))) := sq_of (e3 _ _ hf)
      have ne := hring.two hci
      have k1 : ∀ σ2 : L2.St, σ2[2]? = some (some (.ref p')) → σ2[4]? = some (some (iV c.1)) → Ev (tOp (rIxL K) (tVar 2) (tVar 4)) σ2 H2 (iV (lab2 (L.take i) c.1)) := fun σ2 z1 z2 => ev_fl (ev_var z1) (ev_var z2) hS2 (by omega)
      have k2 : ∀ σ2 : L2.St, σ2[2]? = some (some (.ref p')) → σ2[5]? = some (some (iV c.2)) → Ev (tOp (rIxL K) (tVar 2) (tVar 5)) σ2 H2 (iV (lab2 (L.take i) c.2)) := fun σ2 z1 z2 => ev_fl (ev_var z1) (ev_var z2) hS2 b2
      refine q_when (b := false) (et_is (et_test (ev_op (k1 _ rfl rfl) (k2 _ rfl rfl) (rv_eq rfl))) (decide_eq_false fun z => ne (iV_inj.mp z))) (fun z => Bool.noConfusion z) fun _ H3 e4 => ?_
      have hS3 := ex_l e4 hS2
      have g1 : ∀ σ2 : L2.St, σ2[2]? = some (some (.ref p')) → σ2[4]? = some (some (iV c.1)) → Ev (tOp (rIxL K) (tVar 2) (tVar 4)) σ2 H3 (iV (lab2 (L.take i) c.1)) := fun σ2 z1 z2 => ev_fl (ev_var z1) (ev_var z2) hS3 (by omega)
      have g2 : ∀ σ2 : L2.St, σ2[2]? = some (some (.ref p')) → σ2[5]? = some (some (iV c.2)) → Ev (tOp (rIxL K) (tVar 2) (tVar 5)) σ2 H3 (iV (lab2 (L.take i) c.2)) := fun σ2 z1 z2 => ev_fl (ev_var z1) (ev_var z2) hS3 b2
      refine q_asgT (eu_tup (ea_cons (g1 _ rfl rfl) (ea_cons (g2 _ rfl rfl) ea_nil)) (by show 2 ≤ 100000; decide)) fun H4 e5 => ?_
      have hS4 := ex_l e5 hS3
      refine s_asgL (el_lc (fun _ => true) (fun x => iV (mg2 (lab2 (L.take i)) c x)) (itw_list (K := K) (ev_var rfl) hS4) (by rw [fl_len]; omega) (fun H' e => ex_l e hS4) fun j x H5 e6 hj hy R k => k _ rfl et_yes fun _ => ?_) fun r H5 hr e6 h5 => ?_
      · rw [fl_len] at hj
        rw [fl_at hj] at hy
        cases hy
        unfold mg2
        by_cases z : lab2 (L.take i) j = lab2 (L.take i) c.2
        · rw [if_pos z]
          exact ev_if (b := true) (et_is (et_test (ev_op (ev_var rfl) (ev_var rfl) (rv_eq rfl))) (decide_eq_true (by rw [z]))) (fun _ => ev_var rfl) (fun z => Bool.noConfusion z)
        · rw [if_neg z]
          exact ev_if (b := false) (et_is (et_test (ev_op (ev_var rfl) (ev_var rfl) (rv_eq rfl))) (decide_eq_false (fun z' => z (iV_inj.mp z')))) (fun z => Bool.noConfusion z) (fun _ => ev_var rfl)
      · refine ⟨_, _, _, _, _, _, r, rfl, (((ex.trans e3).trans e4).trans e5).trans e6, ?_⟩
        rw [h5, fl_len, fl_given]
        congr 2
        have : L.take (i + 1) = L.take i ++ [c] := by rw [List.take_add_one, hci]; rfl
        rw [this, lab2_snoc]
    · obtain ⟨y3, y4, y5, y6, y7, y8, p', rfl, ex, hf⟩ := hw
      exact s_ret ev_c fun H2 e2 => q _ H2 (ex.trans e2) rfl
/-- [e for y in xs], numbers -/
theorem el_map {σ : L2.St} {H : Hp} {tl te : TE} {vs : List Nat} {i : Nat} {p : Addr} {ps : List Nat} {g : Nat → Nat} (h : Ev tl σ H (.ref p)) (hs : SqL K H p (ps.map iV)) (hl : ps.length ≤ 1000) (hw : ∀ x : V, wipe ((wipe σ vs).set i (some x)) vs = wipe σ vs)
    (turn : ∀ y, y ∈ ps → ∀ H1, Ex H H1 → Ev te ((wipe σ vs).set i (some (iV y))) H1 (iV (g y))) : EvL (tLc (iList K tl) (gName i) tYes te vs) σ H ((ps.map g).map iV) := by
  have e : (ps.map g).map iV = given ps.length (fun _ => true) fun j => iV (g (ps.getD j 0)) := by
    unfold given
    rw [range_map ps _ (fun y => iV (g y)) fun i a h => by rw [List.getD_eq_getElem?_getD, h]; rfl, List.map_map]; rfl
  rw [e]
  have src := itw_list (K := K) h hs
  rw [List.length_map] at src
  refine el_lc (fun _ => true) (fun j => iV (g (ps.getD j 0))) src (by omega) (fun H' e => ex_l e hs) fun j x H1 e1 hj hx R k => ?_
  rw [List.getElem?_map, List.getElem?_eq_getElem hj] at hx
  cases hx
  have : ps.getD j 0 = ps[j] := by rw [List.getD_eq_getElem?_getD, List.getElem?_eq_getElem hj]; rfl
  rw [this] at k
  exact k _ (hw _) et_yes fun _ => turn _ (List.getElem_mem _) H1 e1
theorem two_reps {f : Nat → Nat} {n r : Nat} (h : 1 < (reps f n).length) : ∃ r', r' < n ∧ f r' = r' ∧ r' ≠ r := by
  by_cases z : ∃ r', r' < n ∧ f r' = r' ∧ r' ≠ r
  · exact z
  · have := nd_len (m := [r]) ((range_asc n fun r => decide (f r = r)).imp fun {a b} (q : a < b) => by omega) fun a ha => by
      obtain ⟨h1, h2⟩ := reps_mem.mp ha
      by_cases e : a = r
      · rw [e]; simp
      · exact absurd ⟨a, h1, h2, e⟩ z
    have e2 : (reps f n).length ≤ [r].length := this
    rw [List.length_singleton] at e2
    omega
abbrev N_paper_in : List Str := ["plugs", "cables", "open_plugs", "over", "ring", "parts", "closed", "device", "number", "part"]
theorem sc_paper_in : FnScope N_paper_in ["plugs", "cables"] (defScope s_paper_in) := ⟨rfl, rfl, rfl, by decide +kernel, rfl, by decide +kernel, by decide +kernel⟩
/-- plugs and known cables as the defs take them -/
structure Arg (H : Hp) (pa ca : Addr) (ds : List Nat) (L : List Cab) : Prop where
  pl : IsPl H pa ds
  cl : CL L (.ref ca) H
  sub : Sub ds.length (dd ds) L
theorem Arg.mono {H H' : Hp} {pa ca : Addr} {ds : List Nat} {L : List Cab} (h : Arg H pa ca ds L) (e : Ex H H') : Arg H' pa ca ds L := ⟨h.pl.mono e, mono_CL _ _ _ e h.cl, h.sub⟩
theorem Arg.n60 {H : Hp} {pa ca : Addr} {ds : List Nat} {L : List Cab} (h : Arg H pa ca ds L) : ds.length ≤ 60 := h.pl.2.2.1
theorem sum_iV (l : List Nat) : (l.map Int.ofNat).sum = ((l.sum : Nat) : Int) := sum_cast l
def sp_paper_in : Sp := spP (fun (z : Addr × Addr × List Nat × List Cab) vs H => vs = [.ref z.1, .ref z.2.1] ∧ Arg H z.1 z.2.1 z.2.2.1 z.2.2.2) fun _ => Is .non
theorem ok_paper_in (M : Ms mg) (F : Df K mg "paper_in" s_paper_in) (c_open_in : Cal P w K mg base 2 "open_in" ["plugs", "cables"] sp_open_in) (c_ring_in : Cal P w K mg base 1 "ring_in" ["many", "cables"] sp_ring_in) (c_parts_in : Cal P w K mg base 2 "parts_in" ["many", "cables"] sp_parts_in) : Cal P w K mg base 3 "paper_in" ["plugs", "cables"] sp_paper_in := by
  refine mk_cal F sc_paper_in (fun vs H Q E h => ?_)
      (fun _ _ _ _ _ _ us hl => match us, hl with | [_, _], _ => rfl)
    (fun f cdv A outer s H vs Q E hr h => ⟨_,
      (pss_cons (ps_set (i := 2) sc_paper_in.nd rfl (by first | exact Or.inl rfl | exact Or.inr rfl) (pe_cal c_open_in hr (pa_cons (pv 0) (pa_cons (pv 1) pa_nil))))
        (pss_cons (ps_setLc (i := 3) (own := [("device", 7), ("number", 8)]) rfl sc_paper_in.nd rfl rfl (sw_true rfl rfl rfl (by decide +kernel)) (pi_enum (by rfl) M.enumerate (pa_cons (pv 2) pa_nil)) (blkOk_by (own := [("device", 7), ("number", 8)]) (N := N_paper_in) (sc := defScope s_paper_in) (by decide +kernel)) (fun _ _ _ _ _ => (show PG _ _ (gTup K 2 _) from pg_tup rfl (pgs_cons (pg_name (i := 7) sc_paper_in.nd rfl (by first | exact Or.inl rfl | exact Or.inr rfl)) (pgs_cons (pg_name (i := 8) sc_paper_in.nd rfl (by first | exact Or.inl rfl | exact Or.inr rfl)) pgs_nil)))) (fun _ _ _ _ _ => pts_one (pt_cmpR op_lt (pv 8) pe_int (nomark _))) (fun _ _ _ _ _ => (pv 7)))
        (pss_cons (ps_if (pt_cmpR (op_neD hr.units) (pv 3) (pe_lst pa_nil) (nomark _))
          (pss_one (ps_ret (pe_tup (pa_cons pe_str (pa_cons (pe_ix ix_list (pv 3) pe_int (fun _ _ => rfl)) pa_nil)))))
          pss_nil)
        (pss_cons (ps_set (i := 4) sc_paper_in.nd rfl (by first | exact Or.inl rfl | exact Or.inr rfl) (pe_cal c_ring_in hr (pa_cons (pe_callB call_len_seq (by rfl) M.len PySem.boot_len (pa_cons (pv 0) pa_nil)) (pa_cons (pv 1) pa_nil))))
        (pss_cons (ps_if (pt_cmpR op_notN (pv 4) pe_non (nomark _))
          (pss_one (ps_ret (pe_tup (pa_cons pe_str (pa_cons (pv 4) pa_nil)))))
          pss_nil)
        (pss_cons (ps_set (i := 5) sc_paper_in.nd rfl (by first | exact Or.inl rfl | exact Or.inr rfl) (pe_cal c_parts_in hr (pa_cons (pe_callB call_len_seq (by rfl) M.len PySem.boot_len (pa_cons (pv 0) pa_nil)) (pa_cons (pv 1) pa_nil))))
        (pss_cons (ps_setLc (i := 6) (own := [("part", 9)]) rfl sc_paper_in.nd rfl rfl (sw_true rfl rfl rfl (by decide +kernel)) (pi_list (pv 5)) (blkOk_by (own := [("part", 9)]) (N := N_paper_in) (sc := defScope s_paper_in) (by decide +kernel)) (fun _ _ _ _ _ => (pg_name (i := 9) sc_paper_in.nd rfl (by first | exact Or.inl rfl | exact Or.inr rfl))) (fun _ _ _ _ _ => pts_one (pt_cmpR op_eq (pe_callB (show CallR _ _ (rSum K) from (cr_sum rfl)) (by rfl) M.sum (by decide +kernel) (pa_cons (pe_lc (own := [("device", 7)]) (tt := tYes) rfl sc_paper_in.nd (show PI _ _ _ (iList K _) from pi_list (pv 9)) (blkOk_by (by kernel_rfl)) (fun _ _ _ _ _ => (pg_name (i := 7) sc_paper_in.nd rfl (by first | exact Or.inl rfl | exact Or.inr rfl))) (fun _ _ _ _ _ => pts_nil) (fun _ _ _ _ _ => (pe_ix (show IxR _ (rIxL K) from ix_list) (pv 2) (pv 7) (fun _ _ => rfl)))) pa_nil)) pe_int (nomark _))) (fun _ _ _ _ _ => (pe_ix (show IxR _ (rIxL K) from ix_list) (pv 9) pe_int (fun _ _ => rfl))))
        (pss_one (ps_ret (pe_ifExp (PW.pt (pw_and (pt_cmpR op_gt (pe_callB call_len_seq (by rfl) M.len PySem.boot_len (pa_cons (pv 5) pa_nil)) pe_int (nomark _)) (pw_and1 (pt_cmpR (op_neD hr.units) (pv 6) (pe_lst pa_nil) (nomark _))))) (pe_tup (pa_cons pe_str (pa_cons (pe_ix ix_list (pv 6) pe_int (fun _ _ => rfl)) pa_nil))) pe_non))))))))))
    , ?_⟩)
  · obtain ⟨i, ⟨rfl, _⟩, _⟩ := h; rfl
  · obtain ⟨⟨pa, a, ds, L⟩, ⟨rfl, hA⟩, q⟩ := h
    simp only at hA q
    have hn := hA.n60
    refine q_asgP (evp_call (pa, a, ds, L) mono_L (ea_cons (ev_var rfl) (ea_cons (ev_var rfl) ea_nil)) fun H1 e1 => ⟨rfl, (hA.mono e1).pl, (hA.mono e1).cl, hA.sub.mem, hA.sub.dg⟩) fun v H1 e1 hv => ?_
    obtain ⟨p, rfl, hp1⟩ := hv
    have hp2 := newp_is hp1
    simp only at hp2
    have hO : SqL K H1 p (fl ds.length (op (dd ds) L)) := sq_of hp2.2
    have lenP : ∀ {σ : L2.St} {H' : Hp}, Ex H H' → σ[0]? = some (some (.ref pa)) → Ev (tCB (rLenS K) (tCons (tVar 0) tNil)) σ H' (iV ds.length) := fun e z => ev_is (ev_len0 (ev_var z) (ex_l e (sq_of hA.pl.1))) (by rw [List.length_map]; rfl)
    have src := itw_enum (K := K) (σ := (start N_paper_in [V.ref pa, V.ref a]).set 2 (some (V.ref p))) (ta := tCons (tVar 2) tNil) (ea_cons (ev_var rfl) ea_nil) hO
    rw [fl_len] at src
    refine q_asgL (el_lc (fun _ => false) (fun _ => .non) src (by omega) (fun H' e => ex_l e hO) fun i x H2 e2 hi hx R k => ?_) fun p3 H2 hp3 e2 h3 => ?_
    · obtain ⟨T, xc, rfl, hxc, hT⟩ := hx
      rw [fl_at hi] at hxc
      cases hxc
      exact g_two hT (k _ rfl (et_is (et_test (ev_op (ev_var (v := iV (op (dd ds) L i)) rfl) ev_c rv_I0)) (decide_eq_false (by omega))) fun z => Bool.noConfusion z)
    have h3' : H2 p3 = some (.lst (([] : List Nat).map iV)) := by
      rw [h3]
      unfold given
      rw [List.filter_eq_nil_iff.mpr fun _ _ => Bool.false_ne_true]; rfl
    have e12 := e1.trans e2
    refine q_when (b := false) (et_is (et_test (ev_neD (evd_val (d := listD natD []) (ev_var rfl) fun H' e => dp_NL ⟨p3, rfl, e _ _ h3'⟩) evd_nil (shaped_listD natD_lay (fun _ => by simp [natD, PyData.depth]) _) rfl)) rfl) (fun z => Bool.noConfusion z) fun _ H3 e3 => ?_
    have e13 := e12.trans e3
    refine q_asg (ev_call1 (ds.length, a, L) (ea_cons (lenP e13 rfl) (ea_cons (ev_var rfl) ea_nil)) fun H4 e => ⟨rfl, hn, (hA.mono (e13.trans e)).cl, hA.sub.mem, hA.sub.ring⟩) fun H4 e4 => ?_
    have e14 := e13.trans e4
    refine q_when (b := false) (et_test (ev_op (ev_var rfl) ev_c (rv_val fun H1 _ Q k => ⟨rfl, k⟩))) (fun z => Bool.noConfusion z) fun _ H5 e5 => ?_
    have e15 := e14.trans e5
    refine q_asgP (evp_call (ds.length, a, L) mono_NLs (ea_cons (lenP e15 rfl) (ea_cons (ev_var rfl) ea_nil)) fun H6 e => ⟨rfl, hn, (hA.mono (e15.trans e)).cl, hA.sub.mem⟩) fun v H6 e6 hv => ?_
    have e16 := e15.trans e6
    obtain ⟨c, rfl⟩ := hv.ref
    obtain ⟨vs, hc⟩ := NLa.of (mono_NLs _ _ _ newp_ex hv)
    simp only at hc
    have hcl := hc.len
    have hS : SqL K H6 c vs := sq_of hc.1
    have hle := hA.sub.cls_le
    have hO6 : SqL K H6 p (fl ds.length (op (dd ds) L)) := ex_l ((((e2.trans e3).trans e4).trans e5).trans e6) hO
    have fI : ∀ i, (decide ((((cls (lab L) ds.length).getD i []).map (op (dd ds) L)).sum = 0)) = decide ((((cls (lab L) ds.length).getD i []).map (op (dd ds) L)).sum = 0) := fun _ => rfl
    refine q_asgL (el_lc (fun i => decide ((((cls (lab L) ds.length).getD i []).map (op (dd ds) L)).sum = 0)) (fun i => iV (((cls (lab L) ds.length).getD i []).headD 0)) (itw_list (K := K) (ev_var rfl) hS) (by omega) (fun H' e => ex_l e hS) fun i x H7 e7 hi hx R k => ?_) fun p6 H7 hp6 e7 h6 => ?_
    · obtain ⟨ps, t, hps, rfl, ht⟩ := (hc.mono e7).item hx
      have hg : (cls (lab L) ds.length).getD i [] = ps := by rw [List.getD_eq_getElem?_getD, hps]; rfl
      rw [hg] at k
      obtain ⟨r, tl, r1, r2, r3, r4⟩ := cls_mem (List.mem_of_getElem? hps)
      have hpl : ps.length ≤ 1000 := by
        rw [r3]
        have := List.length_filter_le (fun x => decide (lab L x = r)) (List.range ds.length)
        rw [List.length_range] at this
        show (one (lab L) ds.length r).length ≤ 1000
        unfold one
        omega
      have hT : SqL K H7 t (ps.map iV) := sq_of ht
      refine k _ rfl (et_is (et_test (ev_op (ev_sumN (K := K) (ns := (ps.map (op (dd ds) L)).map Int.ofNat) (by
        rw [← map_iV]
        exact el_map (ev_var rfl) hT hpl (fun _ => rfl) fun y hy H8 e8 => ev_fl (ev_var rfl) (ev_var rfl) (ex_l (e7.trans e8) hO6) (by rw [r3] at hy; exact (one_mem.mp hy).1))) ev_c (rv_eq rfl))) ?_) fun _ => ?_
      · rw [sum_iV]
        show decide (iV _ = iV 0) = _
        rw [decide_eq_decide, iV_inj]
      · rw [r4, List.headD_cons]
        rw [r4] at hT
        exact ev_op (ev_var rfl) ev_c (rv_ixL hT (atI_nat (j := 0) rfl))
    · have e17 := e16.trans e7
      have hcl6 : ∃ cn : List Nat, H7 p6 = some (.lst (cn.map iV)) ∧ (1 < vs.length → cn = []) := by
        refine ⟨((List.range vs.length).filter fun i => decide ((((cls (lab L) ds.length).getD i []).map (op (dd ds) L)).sum = 0)).map fun i => ((cls (lab L) ds.length).getD i []).headD 0, ?_, fun h1 => ?_⟩
        · rw [h6]
          unfold given
          rw [List.map_map]; rfl
        · rw [List.filter_eq_nil_iff.mpr, List.map_nil]
          intro i hi
          have hi' : i < (cls (lab L) ds.length).length := by rw [← hcl]; exact List.mem_range.mp hi
          have hg : (cls (lab L) ds.length).getD i [] = (cls (lab L) ds.length)[i] := by rw [List.getD_eq_getElem?_getD, List.getElem?_eq_getElem hi']; rfl
          rw [hg]
          obtain ⟨r, tl, r1, r2, r3, r4⟩ := cls_mem (List.getElem_mem hi')
          rw [r3, one_sum]
          have : 1 ≤ Po ds.length (dd ds) L (lab L) r := hA.sub.open_ r r1 r2 (two_reps (by rw [hcl] at h1; unfold cls at h1; rw [List.length_map] at h1; exact h1))
          simp only [decide_eq_true_eq]
          omega
      obtain ⟨cn, h6', hno⟩ := hcl6
      refine s_ret (ev_if (b := false) (et_is (et_and (et_test (ev_op (ev_len0 (ev_var rfl) (ex_l e7 hS)) ev_c rv_I0)) fun _ => et_test (ev_neD (evd_val (d := listD natD cn) (ev_var rfl) fun H' e => dp_NL ⟨p6, rfl, e _ _ h6'⟩) evd_nil (shaped_listD natD_lay (fun _ => by simp [natD, PyData.depth]) _) rfl)) ?_) (fun z => Bool.noConfusion z) fun _ => ev_c) fun H8 e8 => q _ H8 (e17.trans e8) rfl
      by_cases z : 1 < vs.length
      · rw [hno z]
        show (_ && false) = false
        rw [Bool.and_false]
      · rw [decide_eq_false (by omega)]; rfl
abbrev N_need_known : List Str := ["plugs", "cables"]
theorem sc_need_known : FnScope N_need_known ["plugs", "cables"] (defScope s_need_known) := ⟨rfl, rfl, rfl, by decide +kernel, rfl, by decide +kernel, by decide +kernel⟩
def sp_need_known : Sp := spP (fun (z : Addr × Addr × List Nat × List Cab) vs H => vs = [.ref z.1, .ref z.2.1] ∧ Arg H z.1 z.2.1 z.2.2.1 z.2.2.2) fun _ => Is .non
theorem Arg.poss {H : Hp} {pa ca : Addr} {ds : List Nat} {L : List Cab} (h : Arg H pa ca ds L) : Poss ds := by
  constructor
  · intro d hd
    obtain ⟨i, hi, rfl⟩ := List.getElem_of_mem hd
    rw [dd_at hi]
    exact h.sub.pos i hi
  · have h1 := h.sub.sum
    have h2 := h.pl.2.1
    have e : S ds.length (dd ds) = ds.sum := by
      rw [← S_list]
      congr 1
      refine List.ext_getElem? fun i => ?_
      by_cases hi : i < ds.length
      · rw [List.getElem?_map, List.getElem?_range hi, List.getElem?_eq_getElem hi, dd_at hi]; rfl
      · rw [List.getElem?_eq_none (by rw [List.length_map, List.length_range]; omega), List.getElem?_eq_none (by omega)]
    omega
theorem ok_need_known (M : Ms mg) (F : Df K mg "need_known" s_need_known) (c_need_plugs : Cal P w K mg base 4 "need_plugs" ["plugs"] sp_need_plugs) (c_need_cables : CalD P w K mg base 4 "need_cables" ["many", "thing", "most"] [.int 59] sp_need_cables) (c_need_net : Cal P w K mg base 3 "need_net" ["plugs"] sp_need_net) : Cal P w K mg base 5 "need_known" ["plugs", "cables"] sp_need_known := by
  refine mk_cal F sc_need_known (fun vs H Q E h => ?_)
      (fun _ _ _ _ _ _ us hl => match us, hl with | [_, _], _ => rfl)
    (fun f cdv A outer s H vs Q E hr h => ⟨_,
      (pss_cons (ps_expr (pe_cal c_need_plugs hr (pa_cons (pv 0) pa_nil)))
        (pss_cons (ps_expr (pe_calD c_need_cables hr (pa_cons (pe_callB call_len_seq (by rfl) M.len PySem.boot_len (pa_cons (pv 0) pa_nil)) (pa_cons (pv 1) pa_nil))))
        (pss_one (ps_expr (pe_cal c_need_net hr (pa_cons (pv 0) pa_nil))))))
    , ?_⟩)
  · obtain ⟨i, ⟨rfl, _⟩, _⟩ := h; rfl
  · obtain ⟨⟨pa, a, ds, L⟩, ⟨rfl, hA⟩, q⟩ := h
    simp only at hA q
    have hn := hA.n60
    refine q_drop (ev_call1 (pa, ds) (ea_cons (ev_var rfl) ea_nil) fun H1 e => ⟨rfl, hA.pl.mono e⟩) fun H1 e1 => ?_
    refine q_drop (ev_callD1 (ds.length, a, L) (ea_cons (ev_is (ev_len0 (ev_var rfl) (ex_l e1 (sq_of hA.pl.1))) (by rw [List.length_map]; rfl)) (ea_cons (ev_var rfl) ea_nil)) fun H2 e => ⟨rfl, (hA.mono (e1.trans e)).cl, hA.sub.mem, hA.sub.nd, by have := hA.sub.len; show L.length ≤ 59; omega⟩) fun H2 e2 => ?_
    exact s_drop (ev_call1 (pa, ds) (ea_cons (ev_var rfl) ea_nil) fun H3 e => ⟨rfl, hA.pl.mono ((e1.trans e2).trans e), hA.poss⟩) fun H3 e3 => q _ H3 ((e1.trans e2).trans e3) rfl
abbrev N_need_held : List Str := ["plugs", "cables"]
theorem sc_need_held : FnScope N_need_held ["plugs", "cables"] (defScope s_need_held) := ⟨rfl, rfl, rfl, by decide +kernel, rfl, by decide +kernel, by decide +kernel⟩
theorem ok_need_held (F : Df K mg "need_held" s_need_held) (c_need_known : Cal P w K mg base 5 "need_known" ["plugs", "cables"] sp_need_known) (c_paper_in : Cal P w K mg base 3 "paper_in" ["plugs", "cables"] sp_paper_in) : Cal P w K mg base 6 "need_held" ["plugs", "cables"] sp_need_known := by
  refine mk_cal F sc_need_held (fun vs H Q E h => ?_)
      (fun _ _ _ _ _ _ us hl => match us, hl with | [_, _], _ => rfl)
    (fun f cdv A outer s H vs Q E hr h => ⟨_,
      (pss_cons (ps_expr (pe_cal c_need_known hr (pa_cons (pv 0) (pa_cons (pv 1) pa_nil))))
        (pss_one (ps_if (pt_cmpR op_notN (pe_cal c_paper_in hr (pa_cons (pv 0) (pa_cons (pv 1) pa_nil))) pe_non (nomark _))
          pss_never
          pss_nil)))
    , ?_⟩)
  · obtain ⟨i, ⟨rfl, _⟩, _⟩ := h; rfl
  · obtain ⟨⟨pa, a, ds, L⟩, ⟨rfl, hA⟩, q⟩ := h
    simp only at hA q
    refine q_drop (ev_call1 (pa, a, ds, L) (ea_cons (ev_var rfl) (ea_cons (ev_var rfl) ea_nil)) fun H1 e => ⟨rfl, hA.mono e⟩) fun H1 e1 => ?_
    exact s_when (b := false) (et_test (ev_op (ev_call1 (pa, a, ds, L) (ea_cons (ev_var rfl) (ea_cons (ev_var rfl) ea_nil)) fun H2 e => ⟨rfl, hA.mono (e1.trans e)⟩) ev_c (rv_val fun H1 _ Q k => ⟨rfl, k⟩))) (fun z => Bool.noConfusion z) fun _ H2 e2 => q _ H2 (e1.trans e2) rfl
end
end Ly
end
section
set_option Elab.async false
set_option linter.all false
set_option maxRecDepth 100000
set_option maxHeartbeats 4000000
/-! The walk: shares. -/
namespace Ly
open PySem PySem.Spec PyProof.Rows L2 Evl Hd Pn
/-- a row: a number and its top; a triple -/
def PR (r : Nat × Nat) : Ph := IsU [iV r.1, iV r.2]
def TR (t : Nat × Nat × Nat) : Ph := IsU [iV t.1, iV t.2.1, iV t.2.2]
theorem chI_eq {n k : Nat} : chI n (k : Int) = ch n k := by
  unfold chI
  by_cases h : k ≤ n
  · rw [if_pos ⟨by omega, by omega⟩, Int.toNat_natCast]
  · rw [if_neg (by omega), ch_out (by omega)]
theorem chI_neg {n : Nat} {t : Int} (h : t < 0) : chI n t = 0 := by
  unfold chI
  rw [if_neg (by omega)]
section
variable {K : PySem.W.Frag} {σ : L2.St} {H : Hp} {te : TE} {tz : TS} {D : Ends} {Φ Ψ : Ph}
theorem q_asgTP {i j : Nat} (h : EvP te σ H (UU [Φ, Ψ])) (m : Mono Φ) (m' : Mono Ψ) (k : ∀ x y H1, Ex H H1 → Φ x (newp H H1) → Ψ y (newp H H1) → tz D ((σ.set i (some x)).set j (some y)) H1) : tSeq (tAsg te (gTup K 2 (gCons (gName i) (gCons (gName j) gNil)))) tz D σ H :=
  h H (Ex.refl H) _ fun v H1 e hv => by
    obtain ⟨p, vs, rfl, h1, h2⟩ := hv
    cases h2 with
    | cons a b =>
      cases b with
      | cons b c =>
        cases c
        exact ⟨p, _, rfl, st_of (newp_ex _ _ h1), rfl, _, _, rfl, _, [], rfl, rfl, k _ _ H1 e a b⟩
end
theorem mono2 {Φ Ψ : Ph} (m : Mono Φ) (m' : Mono Ψ) : ∀ X ∈ [Φ, Ψ], Mono X := fun X hX => by
  rcases List.mem_cons.mp hX with rfl | hX
  · exact m
  · rw [List.mem_singleton.mp hX]; exact m'
theorem mono1 {Φ : Ph} (m : Mono Φ) : ∀ X ∈ [Φ], Mono X := fun X hX => by rw [List.mem_singleton.mp hX]; exact m
theorem al_item {α : Type} {g : α → Ph} {l : List α} {vs : List V} {G : Hp} (h : Al (l.map g) vs G) {i : Nat} {x : V} (e : vs[i]? = some x) : ∃ a, l[i]? = some a ∧ g a x G := by
  obtain ⟨Φ, e1, k⟩ := h.get e
  rw [List.getElem?_map] at e1
  cases e2 : l[i]? with
  | none => rw [e2] at e1; cases e1
  | some a => rw [e2] at e1; cases e1; exact ⟨a, rfl, k⟩
theorem lc_all {α : Type} (l : List α) (F : Nat → Ph) (g : α → Ph) (h : ∀ i a, l[i]? = some a → F i = g a) : ((List.range l.length).filter fun _ => true).map F = l.map g := range_map l F g h
section
variable {P : Program} {w : World} {K : PySem.W.Frag} {mg : Str → Option Value} {base : Heap}
abbrev N_tops_within : List Str := ["size", "total", "many", "rows", "number", "row"]
theorem sc_tops_within : FnScope N_tops_within ["size", "total", "many"] (defScope s_tops_within) := ⟨rfl, rfl, rfl, by decide +kernel, rfl, by decide +kernel, by decide +kernel⟩
def sp_tops_within : Sp := spP (fun (z : Nat × Nat × Nat × Int) vs H => vs = [iV z.1, .int z.2.2.2, iV (z.1 + z.2.1)] ∧ 1 ≤ z.1 ∧ z.1 + z.2.1 ≤ 60 ∧ (z.2.1 ≠ 0 → z.2.2.2 = (z.1 : Int) + z.2.2.1)) fun z => UU [LL ((rows z.1 z.2.1 z.2.2.1).map PR), Is (iV (bot z.1 z.2.1 z.2.2.1))]
theorem mono_PR {r : Nat × Nat} : Mono (PR r) := mono_U
theorem mono_TR {r : Nat × Nat × Nat} : Mono (TR r) := mono_U
theorem ok_tops_within (M : Ms mg) (F : Df K mg "tops_within" s_tops_within) (c_choices : Cal P w K mg base 1 "choices" ["many", "taken"] sp_choices) : Cal P w K mg base 2 "tops_within" ["size", "total", "many"] sp_tops_within := by
  refine mk_cal F sc_tops_within (fun vs H Q E h => ?_)
      (fun _ _ _ _ _ _ us hl => match us, hl with | [_, _, _], _ => rfl)
    (fun f cdv A outer s H vs Q E hr h => ⟨_,
      (pss_cons (ps_if (pt_cmpR op_eq (pv 0) (pv 2) (nomark _))
          (pss_one (ps_ret (pe_tup (pa_cons (pe_lst (pa_cons (pe_tup (pa_cons (pe_op op_sub (pv 2) pe_int) (pa_cons pe_int pa_nil))) pa_nil)) (pa_cons pe_int pa_nil)))))
          pss_nil)
        (pss_cons (ps_setLc (i := 3) (own := [("number", 4)]) (tt := tYes) rfl sc_tops_within.nd rfl rfl (sw_true rfl rfl rfl (by decide +kernel)) (pi_range1 rfl M.range (pa_cons (pv 0) pa_nil)) (blkOk_by (own := [("number", 4)]) (N := N_tops_within) (sc := defScope s_tops_within) (by decide +kernel)) (fun _ _ _ _ _ => (pg_name (i := 4) sc_tops_within.nd rfl (by first | exact Or.inl rfl | exact Or.inr rfl))) (fun _ _ _ _ _ => pts_nil) (fun _ _ _ _ _ => (pe_tup (pa_cons (pv 4) (pa_cons (pe_op op_mul (pe_cal c_choices hr (pa_cons (pe_op op_sub (pv 0) pe_int) (pa_cons (pv 4) pa_nil))) (pe_cal c_choices hr (pa_cons (pe_op op_sub (pe_op op_sub (pv 2) (pv 0)) pe_int) (pa_cons (pe_op op_sub (pe_op op_sub (pv 1) (pv 0)) (pv 4)) pa_nil)))) pa_nil)))))
        (pss_one (ps_ret (pe_tup (pa_cons (pe_lc (own := [("row", 5)]) rfl sc_tops_within.nd (pi_list (pv 3)) (blkOk_by (own := [("row", 5)]) (N := N_tops_within) (sc := defScope s_tops_within) (by decide +kernel)) (fun _ _ _ _ _ => (pg_name (i := 5) sc_tops_within.nd rfl (by first | exact Or.inl rfl | exact Or.inr rfl))) (fun _ _ _ _ _ => pts_one (pt_cmpR op_gt (pe_ix (show IxR _ (rIxT K) from ix_tup) (pv 5) pe_int (fun _ _ => rfl)) pe_int (nomark _))) (fun _ _ _ _ _ => (pv 5))) (pa_cons (pe_cal c_choices hr (pa_cons (pe_op op_sub (pv 2) pe_int) (pa_cons (pe_op op_sub (pv 1) (pv 0)) pa_nil))) pa_nil)))))))
    , ?_⟩)
  · obtain ⟨i, ⟨rfl, _⟩, _⟩ := h; rfl
  · obtain ⟨⟨a, ao, b, tot⟩, ⟨rfl, h1, h60, htot⟩, q⟩ := h
    simp only at h1 h60 htot q
    by_cases h0 : ao = 0
    · subst h0
      refine q_when (b := true) (et_is (et_test (ev_op (ev_var rfl) (ev_var rfl) (rv_eq rfl))) (decide_eq_true rfl)) (fun _ H1 e1 => ?_) (fun z => Bool.noConfusion z)
      refine s_retP (Φ := UU [LL ((rows a 0 b).map PR), Is (iV (bot a 0 b))]) (evp_tup (fun Ψ hm => ?_) (epa_cons (mono_LL (mem_map_mono (fun _ => mono_PR) _)) (fun Ψ hm => ?_) ?_ (epa_cons mono_is (fun _ h => nomatch h) (evp_of (ev_c (v := .int 1))) epa_nil)) (by show 2 ≤ 100000; decide)) fun v H2 e2 k => q v H2 (e1.trans e2) (mono_UU (fun Ψ hm => ?_) _ _ _ (newp_mono e1 (Ex.refl _)) k)
      · rcases List.mem_cons.mp hm with rfl | hm
        · exact mono_LL (mem_map_mono (fun _ => mono_PR) _)
        · rw [List.mem_singleton.mp hm]; exact mono_is
      · rw [List.mem_singleton.mp hm]; exact mono_is
      · refine evp_lst (Φs := [PR (a - 1, 1)]) (fun Ψ hm => by rw [List.mem_singleton.mp hm]; exact mono_PR) (epa_cons mono_PR (fun _ h => nomatch h) (evp_ofU (eu_tup (ea_cons (ev_subN (ev_var (v := iV a) rfl) (ev_c (v := iV 1)) h1) (ea_cons (ev_c (v := iV 1)) ea_nil)) (by show 2 ≤ 100000; decide))) epa_nil) (by show 1 ≤ 100000; decide)
      · rcases List.mem_cons.mp hm with rfl | hm
        · exact mono_LL (mem_map_mono (fun _ => mono_PR) _)
        · rw [List.mem_singleton.mp hm]; exact mono_is
    · obtain rfl := htot h0
      refine q_when (b := false) (et_is (et_test (ev_op (ev_var rfl) (ev_var rfl) (rv_eq rfl))) (decide_eq_false fun z => by have := iV_inj.mp (show iV a = iV (a + ao) from z); omega)) (fun z => Bool.noConfusion z) fun _ H1 e1 => ?_
      refine q_asgP (evp_lc (fun _ => true) (fun x => PR (x, ch (a - 1) x * (if x ≤ b then ch (ao - 1) (b - x) else 0))) (itw_range1 (n := a) (ta := tCons (tVar 0) tNil) (ea_cons (ev_var rfl) ea_nil) (by omega)) (by omega) (fun _ _ => trivial) (fun _ => mono_PR) fun x y H2 e2 hx hy R k => k _ rfl et_yes fun _ => ?_) fun v H2 e2 hv => ?_
      · subst hy
        have k1 : ∀ σ : L2.St, σ[0]? = some (some (iV a)) → σ[4]? = some (some (iV x)) → Ev (tCall sp_choices [] E0 (tCons (tOp (rI0 fun i j => V.int (i - j)) (tVar 0) (tC (V.int 1))) (tCons (tVar 4) tNil))) σ H2 (iV (ch (a - 1) x)) := fun σ z0 z4 =>
          ev_is (ev_call1 (a - 1, (x : Int)) (ea_cons (ev_subN (ev_var z0) (ev_c (v := iV 1)) h1) (ea_cons (ev_var z4) ea_nil)) fun _ _ => ⟨rfl, by show a - 1 ≤ 100; omega⟩) (by rw [chI_eq])
        have k2 : ∀ σ : L2.St, σ[0]? = some (some (iV a)) → σ[1]? = some (some (.int ((a : Int) + b))) → σ[2]? = some (some (iV (a + ao))) → σ[4]? = some (some (iV x)) → Ev (tCall sp_choices [] E0 (tCons (tOp (rI0 fun i j => V.int (i - j)) (tOp (rI0 fun i j => V.int (i - j)) (tVar 2) (tVar 0)) (tC (V.int 1))) (tCons (tOp (rI0 fun i j => V.int (i - j)) (tOp (rI0 fun i j => V.int (i - j)) (tVar 1) (tVar 0)) (tVar 4)) tNil))) σ H2 (iV (if x ≤ b then ch (ao - 1) (b - x) else 0)) := fun σ z0 z1 z2 z4 =>
          ev_is (ev_call1 (a + ao - a - 1, (a : Int) + b - a - x) (ea_cons (ev_subN (ev_subN (ev_var z2) (ev_var z0) (by omega)) (ev_c (v := iV 1)) (by omega)) (ea_cons (ev_op (ev_op (ev_var z1) (ev_var (v := .int (a : Int)) z0) rv_I0) (ev_var (v := .int (x : Int)) z4) rv_I0) ea_nil)) fun _ _ => ⟨rfl, by show a + ao - a - 1 ≤ 100; omega⟩) (by
            show iV (chI (a + ao - a - 1) ((a : Int) + b - a - x)) = _
            rw [show a + ao - a - 1 = ao - 1 by omega]
            by_cases z : x ≤ b
            · rw [if_pos z, show (a : Int) + b - a - x = ((b - x : Nat) : Int) by omega, chI_eq]
            · rw [if_neg z, chI_neg (by omega)])
        have lt : (if x ≤ b then ch (ao - 1) (b - x) else 0) < 2 ^ 64 := by
          have h2 := ch_le (ao - 1) (b - x)
          have h3 : 2 ^ (ao - 1) < 2 ^ 64 := Nat.pow_lt_pow_right (by decide) (by omega)
          split <;> omega
        exact evp_ofU (eu_tup (ea_cons (ev_var rfl) (ea_cons (ev_mulN (k1 _ rfl rfl) (k2 _ rfl rfl rfl rfl) lt) ea_nil)) (by show 2 ≤ 100000; decide))
      · have e0 : ((List.range a).filter fun _ => true).map (fun x => PR (x, ch (a - 1) x * (if x ≤ b then ch (ao - 1) (b - x) else 0))) = ((List.range a).map fun x => (x, ch (a - 1) x * (if x ≤ b then ch (ao - 1) (b - x) else 0))).map PR := by
          rw [List.filter_eq_self.mpr fun _ _ => rfl, List.map_map]; rfl
        rw [e0] at hv
        have hrow : rows a ao b = ((List.range a).map fun x => (x, ch (a - 1) x * (if x ≤ b then ch (ao - 1) (b - x) else 0))).filter fun r => decide (0 < r.2) := by
          unfold rows; rw [if_neg h0]
        generalize hr0 : ((List.range a).map fun x => (x, ch (a - 1) x * (if x ≤ b then ch (ao - 1) (b - x) else 0))) = r0 at hv hrow
        have hr0l : r0.length = a := by rw [← hr0, List.length_map, List.length_range]
        obtain ⟨p, vs, rfl, hp, hal⟩ := hv
        have hp2 := newp_is hp
        have hvl : vs.length = r0.length := by rw [hal.length, List.length_map]
        have hal2 : Al (r0.map PR) vs H2 := hal.mono newp_ex (mem_map_mono (fun _ => mono_PR) _)
        have hS : SqL K H2 p vs := sq_of hp2.2
        have lst2 := el_lc (σ := (start N_tops_within [iV a, .int ((a : Int) + b), iV (a + ao)]).set 3 (some (V.ref p))) (H := H2) (te := tVar 5) (g := gName 5) (vs := [5]) (tt := tTest (tOp (rI0 fun i j => V.bl (decide (j < i))) (tOp (rIxT K) (tVar 5) (tC (V.int 1))) (tC (V.int 0)))) (fun i => decide (0 < (r0.getD i (0, 0)).2)) (fun i => vs.getD i .non) (itw_list (K := K) (tl := tVar 3) (ev_var rfl) hS) (by omega) (fun H' e => ex_l e hS) fun i x H3 e3 hi hx R k => by
          obtain ⟨r, hr, t, rfl, ht⟩ := al_item (hal2.mono e3 (mem_map_mono (fun _ => mono_PR) _)) hx
          have g1 : r0.getD i (0, 0) = r := by rw [List.getD_eq_getElem?_getD, hr]; rfl
          have g2 : vs.getD i .non = .ref t := by rw [List.getD_eq_getElem?_getD, hx]; rfl
          rw [g1, g2] at k
          refine k _ rfl (et_is (et_test (ev_op (ev_op (ev_var rfl) ev_c (rv_ixT (st_of ht) (atI_nat (j := 1) rfl))) ev_c rv_I0)) ?_) fun _ => ev_var rfl
          rw [decide_eq_decide]
          omega
        have k3 : ∀ σ : L2.St, σ[0]? = some (some (iV a)) → σ[1]? = some (some (.int ((a : Int) + b))) → σ[2]? = some (some (iV (a + ao))) → Ev (tCall sp_choices [] E0 (tCons (tOp (rI0 fun i j => V.int (i - j)) (tVar 2) (tC (V.int 2))) (tCons (tOp (rI0 fun i j => V.int (i - j)) (tVar 1) (tVar 0)) tNil))) σ H2 (iV (bot a ao b)) := fun σ z0 z1 z2 =>
          ev_is (ev_call1 (a + ao - 2, (a : Int) + b - a) (ea_cons (ev_subN (ev_var z2) (ev_c (v := iV 2)) (by omega)) (ea_cons (ev_op (ev_var z1) (ev_var (v := .int (a : Int)) z0) rv_I0) ea_nil)) fun _ _ => ⟨rfl, by show a + ao - 2 ≤ 100; omega⟩) (by
            show iV (chI (a + ao - 2) ((a : Int) + b - a)) = _
            rw [show (a : Int) + b - a = ((b : Nat) : Int) by omega, chI_eq]
            unfold bot
            rw [if_neg h0])
        refine s_retP (evp_tup (mono2 mono_L mono_is) (epa_cons mono_L (mono1 mono_is) (evp_ofL lst2) (epa_cons mono_is (fun _ h => nomatch h) (evp_of (k3 _ rfl rfl rfl)) epa_nil)) (by show 2 ≤ 100000; decide)) fun v H3 e3 k => q v H3 ((e1.trans e2).trans e3) ?_
        obtain ⟨T, ws, rfl, hT, hw⟩ := k
        have e12 := e1.trans e2
        refine ⟨T, ws, rfl, newp_mono e12 (Ex.refl _) _ _ hT, ?_⟩
        cases hw with
        | cons w1 w2 =>
          refine .cons ?_ (w2.mono (newp_mono e12 (Ex.refl _)) (mono1 mono_is))
          obtain ⟨pl, rfl, hpl⟩ := w1
          refine ⟨pl, _, rfl, newp_mono e12 (Ex.refl _) _ _ hpl, ?_⟩
          rw [given_zip r0 vs hvl _ (fun r => decide (0 < r.2)) fun i r h => by rw [List.getD_eq_getElem?_getD, h]; rfl, hrow]
          exact al_filter _ (hal.mono (newp_mono e1 e3) (mem_map_mono (fun _ => mono_PR) _))
theorem bot_pos {a ao b : Nat} {r : Nat × Nat} (h : r ∈ rows a ao b) : 0 < bot a ao b := by
  unfold rows at h
  unfold bot
  split at h
  · rename_i z
    rw [if_pos z]; exact Nat.zero_lt_one
  · rename_i z
    rw [if_neg z]
    obtain ⟨h1, h2⟩ := List.mem_filter.mp h
    obtain ⟨x, hx, rfl⟩ := List.mem_map.mp h1
    have hxa := List.mem_range.mp hx
    have h3 := of_decide_eq_true h2
    simp only at h3
    refine ch_pos ?_
    by_cases hb : x ≤ b
    · rw [if_pos hb] at h3
      by_cases hc : ao - 1 < b - x
      · rw [ch_out hc, Nat.mul_zero] at h3; omega
      · omega
    · rw [if_neg hb, Nat.mul_zero] at h3; omega
theorem bot_lt {a ao b : Nat} (h : a + ao ≤ 60) : bot a ao b < 2 ^ 200 := by
  unfold bot
  split
  · decide
  · exact Nat.lt_of_le_of_lt (ch_le _ _) (Nat.pow_lt_pow_right (by decide) (by omega))
theorem ev_lenL {σ : L2.St} {H : Hp} {te : TE} {xs : List V} (h : EvL te σ H xs) : Ev (tCB (rLenS K) (tCons te tNil)) σ H (.int (xs.length : Int)) := fun H1 e Q q => h H1 e _ fun p H2 _ e2 hp => ⟨p, xs, rfl, .inl (sq_of hp), q H2 e2⟩
theorem evu_ofp {σ : L2.St} {H : Hp} {te : TE} {xs : List V} (h : EvP te σ H (IsU xs)) : EvU te σ H xs := fun H1 e Q q => h H1 e Q fun v H2 e2 ⟨p, k1, k2⟩ => by
  subst k1
  obtain ⟨a, b⟩ := newp_is k2
  exact q p H2 a e2 b
theorem ea_star {σ : L2.St} {H : Hp} {te : TE} {xs : List V} (h : EvU te σ H xs) : EvA (StX.tStar K te tNil) σ H xs := fun H1 e Q q => h H1 e _ fun p H2 hp e2 h2 => ⟨p, xs, rfl, .inl (st_of h2), by
  show Q (xs ++ []) H2
  rw [List.append_nil]; exact q H2 e2⟩
abbrev N_within_shares_with : List Str := ["plugs", "cables", "group", "parts", "open_plugs", "inner", "known", "rows", "bottom", "part", "number", "top", "cable", "device"]
theorem sc_within_shares_with : FnScope N_within_shares_with ["plugs", "cables", "group"] (defScope s_within_shares_with) := ⟨rfl, rfl, rfl, by decide +kernel, rfl, by decide +kernel, by decide +kernel⟩
structure Grp (H : Hp) (ga : Addr) (ds : List Nat) (L : List Cab) (s : Nat → Bool) : Prop where
  gl : H ga = some (.lst ((gr ds.length L s).map iV))
  some : 1 ≤ cA ds.length (dd ds) (lab L) s
theorem Grp.mono {H H' : Hp} {ga : Addr} {ds : List Nat} {L : List Cab} {s : Nat → Bool} (h : Grp H ga ds L s) (e : Ex H H') : Grp H' ga ds L s := ⟨e _ _ h.gl, h.some⟩
theorem gr_mem {n : Nat} {L : List Cab} {s : Nat → Bool} {v : Nat} : v ∈ gr n L s ↔ v < n ∧ s (lab L v) = true := by
  unfold gr
  rw [List.mem_filter, List.mem_range]
theorem Grp.isGr {H : Hp} {ga : Addr} {ds : List Nat} {L : List Cab} {s : Nat → Bool} (h : Grp H ga ds L s) (hs : Sub ds.length (dd ds) L) (hn : ds.length ≤ 60) : IsGr H ds.length ga (gr ds.length L s) := by
  refine ⟨h.gl, range_asc _ _, fun v hv => (gr_mem.mp hv).1, fun e => ?_, hn⟩
  have h1 := h.some
  rw [hs.cA] at h1
  obtain ⟨r, hr, q⟩ := S_pos (Nat.lt_of_lt_of_le Nat.zero_lt_one h1)
  have a1 : (decide (lab L r = r) && s r) = true := by
    cases e : (decide (lab L r = r) && s r) with
    | true => rfl
    | false => rw [e] at q; simp at q
  rw [Bool.and_eq_true, decide_eq_true_eq] at a1
  have : r ∈ gr ds.length L s := gr_mem.mpr ⟨hr, by rw [a1.1]; exact a1.2⟩
  rw [e] at this
  cases this
/-- what is told -/
def told (ds : List Nat) (L : List Cab) (s : Nat → Bool) : List (Nat × Nat × Nat) := tld (known ds.length L s) (cA ds.length (dd ds) (lab L) s) (cA ds.length (dd ds) (lab L) fun r => !s r) (bA ds.length (dd ds) L (lab L) s)
def sp_within : Sp := spP (fun (z : Addr × Addr × Addr × List Nat × List Cab × (Nat → Bool)) vs H => vs = [.ref z.1, .ref z.2.1, .ref z.2.2.1] ∧ Arg H z.1 z.2.1 z.2.2.2.1 z.2.2.2.2.1 ∧ Grp H z.2.2.1 z.2.2.2.1 z.2.2.2.2.1 z.2.2.2.2.2) fun z => LL ((told z.2.2.2.1 z.2.2.2.2.1 z.2.2.2.2.2).map TR)
theorem mk_fn {x : Str} {st : Stmt} {N ps : List Str} {k : Nat} {sp : Sp} {f : Addr} {fd : FuncData} (F : Hd.FnP K x st f fd) (S : FnScope N ps (defScope st)) (len : ∀ vs H Q E, sp vs H Q E → vs.length = ps.length)
    (hbody : ∀ (cdv : Value) (A : Around) (outer : List Env) (s : Shared) (H : Hp) (vs : List V) (Q : VK) (E : XK), Room k (A.deeper (envOfC x (defScope st) s.heap.objs.size f cdv)) → sp vs H Q E →
      ∃ t, PSs (cxOf CX0 P w K mg base N x (defScope st) f cdv A outer s H E).nox (defBody st) t ∧ t { nx := fun _ H' => Q .non H', rt := Q } (start N vs) H) : FnOk P w K mg base CX0 (k + 1) f fd ps sp :=
  F.ok S len fun cdv A outer s H vs Q E hr h => by
    obtain ⟨t, h1, h2⟩ := hbody cdv A outer s H vs Q E hr h
    exact ⟨t, h1.nox, h2⟩
theorem fn_within (M : Ms mg) {f : Addr} {fd : FuncData} (F : Hd.FnP K "within_shares_with" s_within_shares_with f fd) (c_need_plugs : Cal P w K mg base 4 "need_plugs" ["plugs"] sp_need_plugs) (c_need_cables : CalD P w K mg base 4 "need_cables" ["many", "thing", "most"] [.int 59] sp_need_cables)
    (c_need_group : Cal P w K mg base 3 "need_group" ["plugs", "thing", "least"] sp_need_group) (c_need_held : Cal P w K mg base 6 "need_held" ["plugs", "cables"] sp_need_known) (c_parts_in : Cal P w K mg base 2 "parts_in" ["many", "cables"] sp_parts_in) (c_open_in : Cal P w K mg base 2 "open_in" ["plugs", "cables"] sp_open_in)
    (c_tops_within : Cal P w K mg base 2 "tops_within" ["size", "total", "many"] sp_tops_within) (c_lowest : Cal P w K mg base 2 "lowest" ["top", "bottom"] sp_lowest) : FnOk P w K mg base CX0 7 f fd ["plugs", "cables", "group"] sp_within := by
  refine mk_fn F sc_within_shares_with (fun vs H Q E h => ?_)
    (fun cdv A outer s H vs Q E hr h => ⟨_,
      (pss_cons (ps_expr (pe_cal c_need_plugs hr (pa_cons (pv 0) pa_nil)))
        (pss_cons (ps_expr (pe_calD c_need_cables hr (pa_cons (pe_callB call_len_seq (by rfl) M.len PySem.boot_len (pa_cons (pv 0) pa_nil)) (pa_cons (pv 1) pa_nil))))
        (pss_cons (ps_expr (pe_cal c_need_group hr (pa_cons (pv 0) (pa_cons (pv 2) (pa_cons pe_int pa_nil)))))
        (pss_cons (ps_expr (pe_cal c_need_held hr (pa_cons (pv 0) (pa_cons (pv 1) pa_nil))))
        (pss_cons (ps_asg (pe_tup (pa_cons (pe_cal c_parts_in hr (pa_cons (pe_callB call_len_seq (by rfl) M.len PySem.boot_len (pa_cons (pv 0) pa_nil)) (pa_cons (pv 1) pa_nil))) (pa_cons (pe_cal c_open_in hr (pa_cons (pv 0) (pa_cons (pv 1) pa_nil))) pa_nil))) (pg_tup rfl (pgs_cons (pg_name (i := 3) sc_within_shares_with.nd rfl (by first | exact Or.inl rfl | exact Or.inr rfl)) (pgs_cons (pg_name (i := 4) sc_within_shares_with.nd rfl (by first | exact Or.inl rfl | exact Or.inr rfl)) pgs_nil))))
        (pss_cons (ps_setLc (i := 5) (own := [("part", 9)]) rfl sc_within_shares_with.nd rfl rfl (sw_true rfl rfl rfl (by decide +kernel)) (pi_list (pv 3)) (blkOk_by (own := [("part", 9)]) (N := N_within_shares_with) (sc := defScope s_within_shares_with) (by decide +kernel)) (fun _ _ _ _ _ => (pg_name (i := 9) sc_within_shares_with.nd rfl (by first | exact Or.inl rfl | exact Or.inr rfl))) (fun _ _ _ _ _ => pts_one (pt_cmpR (show OpR _ _ (rIn K false) from op_in_seq) (pe_ix (show IxR _ (rIxL K) from ix_list) (pv 9) pe_int (fun _ _ => rfl)) (pv 2) (by rfl))) (fun _ _ _ _ _ => (pv 9)))
        (pss_cons (ps_if (pt_cmpR (op_neD hr.units) (pe_callB cr_sortedI (by rfl) M.sorted (by decide +kernel) (pa_cons (pe_lc2 (own := [("part", 9), ("device", 13)]) (vs1 := [13]) (tt := tYes) (tt1 := tYes) rfl sc_within_shares_with.nd (pi_list (pv 5)) (blkOk_by (own := [("part", 9), ("device", 13)]) (N := N_within_shares_with) (sc := defScope s_within_shares_with) (by decide +kernel)) (by decide) (fun _ _ _ _ _ => (pg_name (i := 9) sc_within_shares_with.nd rfl (by first | exact Or.inl rfl | exact Or.inr rfl))) (fun _ _ _ _ _ => pts_nil) (fun _ _ _ _ _ => (show PI _ _ _ (iList K _) from pi_list (pv 9))) (fun _ _ _ _ _ => (pg_name (i := 13) sc_within_shares_with.nd rfl (by first | exact Or.inl rfl | exact Or.inr rfl))) (fun _ _ _ _ _ => pts_nil) (fun _ _ _ _ _ => (pv 13))) pa_nil)) (pv 2) (nomark _))
          pss_never
          pss_nil)
        (pss_cons (ps_set (i := 6) sc_within_shares_with.nd rfl (by first | exact Or.inl rfl | exact Or.inr rfl) (pe_callB call_len_seq (by rfl) M.len PySem.boot_len (pa_cons (pe_lc (own := [("cable", 12)]) rfl sc_within_shares_with.nd (pi_list (pv 1)) (blkOk_by (own := [("cable", 12)]) (N := N_within_shares_with) (sc := defScope s_within_shares_with) (by decide +kernel)) (fun _ _ _ _ _ => (pg_name (i := 12) sc_within_shares_with.nd rfl (by first | exact Or.inl rfl | exact Or.inr rfl))) (fun _ _ _ _ _ => pts_one (pt_cmpR (show OpR _ _ (rIn K false) from op_in_seq) (pe_ix (show IxR _ (rIxT K) from ix_tup) (pv 12) pe_int (fun _ _ => rfl)) (pv 2) (by rfl))) (fun _ _ _ _ _ => (pv 12))) pa_nil)))
        (pss_cons (ps_asg (pe_cal c_tops_within hr (pa_cons (pe_callB call_len_seq (by rfl) M.len PySem.boot_len (pa_cons (pv 5) pa_nil)) (pa_cons (pe_callB (cr_sum rfl) (by rfl) M.sum (by decide +kernel) (pa_cons (pe_lc (own := [("device", 13)]) (tt := tYes) rfl sc_within_shares_with.nd (pi_list (pv 2)) (blkOk_by (own := [("device", 13)]) (N := N_within_shares_with) (sc := defScope s_within_shares_with) (by decide +kernel)) (fun _ _ _ _ _ => (pg_name (i := 13) sc_within_shares_with.nd rfl (by first | exact Or.inl rfl | exact Or.inr rfl))) (fun _ _ _ _ _ => pts_nil) (fun _ _ _ _ _ => (pe_ix (show IxR _ (rIxL K) from ix_list) (pv 4) (pv 13) (fun _ _ => rfl)))) pa_nil)) (pa_cons (pe_callB call_len_seq (by rfl) M.len PySem.boot_len (pa_cons (pv 3) pa_nil)) pa_nil)))) (pg_tup rfl (pgs_cons (pg_name (i := 7) sc_within_shares_with.nd rfl (by first | exact Or.inl rfl | exact Or.inr rfl)) (pgs_cons (pg_name (i := 8) sc_within_shares_with.nd rfl (by first | exact Or.inl rfl | exact Or.inr rfl)) pgs_nil))))
        (pss_one (ps_ret (pe_lc (own := [("number", 10), ("top", 11)]) (tt := tYes) rfl sc_within_shares_with.nd (pi_list (pv 7)) (blkOk_by (own := [("number", 10), ("top", 11)]) (N := N_within_shares_with) (sc := defScope s_within_shares_with) (by decide +kernel)) (fun _ _ _ _ _ => (show PG _ _ (gTup K 2 _) from pg_tup rfl (pgs_cons (pg_name (i := 10) sc_within_shares_with.nd rfl (by first | exact Or.inl rfl | exact Or.inr rfl)) (pgs_cons (pg_name (i := 11) sc_within_shares_with.nd rfl (by first | exact Or.inl rfl | exact Or.inr rfl)) pgs_nil)))) (fun _ _ _ _ _ => pts_nil) (fun _ _ _ _ _ => (pe_tup (pa_cons (pe_op op_add (pv 6) (pv 10)) (show PA _ _ (StX.tStar K _ _) from StX.pa_star (pe_cal c_lowest hr (pa_cons (pv 11) (pa_cons (pv 8) pa_nil))) pa_nil))))))))))))))))
    , ?_⟩)
  · obtain ⟨i, ⟨rfl, _⟩, _⟩ := h; rfl
  · obtain ⟨⟨pa, a, ga, ds, L, s0⟩, ⟨rfl, hA, hG⟩, q⟩ := h
    simp only at hA hG q
    have hn := hA.n60
    have hIs := hG.isGr hA.sub hn
    have hGl : SqL K H ga ((gr ds.length L s0).map iV) := sq_of hG.gl
    have lenP : ∀ {σ : L2.St} {H' : Hp}, Ex H H' → σ[0]? = some (some (.ref pa)) → Ev (tCB (rLenS K) (tCons (tVar 0) tNil)) σ H' (iV ds.length) := fun e z => ev_is (ev_len0 (ev_var z) (ex_l e (sq_of hA.pl.1))) (by rw [List.length_map]; rfl)
    refine q_drop (ev_call1 (pa, ds) (ea_cons (ev_var rfl) ea_nil) fun H1 e => ⟨rfl, hA.pl.mono e⟩) fun H1 e1 => ?_
    refine q_drop (ev_callD1 (ds.length, a, L) (ea_cons (lenP e1 rfl) (ea_cons (ev_var rfl) ea_nil)) fun H2 e => ⟨rfl, (hA.mono (e1.trans e)).cl, hA.sub.mem, hA.sub.nd, by have := hA.sub.len; show L.length ≤ 59; omega⟩) fun H2 e2 => ?_
    have e02 := e1.trans e2
    refine q_drop (ev_call1 (pa, ga, gr ds.length L s0, ds.map iV) (ea_cons (ev_var rfl) (ea_cons (ev_var rfl) (ea_cons (ev_c (v := .int 1)) ea_nil))) fun H3 e => ⟨rfl, (e02.trans e) _ _ hA.pl.1, by simp only [List.length_map]; exact hIs.mono (e02.trans e)⟩) fun H3 e3 => ?_
    have e03 := e02.trans e3
    refine q_drop (ev_call1 (pa, a, ds, L) (ea_cons (ev_var rfl) (ea_cons (ev_var rfl) ea_nil)) fun H4 e => ⟨rfl, hA.mono (e03.trans e)⟩) fun H4 e4 => ?_
    have e04 := e03.trans e4
    refine q_asgTP (evp_tup (mono2 mono_NLs mono_L) (epa_cons mono_NLs (mono1 mono_L) (evp_call (ds.length, a, L) mono_NLs (ea_cons (lenP e04 rfl) (ea_cons (ev_var rfl) ea_nil)) fun H5 e => ⟨rfl, hn, (hA.mono (e04.trans e)).cl, hA.sub.mem⟩)
      (epa_cons mono_L (fun _ h => nomatch h) (evp_call (pa, a, ds, L) mono_L (ea_cons (ev_var rfl) (ea_cons (ev_var rfl) ea_nil)) fun H5 e => ⟨rfl, (hA.mono (e04.trans e)).pl, (hA.mono (e04.trans e)).cl, hA.sub.mem, hA.sub.dg⟩) epa_nil)) (by show 2 ≤ 100000; decide)) mono_NLs mono_L fun x y H5 e5 hx hy => ?_
    have e05 := e04.trans e5
    obtain ⟨c, rfl⟩ := hx.ref
    obtain ⟨vs, hc⟩ := NLa.of (mono_NLs _ _ _ newp_ex hx)
    obtain ⟨po, rfl, hpo⟩ := hy
    have hO : SqL K H5 po (fl ds.length (op (dd ds) L)) := sq_of (newp_is hpo).2
    simp only at hc
    have hcl := hc.len
    have hS : SqL K H5 c vs := sq_of hc.1
    have hle := hA.sub.cls_le
    have two := hA.sub.parts_two (s := s0)
    have inl := hA.sub.inn_len (s := s0)
    refine q_asgL (el_lc (fun i => (gr ds.length L s0).contains (((cls (lab L) ds.length).getD i []).headD 0)) (fun i => vs.getD i .non) (itw_list (K := K) (ev_var rfl) hS) (by omega) (fun H' e => ex_l e hS) fun i x H7 e7 hi hx R k => ?_) fun p5 H6 hp5 e6 h5 => ?_
    · obtain ⟨ps, t, hps, rfl, ht⟩ := (hc.mono e7).item hx
      have hg : (cls (lab L) ds.length).getD i [] = ps := by rw [List.getD_eq_getElem?_getD, hps]; rfl
      have hg2 : vs.getD i .non = .ref t := by rw [List.getD_eq_getElem?_getD, hx]; rfl
      rw [hg, hg2] at k
      obtain ⟨r, tl, r1, r2, r3, r4⟩ := cls_mem (List.mem_of_getElem? hps)
      have hT : SqL K H7 t (ps.map iV) := sq_of ht
      rw [r4] at hT
      refine k _ rfl (et_is (et_test (ev_op (ev_op (ev_var rfl) ev_c (rv_ixL hT (atI_nat (j := 0) rfl))) (ev_var rfl) (rv_isL (ex_l (e05.trans e7) hGl) rfl (flat_iV _)))) ?_) fun _ => ev_var rfl
      rw [r4, List.headD_cons, List.contains_eq_mem]
      exact inV_dec
    have e06 := e05.trans e6
    have hal5 : Al ((inn ds.length L s0).map NL) (given vs.length (fun i => (gr ds.length L s0).contains (((cls (lab L) ds.length).getD i []).headD 0)) fun i => vs.getD i .non) H6 := by
      rw [given_zip (cls (lab L) ds.length) vs hcl _ (fun ps => (gr ds.length L s0).contains (ps.headD 0)) fun i ps h => by rw [List.getD_eq_getElem?_getD, h]; rfl]
      exact al_filter _ (hc.2.mono e6 (mem_map_mono (fun _ => mono_NL) _))
    generalize hxs : given vs.length (fun i => (gr ds.length L s0).contains (((cls (lab L) ds.length).getD i []).headD 0)) (fun i => vs.getD i .non) = xs5 at h5 hal5
    have hS5 : SqL K H6 p5 xs5 := sq_of h5
    have hl5 : xs5.length = (inn ds.length L s0).length := by rw [hal5.length, List.length_map]
    have perm := inn_perm (n := ds.length) (L := L) (s := s0)
    have hgl := hIs.len
    have flatE : ((inn ds.length L s0).map (fun ps => ps.map iV)).flatten = ((inn ds.length L s0).flatten).map iV := by rw [List.map_flatten]
    have sorted : EvD K (tCB (rSortedI K) (tCons (tLc2 (iList K (tVar 5)) (gName 9) tYes (iList K (tVar 9)) (gName 13) tYes (tVar 13) [9, 13] [13]) tNil)) ((((start N_within_shares_with [V.ref pa, V.ref a, V.ref ga]).set 3 (some (V.ref c))).set 4 (some (V.ref po))).set 5 (some (V.ref p5))) H6 (listD natD (gr ds.length L s0)) := by
      refine evd_new mono_L (evp_ofL (ev_sortedN (K := K) (ns := (inn ds.length L s0).flatten) ?_ (range_asc _ _) perm.symm)) fun v G h => dp_NL h
      rw [← flatE]
      refine el_lc2 (K := K) (ev_var rfl) hS5 (by rw [List.length_map]; exact hl5) (fun i x F h1 h2 => ?_) (by rw [flatE, List.length_map, perm.length_eq]; omega) (fun _ => rfl) (fun _ => rfl) (fun _ _ => rfl) (fun _ _ => rfl)
      obtain ⟨ps, hps, t, rfl, ht⟩ := al_item hal5 h1
      rw [List.getElem?_map, hps] at h2
      cases h2
      exact ⟨t, rfl, sq_of ht⟩
    refine q_when (b := false) (et_is (et_test (ev_neD sorted (evd_val (d := listD natD (gr ds.length L s0)) (ev_var rfl) fun H' e => dp_NL ⟨ga, rfl, (e06.trans e) _ _ hG.gl⟩) (shaped_listD natD_lay (fun _ => by simp [natD, PyData.depth]) _) (shaped_listD natD_lay (fun _ => by simp [natD, PyData.depth]) _))) (by rw [eqv_dec (f := listD natD) (listD_eqv natD_eqv), decide_eq_true rfl]; rfl)) (fun z => Bool.noConfusion z) fun _ H7 e7 => ?_
    have e07 := e06.trans e7
    obtain ⟨cv, hcb⟩ := CLa.of hA.cl
    have hcv := hcb.len
    have hLl := hA.sub.len
    have hCS : SqL K H7 a cv := sq_of (e07 _ _ hcb.1)
    refine q_asg (v := iV (known ds.length L s0)) (ev_is (ev_lenL (K := K) (el_lc (fun i => (gr ds.length L s0).contains (L.getD i (0, 0)).1) (fun i => cv.getD i .non) (itw_list (K := K) (ev_var rfl) hCS) (by omega) (fun H' e => ex_l e hCS) fun i x H8 e8 hi hx R k => ?_)) ?_) fun H8 e8 => ?_
    · obtain ⟨cb, t, hci, rfl, hT⟩ := (hcb.mono (e07.trans e8)).item hx
      have hg : L.getD i (0, 0) = cb := by rw [List.getD_eq_getElem?_getD, hci]; rfl
      have hg2 : cv.getD i .non = .ref t := by rw [List.getD_eq_getElem?_getD, hx]; rfl
      rw [hg, hg2] at k
      refine k _ rfl (et_is (et_test (ev_op (ev_op (ev_var rfl) ev_c (rv_ixT (st_of hT) (atI_nat (j := 0) rfl))) (ev_var rfl) (rv_isL (ex_l (e07.trans e8) hGl) rfl (flat_iV _)))) ?_) fun _ => ev_var rfl
      rw [List.contains_eq_mem]
      exact inV_dec
    · rw [given_zip L cv hcv _ (fun cb => (gr ds.length L s0).contains cb.1) fun i cb h => by rw [List.getD_eq_getElem?_getD, h]; rfl]
      have := (al_filter (g := CB) (fun cb : Cab => (gr ds.length L s0).contains cb.1) hcb.2).length
      rw [this, List.length_map]; rfl
    have e08 := e07.trans e8
    have e58 := ((e6.trans e7).trans e8)
    have e68 := e7.trans e8
    have lenI : ∀ σ : L2.St, σ[5]? = some (some (V.ref p5)) → Ev (tCB (rLenS K) (tCons (tVar 5) tNil)) σ H8 (iV (cA ds.length (dd ds) (lab L) s0)) := fun σ z => ev_is (ev_len0 (ev_var z) (ex_l e68 hS5)) (by rw [hl5, inl]; rfl)
    have lenC : ∀ σ : L2.St, σ[3]? = some (some (V.ref c)) → Ev (tCB (rLenS K) (tCons (tVar 3) tNil)) σ H8 (iV (cA ds.length (dd ds) (lab L) s0 + cA ds.length (dd ds) (lab L) fun r => !s0 r)) := fun σ z => ev_is (ev_len0 (ev_var z) (ex_l e58 hS)) (by rw [hcl, two]; rfl)
    have sumG : Ev (tCB (rSum K) (tCons (tLc (iList K (tVar 2)) (gName 13) tYes (tOp (rIxL K) (tVar 4) (tVar 13)) [13]) tNil)) (((((start N_within_shares_with [V.ref pa, V.ref a, V.ref ga]).set 3 (some (V.ref c))).set 4 (some (V.ref po))).set 5 (some (V.ref p5))).set 6 (some (iV (known ds.length L s0)))) H8 (.int ((((gr ds.length L s0).map (op (dd ds) L)).sum : Nat) : Int)) := by
      refine ev_is (ev_sumN (K := K) (ns := ((gr ds.length L s0).map (op (dd ds) L)).map Int.ofNat) ?_) (by rw [sum_iV])
      rw [← map_iV]
      exact el_map (ev_var rfl) (ex_l e08 hGl) (by omega) (fun _ => rfl) fun y hy H9 e9 => ev_fl (ev_var rfl) (ev_var rfl) (ex_l (e58.trans e9) hO) (gr_mem.mp hy).1
    have hsome := hG.some
    refine q_asgTP (evp_call (cA ds.length (dd ds) (lab L) s0, (cA ds.length (dd ds) (lab L) fun r => !s0 r), bA ds.length (dd ds) L (lab L) s0, ((((gr ds.length L s0).map (op (dd ds) L)).sum : Nat) : Int)) (mono_UU (mono2 (mono_LL (mem_map_mono (fun _ => mono_PR) _)) mono_is)) (ea_cons (lenI _ rfl) (ea_cons sumG (ea_cons (lenC _ rfl) ea_nil))) fun H9 e9 => ⟨rfl, hsome, by show cA ds.length (dd ds) (lab L) s0 + (cA ds.length (dd ds) (lab L) fun r => !s0 r) ≤ 60; omega, fun h0 => ?_⟩) (mono_LL (mem_map_mono (fun _ => mono_PR) _)) mono_is fun x y H9 e9 hx hy => ?_
    · simp only at h0 ⊢
      rw [hA.sub.gr_open hsome (by omega)]
      omega
    obtain ⟨pr, rv, rfl, hpr, halr⟩ := hx
    have hy' : y = iV (bot (cA ds.length (dd ds) (lab L) s0) (cA ds.length (dd ds) (lab L) fun r => !s0 r) (bA ds.length (dd ds) L (lab L) s0)) := hy
    subst hy'
    simp only at halr
    have e09 := e08.trans e9
    have hpr2 := newp_is hpr
    have hRS : SqL K H9 pr rv := sq_of hpr2.2
    have halr2 : Al ((rows (cA ds.length (dd ds) (lab L) s0) (cA ds.length (dd ds) (lab L) fun r => !s0 r) (bA ds.length (dd ds) L (lab L) s0)).map PR) rv H9 := halr.mono newp_ex (mem_map_mono (fun _ => mono_PR) _)
    have q' : ∀ (v : V) (H2 : Hp), Ex H H2 → LL (((rows (cA ds.length (dd ds) (lab L) s0) (cA ds.length (dd ds) (lab L) fun r => !s0 r) (bA ds.length (dd ds) L (lab L) s0)).map fun r => (known ds.length L s0 + r.1, low r.2 (bot (cA ds.length (dd ds) (lab L) s0) (cA ds.length (dd ds) (lab L) fun r => !s0 r) (bA ds.length (dd ds) L (lab L) s0)))).map TR) v (newp H H2) → Q v H2 := q
    have rl : (rows (cA ds.length (dd ds) (lab L) s0) (cA ds.length (dd ds) (lab L) fun r => !s0 r) (bA ds.length (dd ds) L (lab L) s0)).length ≤ 61 := by
      unfold rows
      split
      · show 1 ≤ 61; decide
      · refine Nat.le_trans (List.length_filter_le _ _) ?_
        rw [List.length_map, List.length_range]; omega
    have hbot := fun r hr => bot_pos (a := cA ds.length (dd ds) (lab L) s0) (ao := cA ds.length (dd ds) (lab L) fun r => !s0 r) (b := bA ds.length (dd ds) L (lab L) s0) (r := r) hr
    have hblt := bot_lt (a := cA ds.length (dd ds) (lab L) s0) (ao := cA ds.length (dd ds) (lab L) fun r => !s0 r) (b := bA ds.length (dd ds) L (lab L) s0) (by omega)
    clear q
    generalize bot (cA ds.length (dd ds) (lab L) s0) (cA ds.length (dd ds) (lab L) fun r => !s0 r) (bA ds.length (dd ds) L (lab L) s0) = bt at *
    generalize rows (cA ds.length (dd ds) (lab L) s0) (cA ds.length (dd ds) (lab L) fun r => !s0 r) (bA ds.length (dd ds) L (lab L) s0) = rw0 at *
    generalize known ds.length L s0 = kn at *
    have hrl : rv.length = rw0.length := by rw [halr.length, List.length_map]
    have src := itw_list (K := K) (σ := (((((((start N_within_shares_with [V.ref pa, V.ref a, V.ref ga]).set 3 (some (V.ref c))).set 4 (some (V.ref po))).set 5 (some (V.ref p5))).set 6 (some (iV kn))).set 7 (some (V.ref pr))).set 8 (some (iV bt)))) (tl := tVar 7) (ev_var rfl) hRS
    rw [hrl] at src
    refine s_retP (evp_lc (fun _ => true) (fun i => TR (kn + (rw0.getD i (0, 0)).1, low (rw0.getD i (0, 0)).2 bt)) src (by omega) (fun H' e => ex_l e hRS) (fun _ => mono_TR) fun i x H10 e10 hi hx R k => ?_) fun v H10 e10 k => q' v H10 (e09.trans e10) ?_
    · obtain ⟨r, hr, t, rfl, ht⟩ := al_item (halr2.mono e10 (mem_map_mono (fun _ => mono_PR) _)) hx
      have g1 : rw0.getD i (0, 0) = r := by rw [List.getD_eq_getElem?_getD, hr]; rfl
      rw [g1] at k
      refine g_two ht (k _ rfl et_yes fun _ => ?_)
      refine evp_ofU (eu_tup (ea_cons (ev_addN (ev_var (v := iV kn) rfl) (ev_var (v := iV r.1) rfl)) (ea_star (K := K) (evu_ofp (evp_call (r.2, bt) mono_U (ea_cons (ev_var rfl) (ea_cons (ev_var rfl) ea_nil)) fun H11 e11 => ⟨rfl, hbot r (List.mem_of_getElem? hr), hblt⟩)))) (by show 3 ≤ 100000; decide))
    · rw [lc_all rw0 _ (fun r => TR (kn + r.1, low r.2 bt)) fun i r h => by rw [List.getD_eq_getElem?_getD, h]; rfl] at k
      rw [List.map_map]
      exact mono_LL (mem_map_mono (fun _ => mono_TR) _) _ _ _ (newp_mono e09 (Ex.refl _)) k
theorem ok_within (M : Ms mg) (F : Df K mg "within_shares_with" s_within_shares_with) (c_need_plugs : Cal P w K mg base 4 "need_plugs" ["plugs"] sp_need_plugs) (c_need_cables : CalD P w K mg base 4 "need_cables" ["many", "thing", "most"] [.int 59] sp_need_cables)
    (c_need_group : Cal P w K mg base 3 "need_group" ["plugs", "thing", "least"] sp_need_group) (c_need_held : Cal P w K mg base 6 "need_held" ["plugs", "cables"] sp_need_known) (c_parts_in : Cal P w K mg base 2 "parts_in" ["many", "cables"] sp_parts_in) (c_open_in : Cal P w K mg base 2 "open_in" ["plugs", "cables"] sp_open_in)
    (c_tops_within : Cal P w K mg base 2 "tops_within" ["size", "total", "many"] sp_tops_within) (c_lowest : Cal P w K mg base 2 "lowest" ["top", "bottom"] sp_lowest) : Cal P w K mg base 7 "within_shares_with" ["plugs", "cables", "group"] sp_within := by
  obtain ⟨f, fd, FD, g⟩ := F
  exact ⟨f, fd, fn_within M FD c_need_plugs c_need_cables c_need_group c_need_held c_parts_in c_open_in c_tops_within c_lowest, g, FD.kp, FunD.bindsN FD
      (fun _ _ _ _ _ _ us hl => match us, hl with | [_, _, _], _ => rfl)
    ⟩
end
end Ly
end
section
set_option Elab.async false
set_option linter.all false
set_option maxRecDepth 100000
set_option maxHeartbeats 2000000
/-! The law's store: a list that changes; what stays. -/
namespace Ly
open PySem PySem.Spec PyProof.Rows L2 Evl Hd Pn
/-- the store at st, drawn from at most N times -/
def Sto (H : Hp) (st : Addr) (N : Nat) : Prop := ∃ x y c : Nat, H st = some (.lst [iV x, iV y, iV c]) ∧ y < 2 ^ 140 ∧ c ≤ N
theorem Sto.mono {H H' : Hp} {st : Addr} {N : Nat} (h : Sto H st N) (e : Ex H H') : Sto H' st N := by
  obtain ⟨x, y, c, h1, h2, h3⟩ := h
  exact ⟨x, y, c, e _ _ h1, h2, h3⟩
theorem Sto.le {H : Hp} {st : Addr} {N M : Nat} (h : Sto H st N) (e : N ≤ M) : Sto H st M := by
  obtain ⟨x, y, c, h1, h2, h3⟩ := h
  exact ⟨x, y, c, h1, h2, Nat.le_trans h3 e⟩
theorem Sto.some {H : Hp} {st : Addr} {N : Nat} (h : Sto H st N) : ∃ o, H st = some o := by
  obtain ⟨x, y, c, h1, _⟩ := h
  exact ⟨_, h1⟩
/-- all but the store stays -/
def Es (st : Addr) (H H' : Hp) : Prop := Ex (del H st) H'
theorem del_del {H : Hp} {st : Addr} : del (del H st) st = del H st := by
  funext b
  unfold del
  split
  · rfl
  · rfl
theorem Es.refl {st : Addr} {H : Hp} : Es st H H := del_ex
theorem Es.of {st : Addr} {H H' : Hp} (e : Ex H H') : Es st H H' := del_ex.trans e
theorem Es.dd {st : Addr} {H H' : Hp} (e : Es st H H') : Ex (del H st) (del H' st) := by
  have := del_mono (l := st) e
  rwa [del_del] at this
theorem Es.trans {st : Addr} {H H' H'' : Hp} (e : Es st H H') (f : Es st H' H'') : Es st H H'' := e.dd.trans f
/-- what is new behind both -/
theorem Es.newp1 {st : Addr} {H H1 H2 : Hp} {N : Nat} (s : Sto H1 st N) (e : Es st H1 H2) : Ex (newp H H1) (newp H H2) ∨ H st = none := by
  by_cases z : H st = none
  · exact .inr z
  · refine .inl fun b o k => ?_
    obtain ⟨k1, k2⟩ := newp_is k
    have hb : b ≠ st := fun q => by rw [q] at k1; exact z k1
    exact newp_of k1 (e b o (by rw [del_ne hb]; exact k2))
theorem Es.new1 {st : Addr} {H H1 H2 : Hp} {o : HO} (s : H st = .some o) (e : Es st H1 H2) : Ex (newp H H1) (newp H H2) := fun b u k => by
  obtain ⟨k1, k2⟩ := newp_is k
  have hb : b ≠ st := fun q => by rw [q, s] at k1; cases k1
  exact newp_of k1 (e b u (by rw [del_ne hb]; exact k2))
theorem Es.new2 {st : Addr} {H H1 H2 : Hp} {o : HO} (s : H st = .some o) (s1 : H1 st = .some o) (e : Es st H H1) : Ex (newp H1 H2) (newp H H2) := fun b u k => by
  obtain ⟨k1, k2⟩ := newp_is k
  refine newp_of ?_ k2
  cases z : H b with
  | none => rfl
  | some v =>
    by_cases hb : b = st
    · rw [hb, s1] at k1; cases k1
    · have := e b v (by rw [del_ne hb]; exact z)
      rw [k1] at this; cases this
/-- new behind H: not the store's place, nor in what stays -/
theorem new_dd {st : Addr} {H H' : Hp} {o : HO} (s : H st = .some o) : Ex (newp H H') (del H' st) := fun b u k => by
  obtain ⟨k1, k2⟩ := newp_is k
  have hb : b ≠ st := fun q => by rw [q, s] at k1; cases k1
  rw [del_ne hb]; exact k2
section
variable {K : PySem.W.Frag} {σ : L2.St} {H : Hp} {te ta tb : TE} {tA : TA} {x y : V} {Q : VK}
/-- a value's evaluation in what stays -/
theorem run_ev {st : Addr} (h : Ev te σ (del H st) x) (k : ∀ H1, Ex H H1 → Q x H1) : te σ H Q := h H del_ex Q k
theorem run_evA {st : Addr} {vs : List V} {Q : List V → Hp → Prop} (h : EvA tA σ (del H st) vs) (k : ∀ H1, Ex H H1 → Q vs H1) : tA σ H Q := h H del_ex Q k
/-- set(xs), with how many members -/
def rSetOfL2 (K : PySem.W.Frag) (w : World) : List V → Hp → VK → Prop := fun vs H Q => ∃ (a : Addr) (ks : List Int), vs = [V.ref a] ∧ SqL K H a (ks.map V.int) ∧ ks.length ≤ 4000 ∧ ∀ p c, (∀ m : List Int, (∀ k ∈ ks, k ∈ m) → c ≤ m.length) → H p = none → Q (.ref p) (upd H p (SetO w p (fun j => decide (j ∈ ks)) c))
end
theorem setR_few {w : World} {h : Heap} {a : Addr} {ks : List Int} {c : Nat} (R : SetR w h a (fun j => decide (j ∈ ks)) c) (m : List Int) (hm : ∀ k ∈ ks, k ∈ m) : c ≤ m.length := by
  obtain ⟨o, es, ep, t, ho, hx, hd, g, nd, hmm, hb, hf, hn, _⟩ := R
  have := nd_len nd (m := m) fun k hk => hm k (of_decide_eq_true ((hmm k).mpr hk))
  rw [List.length_map, Array.length_toList, hn] at this
  exact this
section
variable {X : Cx}
theorem cr_setL2 (hc : X.calm = true) : CallR X (.type "set") (rSetOfL2 X.K X.w) := by
  intro pins s σ H vs us Q I r h
  obtain ⟨a, ks, rfl, hs, hl, q⟩ := h
  obtain ⟨its, rv, pl, hz⟩ := I.list hs
  rw [Vals.ref1 r]
  refine set_of_ints (I.ok.hd hc) pl.isList (by simpa using rv.ints) (by unfold scanBound; omega) fun h2 t c R1 hc1 k => ?_
  exact ⟨.ref s.heap.objs.size, upd H s.heap.objs.size (SetO X.w s.heap.objs.size (fun j => decide (j ∈ ks)) c), I.laid (t' := t) k (Nat.le_refl _) (setO_new R1), rfl, q _ c (fun m hm => setR_few R1 m hm) I.fresh⟩
end
section
variable {K : PySem.W.Frag} {wd : World} {σ : L2.St} {H : Hp} {te : TE}
theorem el_sortedSet2 {a : Addr} {ks us m : List Nat} (h : Ev te σ H (.ref a)) (hs : SqL K H a (ks.map iV)) (h1 : us.Pairwise (· < ·)) (h2 : ∀ j, j ∈ us ↔ j ∈ ks) (hl : ks.length ≤ 4000) (hm : ∀ k ∈ ks, k ∈ m) (hml : m.length ≤ 63) :
    EvL (tCB (rSortedSet wd) (tCons (tCB (rSetOfL2 K wd) (tCons te tNil)) tNil)) σ H (us.map iV) := fun H1 e Q q => by
  refine h H1 e _ fun H2 e2 => ⟨a, ks.map Int.ofNat, rfl, by rw [map_iV] at hs; exact ex_l (e.trans e2) hs, by rw [List.length_map]; omega, fun S c hc hS => ?_⟩
  have hc' := hc (m.map Int.ofNat) fun k hk => by
    obtain ⟨j, hj, rfl⟩ := List.mem_map.mp hk
    exact List.mem_map.mpr ⟨j, hm j hj, rfl⟩
  rw [List.length_map] at hc'
  refine ⟨S, _, c, rfl, upd_same, by omega, fun ns r hp1 hp2 _ hr => ?_⟩
  have e3 : ns = us.map Int.ofNat := by
    have n2 : (us.map Int.ofNat).Pairwise (· < ·) := List.Pairwise.map _ (fun a b (z : a < b) => by show (a : Int) < (b : Int); omega) h1
    have d1 : ns.Nodup := hp1.imp fun z => by omega
    have d2 : (us.map Int.ofNat).Nodup := n2.imp fun z => by omega
    refine List.Perm.eq_of_pairwise (le := fun a b => a < b) (fun a b _ _ x y => by omega) hp1 n2 ((List.perm_ext_iff_of_nodup d1 d2).mpr fun k => ?_)
    rw [hp2, decide_eq_true_eq, List.mem_map, List.mem_map]
    constructor
    · rintro ⟨a, ha, rfl⟩; exact ⟨a, (h2 a).mpr ha, rfl⟩
    · rintro ⟨a, ha, rfl⟩; exact ⟨a, (h2 a).mp ha, rfl⟩
  subst e3
  have hr2 : H2 r = none := fresh_back (Ex.new hS) hr
  exact q r _ (fresh_back e2 hr2) ((e2.trans (Ex.new hS)).trans (Ex.new hr)) (by rw [upd_same, map_iV])
end
end Ly
end
section
set_option Elab.async false
set_option linter.all false
set_option maxRecDepth 100000
set_option maxHeartbeats 4000000
/-! The walk: the law's store. -/
namespace Ly
open PySem PySem.Spec PyProof.Rows L2 Evl Hd Pn
theorem es_upd {st : Addr} {H H1 : Hp} {o : HO} (e : Ex H H1) : Es st H (upd H1 st o) := fun b u k => by
  have hb : b ≠ st := fun q => by rw [q, del_same] at k; cases k
  rw [del_ne hb] at k
  rw [upd_ne hb]; exact e b u k
theorem big1 {y c k : Nat} (hy : y < 2 ^ 140) (hc : c ≤ 1000000) (hk : k ≤ 32416187567) : y + k * (c + 1) < 2 ^ 200 := by
  have h1 : k * (c + 1) ≤ 32416187567 * 1000001 := Nat.mul_le_mul hk (by omega)
  exact Nat.lt_of_lt_of_le (Nat.add_lt_add_of_lt_of_le hy h1) (by decide)
theorem cpow {a b m : Nat} (h : a < 2 ^ m) (h2 : m * b ≤ 2 ^ 27) : CPowW (a : Int) (b : Int) := by
  refine ⟨by omega, ?_⟩
  have h3 : Builtin.Int.intBits (a : Int) ≤ m := PySem.intBits_le_iff.mpr (by rw [Int.natAbs_natCast]; exact h)
  have h4 := Nat.le_trans (Nat.mul_le_mul_right b h3) h2
  have h5 : ((Builtin.Int.intBits (a : Int) * b : Nat) : Int) ≤ ((2 ^ 27 : Nat) : Int) := Int.ofNat_le.mpr h4
  rw [Int.natCast_mul] at h5
  exact h5
section
variable {K : PySem.W.Frag} {σ : L2.St} {H : Hp} {ta tb te : TE} {x y z v : V}
theorem ev_powN {a b m : Nat} (ha : Ev ta σ H (iV a)) (hb : Ev tb σ H (iV b)) (h : a < 2 ^ m) (h2 : m * b ≤ 2 ^ 27) : Ev (tOp (rI CPowW fun i j => .int (i ^ j.toNat)) ta tb) σ H (iV (a ^ b)) :=
  ev_is (ev_op ha hb (rv_I (cpow h h2))) (by show V.int _ = V.int _; rw [Int.toNat_natCast, Int.natCast_pow])
theorem ev_int1 {i : Int} (h : Ev te σ H (.int i)) : Ev (tCB (fun xs H Q => (∃ i, xs = [V.int i] ∧ Q (V.int i) H) ∨ ∃ k, xs = [V.bl k] ∧ Q (V.int (if k = true then 1 else 0)) H) (tCons te tNil)) σ H (.int i) := fun H1 e Q q =>
  h H1 e _ fun H2 e2 => .inl ⟨i, rfl, q H2 e2⟩
theorem ev_intB {k : Bool} (h : Ev te σ H (.bl k)) : Ev (tCB (fun xs H Q => (∃ i, xs = [V.int i] ∧ Q (V.int i) H) ∨ ∃ k, xs = [V.bl k] ∧ Q (V.int (if k = true then 1 else 0)) H) (tCons te tNil)) σ H (iV (if k = true then 1 else 0)) := fun H1 e Q q =>
  h H1 e _ fun H2 e2 => .inr ⟨k, rfl, by
    cases k with
    | true => exact q H2 e2
    | false => exact q H2 e2⟩
theorem ev_absN {i : Int} (h : Ev te σ H (.int i)) : Ev (tCB (fun xs H Q => ∃ i, xs = [V.int i] ∧ Q (V.int (if i < 0 then -i else i)) H) (tCons te tNil)) σ H (iV i.natAbs) := fun H1 e Q q =>
  h H1 e _ fun H2 e2 => ⟨i, rfl, by
    have : V.int (if i < 0 then -i else i) = iV i.natAbs := by
      unfold iV
      congr 1
      split <;> omega
    rw [this]; exact q H2 e2⟩
end
section
variable {P : Program} {w : World} {K : PySem.W.Frag} {mg : Str → Option Value} {base : Heap}
abbrev N_l_store : List Str := ["_law_script", "_law_k", "_law_cell"]
theorem sc_l_store : FnScope N_l_store ["_law_script", "_law_k"] (defScope s_l_store) := ⟨rfl, rfl, rfl, by decide +kernel, rfl, by decide +kernel, by decide +kernel⟩
def StoN : Ph := fun v G => ∃ st, v = .ref st ∧ Sto G st 0
def sp_l_store (K : PySem.W.Frag) : Sp := spP (fun (z : Addr × List Int × Nat) vs H => vs = [.ref z.1, iV z.2.2] ∧ SqL K H z.1 (z.2.1.map V.int) ∧ z.2.2 ≤ 3) fun _ => StoN
theorem ok_l_store (M : Ms mg) (F : Df K mg "_law_store" s_l_store) : Cal P w K mg base 1 "_law_store" ["_law_script", "_law_k"] (sp_l_store K) := by
  refine mk_cal F sc_l_store (fun vs H Q E h => ?_)
      (fun _ _ _ _ _ _ us hl => match us, hl with | [_, _], _ => rfl)
    (fun f cdv A outer s H vs Q E hr h => ⟨_,
      (pss_cons (ps_set (i := 2) sc_l_store.nd rfl (by first | exact Or.inl rfl | exact Or.inr rfl) (pe_ifExp (pt_cmpR op_lt (pv 1) (pe_callB call_len_seq (by rfl) M.len PySem.boot_len (pa_cons (pv 0) pa_nil)) (nomark _)) (pe_callB call_abs (by rfl) M.abs (by decide +kernel) (pa_cons (pe_ix ix_list (pv 0) (pv 1) (fun _ _ => rfl)) pa_nil)) pe_int))
        (pss_one (ps_ret (pe_lst (pa_cons (pe_callB (call_max2 rfl) (by rfl) M.max (by decide +kernel) (pa_cons pe_int (pa_cons (pe_op op_sub (pv 2) (pe_op op_powW pe_int pe_int)) pa_nil))) (pa_cons (pe_op op_add (pe_op op_mul (pe_op op_modN (pe_callTy call_int1 (by rfl) M.int (by decide +kernel) (pa_cons (pv 2) pa_nil)) (pe_op op_add (pe_op op_powW pe_int pe_int) pe_int)) pe_int) (pe_op op_mul pe_int (pv 1))) (pa_cons pe_int pa_nil)))))))
    , ?_⟩)
  · obtain ⟨i, ⟨rfl, _⟩, _⟩ := h; rfl
  · obtain ⟨⟨a, ns, k⟩, ⟨rfl, hS, hk⟩, q⟩ := h
    simp only at hS hk q
    have hc : Ev (tIf (tTest (tOp (rI0 fun i j => V.bl (decide (i < j))) (tVar 1) (tCB (rLenS K) (tCons (tVar 0) tNil)))) (tCB (fun xs H Q => ∃ i, xs = [V.int i] ∧ Q (V.int (if i < 0 then -i else i)) H) (tCons (tOp (rIxL K) (tVar 0) (tVar 1)) tNil)) (tC (V.int 0))) (start N_l_store [V.ref a, iV k]) H (iV (ns.getD k 0).natAbs) := by
      refine ev_if (b := decide (k < ns.length)) (et_is (et_test (ev_op (ev_var (v := iV k) rfl) (ev_len0 (ev_var rfl) hS) rv_I0)) ?_) (fun z => ?_) (fun z => ?_)
      · rw [List.length_map, decide_eq_decide]; omega
      · have hk := of_decide_eq_true z
        refine ev_absN ?_
        have e : ns.getD k 0 = ns[k] := by rw [List.getD_eq_getElem?_getD, List.getElem?_eq_getElem hk]; rfl
        rw [e]
        exact ev_op (ev_var rfl) (ev_var (v := iV k) rfl) (rv_ixL hS (atI_nat (by rw [List.getElem?_map, List.getElem?_eq_getElem hk]; rfl)))
      · have hk := of_decide_eq_false z
        have e : ns.getD k 0 = 0 := by rw [List.getD_eq_getElem?_getD, List.getElem?_eq_none (by omega)]; rfl
        rw [e]
        exact ev_c
    generalize (ns.getD k 0).natAbs = m at hc
    refine q_asg hc fun H1 e1 => ?_
    refine s_retP (evp_ofL (el_lst (ea_cons (x := iV (m - 10 ^ 18)) (ev_is (ev_max2 (ev_c (v := .int 0)) (ev_op (ev_var (v := iV m) rfl) (ev_powN (a := 10) (b := 18) (m := 4) ev_c ev_c (by decide) (by decide)) rv_I0)) ?_)
      (ea_cons (ev_addN (ev_mulN (ev_modN (ev_int1 (ev_var (v := iV m) rfl)) (ev_addN (ev_powN (a := 10) (b := 37) (m := 4) ev_c ev_c (by decide) (by decide)) (ev_c (v := iV 43))) (by decide)) (ev_c (v := iV 83)) (by decide)) (ev_mulN' (ev_c (v := iV 7)) (ev_var (v := iV k) rfl) (by decide))) (ea_cons (ev_c (v := iV 0)) ea_nil))) (by show 3 ≤ 100000; decide))) fun v H2 e2 hv => q v H2 (e1.trans e2) ?_
    · show V.int _ = V.int _
      congr 1
      have : (10 : Int) ^ 18 = 1000000000000000000 := by decide
      have h2 : (10 : Nat) ^ 18 = 1000000000000000000 := by decide
      rw [h2]
      split <;> omega
    · obtain ⟨p, rfl, hp⟩ := hv
      refine ⟨p, rfl, m - 10 ^ 18, m % (10 ^ 37 + 43) * 83 + 7 * k, 0, newp_mono e1 (Ex.refl _) _ _ hp, ?_, Nat.le_refl _⟩
      have h1 : m % (10 ^ 37 + 43) < 10 ^ 37 + 43 := Nat.mod_lt _ (by decide)
      have h2 : m % (10 ^ 37 + 43) * 83 + 7 * k ≤ (10 ^ 37 + 43) * 83 + 21 := by omega
      exact Nat.lt_of_le_of_lt h2 (by decide)
abbrev N_l_pick : List Str := ["_law_store_here", "_law_many_here", "_law_digit", "_law_mixed"]
theorem sc_l_pick : FnScope N_l_pick ["_law_store_here", "_law_many_here"] (defScope s_l_pick) := ⟨rfl, rfl, rfl, by decide +kernel, rfl, by decide +kernel, by decide +kernel⟩
def sp_l_pick : Sp := fun vs H Q _ => ∃ (st : Addr) (n N : Nat), vs = [.ref st, iV n] ∧ 1 ≤ n ∧ n ≤ 5000 ∧ Sto H st N ∧ N ≤ 1000000 ∧ ∀ r H', r < n → Es st H H' → Sto H' st (N + 1) → Q (iV r) H'
theorem ok_l_pick (M : Ms mg) (F : Df K mg "_law_pick" s_l_pick) : Cal P w K mg base 1 "_law_pick" ["_law_store_here", "_law_many_here"] sp_l_pick := by
  refine mk_cal F sc_l_pick (fun vs H Q E h => ?_)
      (fun _ _ _ _ _ _ us hl => match us, hl with | [_, _], _ => rfl)
    (fun f cdv A outer s H vs Q E hr h => ⟨_,
      (pss_cons (ps_if (pt_cmpR op_gt (pe_ix ix_list (pv 0) pe_int (fun _ _ => rfl)) pe_int (nomark _))
          (pss_cons (ps_set (i := 2) sc_l_pick.nd rfl (by first | exact Or.inl rfl | exact Or.inr rfl) (pe_op op_modN (pe_callTy call_int1 (by rfl) M.int (by decide +kernel) (pa_cons (pe_ix ix_list (pv 0) pe_int (fun _ _ => rfl)) pa_nil)) (pv 1)))
        (pss_cons (ps_asg (pe_op op_fdivN (pe_ix ix_list (pv 0) pe_int (fun _ _ => rfl)) (pv 1)) (pg_sub (pv 0) pe_int set_list))
        (pss_one (ps_ret (pv 2)))))
          pss_nil)
        (pss_cons (ps_asg (pe_op op_add (pe_ix ix_list (pv 0) pe_int (fun _ _ => rfl)) pe_int) (pg_sub (pv 0) pe_int set_list))
        (pss_cons (ps_set (i := 3) sc_l_pick.nd rfl (by first | exact Or.inl rfl | exact Or.inr rfl) (pe_op op_modN (pe_callTy call_int1 (by rfl) M.int (by decide +kernel) (pa_cons (pe_op op_powW (pe_op op_add (pe_ix ix_list (pv 0) pe_int (fun _ _ => rfl)) (pe_op op_mul pe_int (pe_ix ix_list (pv 0) pe_int (fun _ _ => rfl)))) pe_int) pa_nil)) (pe_op op_add (pe_op op_powW pe_int pe_int) pe_int)))
        (pss_cons (ps_set (i := 3) sc_l_pick.nd rfl (by first | exact Or.inl rfl | exact Or.inr rfl) (pe_op op_modN (pe_callTy call_int1 (by rfl) M.int (by decide +kernel) (pa_cons (pe_op op_powW (pe_op op_add (pv 3) (pe_op op_mul pe_int (pe_ix ix_list (pv 0) pe_int (fun _ _ => rfl)))) pe_int) pa_nil)) (pe_op op_add (pe_op op_powW pe_int pe_int) pe_int)))
        (pss_one (ps_ret (pe_op op_modN (pe_callTy call_int1 (by rfl) M.int (by decide +kernel) (pa_cons (pe_op op_fdivN (pv 3) pe_int) pa_nil)) (pv 1))))))))
    , ?_⟩)
  · obtain ⟨_, _, _, rfl, _⟩ := h; rfl
  · obtain ⟨st, n, N, rfl, h1, h2, ⟨x, y, c, hst, hy, hc⟩, hN, q⟩ := h
    have hS : SqL K H st [iV x, iV y, iV c] := sq_of hst
    by_cases hx : 0 < x
    · refine q_when (b := true) (et_is (et_test (ev_op (ev_op (ev_var rfl) ev_c (rv_ixL hS (atI_nat (j := 0) rfl))) ev_c rv_I0)) (decide_eq_true (by omega))) (fun _ H1 e1 => ?_) (fun z => Bool.noConfusion z)
      have hS1 := ex_l e1 hS
      refine q_asg (ev_modN (ev_int1 (ev_op (ev_var rfl) ev_c (rv_ixL hS1 (atI_nat (j := 0) rfl)))) (ev_var (v := iV n) rfl) (by omega)) fun H2 e2 => ?_
      have hS2 := ex_l e2 hS1
      refine q_setL (j := 0) ((e1.trans e2) _ _ hst) (ev_divN (ev_op (ev_var rfl) ev_c (rv_ixL hS2 (atI_nat (j := 0) rfl))) (ev_var (v := iV n) rfl) (by omega) (by omega)) (ev_var rfl) ev_c (by show 0 < 3; decide) fun H3 e3 => ?_
      refine s_ret (ev_var rfl) fun H4 e4 => q _ H4 (Nat.mod_lt _ (by omega)) ((es_upd ((e1.trans e2).trans e3)).trans (.of e4)) (Sto.mono ⟨x / n, y, c, upd_same, hy, by omega⟩ e4)
    · refine q_when (b := false) (et_is (et_test (ev_op (ev_op (ev_var rfl) ev_c (rv_ixL hS (atI_nat (j := 0) rfl))) ev_c rv_I0)) (decide_eq_false (by omega))) (fun z => Bool.noConfusion z) fun _ H1 e1 => ?_
      have hS1 := ex_l e1 hS
      refine q_setL (j := 2) (e1 _ _ hst) (ev_addN (ev_op (ev_var rfl) ev_c (rv_ixL hS1 (atI_nat (j := 2) rfl))) (ev_c (v := iV 1))) (ev_var rfl) ev_c (by show 2 < 3; decide) fun H2 e2 => ?_
      have e02 : Es st H (upd H2 st (.lst ([iV x, iV y, iV c].set 2 (iV (c + 1))))) := es_upd (e1.trans e2)
      have hst2 : (upd H2 st (.lst ([iV x, iV y, iV c].set 2 (iV (c + 1))))) st = some (.lst [iV x, iV y, iV (c + 1)]) := upd_same
      generalize upd H2 st (.lst ([iV x, iV y, iV c].set 2 (iV (c + 1)))) = H3 at e02 hst2
      have hS3 : SqL K H3 st [iV x, iV y, iV (c + 1)] := sq_of hst2
      have b1 : y + 32416187567 * (c + 1) < 2 ^ 200 := big1 hy (by omega) (by decide)
      refine q_asg (ev_modN (ev_int1 (ev_powN (b := 3) (m := 200) (ev_addN (ev_op (ev_var rfl) ev_c (rv_ixL hS3 (atI_nat (j := 1) rfl))) (ev_mulN' (ev_c (v := iV 32416187567)) (ev_op (ev_var rfl) ev_c (rv_ixL hS3 (atI_nat (j := 2) rfl))) (by decide))) ev_c b1 (by decide))) (ev_addN (ev_powN (a := 10) (b := 40) (m := 4) ev_c ev_c (by decide) (by decide)) (ev_c (v := iV 121))) (by decide)) fun H4 e4 => ?_
      have b2 := Nat.mod_lt ((y + 32416187567 * (c + 1)) ^ 3) (show 0 < 10 ^ 40 + 121 by decide)
      generalize (y + 32416187567 * (c + 1)) ^ 3 % (10 ^ 40 + 121) = m1 at b2
      have hS4 := ex_l e4 hS3
      have b3 : m1 + 27644437 * (c + 1) < 2 ^ 200 := big1 (Nat.lt_of_lt_of_le b2 (by decide)) (by omega) (by decide)
      refine q_asg (ev_modN (ev_int1 (ev_powN (b := 3) (m := 200) (ev_addN (ev_var (v := iV m1) rfl) (ev_mulN' (ev_c (v := iV 27644437)) (ev_op (ev_var rfl) ev_c (rv_ixL hS4 (atI_nat (j := 2) rfl))) (by decide))) ev_c b3 (by decide))) (ev_addN (ev_powN (a := 10) (b := 39) (m := 4) ev_c ev_c (by decide) (by decide)) (ev_c (v := iV 3))) (by decide)) fun H5 e5 => ?_
      generalize (m1 + 27644437 * (c + 1)) ^ 3 % (10 ^ 39 + 3) = m2
      refine s_ret (ev_modN (ev_int1 (ev_divN (ev_var (v := iV m2) rfl) (ev_c (v := iV 16381)) (by decide) (by decide))) (ev_var (v := iV n) rfl) (by omega)) fun H6 e6 => q _ H6 (Nat.mod_lt _ (by omega)) (e02.trans (.of ((e4.trans e5).trans e6))) (Sto.mono ⟨x, y, c + 1, hst2, hy, by omega⟩ ((e4.trans e5).trans e6))
end
end Ly
end
section
set_option Elab.async false
set_option linter.all false
set_option maxRecDepth 100000
set_option maxHeartbeats 4000000
/-! The walk: the law's own numbers. -/
namespace Ly
open PySem PySem.Spec PyProof.Rows L2 Evl Hd Pn
theorem count_int : ∀ (w : List Nat) (k : Nat), (w.map Int.ofNat).count (k : Int) = w.count k
  | [], k => rfl
  | x :: w, k => by
    rw [List.map_cons, List.count_cons, List.count_cons, count_int w k]
    congr 1
    have : (Int.ofNat x == (k : Int)) = (x == k) := by
      rw [Bool.eq_iff_iff, beq_iff_eq, beq_iff_eq]
      exact ⟨fun h => Int.ofNat.inj h, fun h => by rw [h]; rfl⟩
    rw [this]
section
variable {K : PySem.W.Frag} {σ : L2.St} {H : Hp} {ta tb te : TE} {x y z v : V}
theorem ev_countN {a : Addr} {w : List Nat} {k : Nat} (ha : Ev ta σ H (.ref a)) (hs : SqL K H a (w.map iV)) (hb : Ev tb σ H (iV k)) : Ev (tBM K "list" (rCntI K) ta (tCons tb tNil)) σ H (iV (w.count k)) := fun H1 e Q q =>
  ha H1 e _ fun H2 e2 => ⟨Or.inl ⟨rfl, _, ex_l (e.trans e2) hs⟩, hb H2 (e.trans e2) _ fun H3 e3 => ⟨a, w.map Int.ofNat, (k : Int), rfl, rfl, by rw [← map_iV]; exact ex_l ((e.trans e2).trans e3) hs, by rw [count_int]; exact q H3 (e2.trans e3)⟩⟩
theorem ev_countL {w : List Nat} {k : Nat} (ha : EvL ta σ H (w.map iV)) (hb : Ev tb σ H (iV k)) : Ev (tBM K "list" (rCntI K) ta (tCons tb tNil)) σ H (iV (w.count k)) := fun H1 e Q q =>
  ha H1 e _ fun a H2 _ e2 h2 => ⟨Or.inl ⟨rfl, _, sq_of h2⟩, hb H2 (e.trans e2) _ fun H3 e3 => ⟨a, w.map Int.ofNat, (k : Int), rfl, rfl, by rw [← map_iV]; exact sq_of (e3 _ _ h2), by rw [count_int]; exact q H3 (e2.trans e3)⟩⟩
/-- an item of a list of numbers -/
theorem ev_ixN {p : Addr} {w : List Nat} {i : Nat} (ha : Ev ta σ H (.ref p)) (hb : Ev tb σ H (iV i)) (h : SqL K H p (w.map iV)) (hi : i < w.length) : Ev (tOp (rIxL K) ta tb) σ H (iV w[i]) :=
  ev_op ha hb (rv_ixL h (atI_nat (by rw [List.getElem?_map, List.getElem?_eq_getElem hi]; rfl)))
end
theorem q_par {σ : L2.St} {H : Hp} {D : Ends} {tz : TS} {i j : Nat} {ta : TA} {x y : V} (h : EvA ta σ H [x, y]) (k : ∀ H1, Ex H H1 → tz D ((σ.set i (some x)).set j (some y)) H1) : tSeq (tPar i j ta) tz D σ H := h H (Ex.refl _) _ fun H1 e => ⟨x, y, rfl, k H1 e⟩
section
variable {P : Program} {w : World} {K : PySem.W.Frag} {mg : Str → Option Value} {base : Heap}
abbrev N_l_plugs : List Str := ["_law_word_here", "_law_who"]
theorem sc_l_plugs : FnScope N_l_plugs ["_law_word_here"] (defScope s_l_plugs) := ⟨rfl, rfl, rfl, by decide +kernel, rfl, by decide +kernel, by decide +kernel⟩
def sp_l_plugs : Sp := spP (fun (z : Addr × List Nat) vs H => vs = [.ref z.1] ∧ H z.1 = some (.lst (z.2.map iV)) ∧ z.2.length ≤ 60) fun z => IsL (fl (z.2.length + 2) (pw z.2))
theorem ok_l_plugs (M : Ms mg) (F : Df K mg "_law_plugs" s_l_plugs) : Cal P w K mg base 1 "_law_plugs" ["_law_word_here"] sp_l_plugs := by
  refine mk_cal F sc_l_plugs (fun vs H Q E h => ?_)
      (fun _ _ _ _ _ _ us hl => match us, hl with | [_], _ => rfl)
    (fun f cdv A outer s H vs Q E hr h => ⟨_,
      (pss_one (ps_ret (pe_lc (own := [("_law_who", 1)]) (tt := tYes) rfl sc_l_plugs.nd (pi_range1 rfl M.range (pa_cons (pe_op op_add (pe_callB call_len_seq (by rfl) M.len PySem.boot_len (pa_cons (pv 0) pa_nil)) pe_int) pa_nil)) (blkOk_by (own := [("_law_who", 1)]) (N := N_l_plugs) (sc := defScope s_l_plugs) (by decide +kernel)) (fun _ _ _ _ _ => (pg_name (i := 1) sc_l_plugs.nd rfl (by first | exact Or.inl rfl | exact Or.inr rfl))) (fun _ _ _ _ _ => pts_nil) (fun _ _ _ _ _ => (pe_op op_add (show PE _ _ (tBM K "list" _ _ _) from (pe_bm PySem.F.plainAttrs_list PySem.F.slot_list_count PySem.F.type_list_count (show MtR _ _ (rCntI K) from mt_lcount) (pv 0) (pa_cons (pv 1) pa_nil))) pe_int)))))
    , ?_⟩)
  · obtain ⟨i, ⟨rfl, _⟩, _⟩ := h; rfl
  · obtain ⟨⟨a, wd⟩, ⟨rfl, hw, hl⟩, q⟩ := h
    simp only at hw hl q
    have hS : SqL K H a (wd.map iV) := sq_of hw
    refine s_retP (evp_ofL (el_lc (fun _ => true) (fun i => iV (pw wd i)) (itw_range1 (n := wd.length + 2) (ea_cons (ev_is (ev_op (ev_len0 (ev_var rfl) hS) ev_c rv_I0) ?_) ea_nil) (by omega)) (by omega) (fun _ _ => trivial) fun i x H1 e1 hi hx R k => k _ rfl et_yes fun _ => ?_)) fun v H1 e1 hv => q v H1 e1 ?_
    · rw [List.length_map]; rfl
    · subst hx
      exact ev_addN (ev_countN (ev_var rfl) (ex_l e1 hS) (ev_var (v := iV i) rfl)) (ev_c (v := iV 1))
    · rw [fl_given] at hv
      exact hv
abbrev N_l_binomial : List Str := ["_law_many_here", "_law_taken", "_law_found", "_law_turn"]
theorem sc_l_binomial : FnScope N_l_binomial ["_law_many_here", "_law_taken"] (defScope s_l_binomial) := ⟨rfl, rfl, rfl, by decide +kernel, rfl, by decide +kernel, by decide +kernel⟩
theorem ok_l_binomial (M : Ms mg) (F : Df K mg "_law_binomial" s_l_binomial) : Cal P w K mg base 1 "_law_binomial" ["_law_many_here", "_law_taken"] sp_choices := by
  refine mk_cal F sc_l_binomial (fun vs H Q E h => ?_)
      (fun _ _ _ _ _ _ us hl => match us, hl with | [_, _], _ => rfl)
    (fun f cdv A outer s H vs Q E hr h => ⟨_,
      (pss_cons (ps_if (pt_not (pt_chain op_le op_le pe_int (pv 1) (pv 0)))
          (pss_one (ps_ret pe_int))
          pss_nil)
        (pss_cons (ps_set (i := 2) sc_l_binomial.nd rfl (by first | exact Or.inl rfl | exact Or.inr rfl) pe_int)
        (pss_cons (ps_for PassesOwn.never rfl (pi_range1 rfl M.range (pa_cons (pv 1) pa_nil)) (pg_name (i := 3) sc_l_binomial.nd rfl (by first | exact Or.inl rfl | exact Or.inr rfl))
          (pss_one (ps_set (i := 2) sc_l_binomial.nd rfl (by first | exact Or.inl rfl | exact Or.inr rfl) (pe_op op_fdivN (pe_op op_mul (pv 2) (pe_op op_sub (pv 0) (pv 3))) (pe_op op_add (pv 3) pe_int)))))
        (pss_one (ps_ret (pv 2))))))
    , ?_⟩)
  · obtain ⟨i, ⟨rfl, _⟩, _⟩ := h; rfl
  · obtain ⟨⟨n, t⟩, ⟨rfl, hn⟩, q⟩ := h
    simp only at q hn
    have test : EvT (tNot (tTest (tChain (rI0 fun i j => .bl (decide (i ≤ j))) (rI0 fun i j => .bl (decide (i ≤ j))) (tC (.int 0)) (tVar 1) (tVar 0)))) [some (iV n), some (.int t), none, none] H (!(decide (0 ≤ t) && decide (t ≤ n))) :=
      et_not (et_test (ev_chain ev_c (ev_var rfl) rv_I0 (fun _ => ev_var (v := iV n) rfl) fun _ => rv_I0))
    by_cases ht : 0 ≤ t ∧ t ≤ n
    · obtain ⟨k, rfl⟩ : ∃ k : Nat, t = (k : Int) := ⟨t.toNat, by omega⟩
      have hk : k ≤ n := by omega
      refine q_when (b := false) (et_is test (by rw [decide_eq_true ht.1, decide_eq_true ht.2]; rfl)) (fun z => Bool.noConfusion z) fun _ H1 e1 => ?_
      refine q_asg (ev_c (v := .int 1)) fun H2 e2 => ?_
      refine q_for (itw_range1 (n := k) (ea_cons (ev_var rfl) ea_nil) (by omega))
        (fun i σ' H' => ∃ y3, σ' = [some (iV n), some (iV k), some (iV (ch n i)), y3] ∧ Ex H H') (fun H3 e3 => ⟨none, by rw [ch_zero]; rfl, (e1.trans e2).trans e3⟩) (fun _ _ _ _ => trivial) (fun i x σ' H' H3 hi hw e3 hx => ?_) (fun σ' H' hw => ?_)
      · obtain ⟨y3, rfl, ex⟩ := hw
        subst hx
        refine s_asg (ev_divN (ev_mulN (ev_var (v := iV (ch n i)) rfl) (ev_subN (ev_var (v := iV n) rfl) (ev_var (v := iV i) rfl) (by omega)) (by omega)) (ev_addN (ev_var (v := iV i) rfl) (ev_c (v := iV 1))) (by omega) (by omega)) fun H4 e4 => ⟨some (iV i), ?_, (ex.trans e3).trans e4⟩
        rw [ch_turn (by omega)]; rfl
      · obtain ⟨y3, rfl, ex⟩ := hw
        refine s_ret (ev_var rfl) fun H3 e3 => q _ H3 (ex.trans e3) ?_
        show iV (ch n k) = iV (chI n k)
        rw [chI_eq]
    · refine q_when (b := true) (et_is test ?_) (fun _ H1 e1 => s_ret ev_c fun H2 e2 => q _ H2 (e1.trans e2) ?_) (fun z => Bool.noConfusion z)
      · by_cases h0 : 0 ≤ t
        · rw [decide_eq_true h0, decide_eq_false (fun z => ht ⟨h0, z⟩)]; rfl
        · rw [decide_eq_false h0]; rfl
      · have : chI n t = 0 := by unfold chI; rw [if_neg ht]
        rw [this]; rfl
abbrev N_l_fraction : List Str := ["_law_top", "_law_bottom", "_law_one_here", "_law_other_here"]
theorem sc_l_fraction : FnScope N_l_fraction ["_law_top", "_law_bottom"] (defScope s_l_fraction) := ⟨rfl, rfl, rfl, by decide +kernel, rfl, by decide +kernel, by decide +kernel⟩
theorem ok_l_fraction (M : Ms mg) (F : Df K mg "_law_fraction" s_l_fraction) : Cal P w K mg base 1 "_law_fraction" ["_law_top", "_law_bottom"] sp_lowest := by
  refine mk_cal F sc_l_fraction (fun vs H Q E h => ?_)
      (fun _ _ _ _ _ _ us hl => match us, hl with | [_, _], _ => rfl)
    (fun f cdv A outer s H vs Q E hr h => ⟨_,
      (pss_cons (ps_par (i := 2) (j := 3) (by rfl) sc_l_fraction.nd rfl rfl (by decide) rfl rfl (pa_cons (pv 0) (pa_cons (pv 1) pa_nil)) (by rfl))
        (pss_cons (ps_while PassesOwn.never (pt_cmpR op_gt (pv 3) pe_int (nomark _))
          (pss_one (ps_par (i := 2) (j := 3) (by rfl) sc_l_fraction.nd rfl rfl (by decide) rfl rfl (pa_cons (pv 3) (pa_cons (pe_op op_modN (pe_callTy call_int1 (by rfl) M.int (by decide +kernel) (pa_cons (pv 2) pa_nil)) (pv 3)) pa_nil)) (by rfl))))
        (pss_one (ps_ret (pe_tup (pa_cons (pe_op op_fdivW (pv 0) (pv 2)) (pa_cons (pe_op op_fdivW (pv 1) (pv 2)) pa_nil)))))))
    , ?_⟩)
  · obtain ⟨i, ⟨rfl, _⟩, _⟩ := h; rfl
  · obtain ⟨⟨t, b⟩, ⟨rfl, h0, h1⟩, q⟩ := h
    simp only at q h0 h1
    have g0 : 0 < Nat.gcd t b := Nat.gcd_pos_of_pos_right _ h0
    have g1 : Nat.gcd t b < 2 ^ 200 := Nat.lt_of_le_of_lt (Nat.gcd_le_right _ h0) h1
    refine q_par (ea_cons (ev_var (v := iV t) rfl) (ea_cons (ev_var (v := iV b) rfl) ea_nil)) fun H1 e1 => ?_
    refine q_while (fun m σ' H' => ∃ a c : Nat, σ' = [some (iV t), some (iV b), some (iV a), some (iV c)] ∧ Ex H H' ∧ Nat.gcd a c = Nat.gcd t b ∧ m = c) b ⟨t, b, rfl, e1, rfl, rfl⟩ fun m σ' H' hw => ?_
    obtain ⟨a, c, rfl, ex, hg, rfl⟩ := hw
    by_cases hc : m = 0
    · refine ⟨false, et_is (et_test (ev_op (ev_var (v := iV m) rfl) ev_c rv_I0)) (decide_eq_false (by omega)), (fun z => Bool.noConfusion z), fun _ H1 e1 => ?_⟩
      rw [hc, Nat.gcd_zero_right] at hg
      subst hg
      refine s_retU (eu_tup (ea_cons (ev_divW (ev_var (v := iV t) rfl) (ev_var (v := iV (Nat.gcd t b)) rfl) g0 g1) (ea_cons (ev_divW (ev_var (v := iV b) rfl) (ev_var (v := iV (Nat.gcd t b)) rfl) g0 g1) ea_nil)) (by show 2 ≤ 100000; decide)) fun p H2 hp e2 h2 => q _ H2 ((ex.trans e1).trans e2) ⟨p, rfl, newp_of (fresh_back (ex.trans e1) hp) h2⟩
    · refine ⟨true, et_is (et_test (ev_op (ev_var (v := iV m) rfl) ev_c rv_I0)) (decide_eq_true (by omega)), fun _ H1 e1 => ⟨fun σ2 H2 => ∃ a' c' : Nat, σ2 = [some (iV t), some (iV b), some (iV a'), some (iV c')] ∧ Ex H H2 ∧ Nat.gcd a' c' = Nat.gcd t b ∧ c' < m, ?_, ?_⟩, (fun z => Bool.noConfusion z)⟩
      · rintro σ2 H2 ⟨a', c', rfl, e2, g2, lt⟩
        exact ⟨c', lt, a', c', rfl, e2, g2, rfl⟩
      · refine (ea_cons (ev_var (v := iV m) rfl) (ea_cons (ev_modN (ev_int1 (ev_var (v := iV a) rfl)) (ev_var (v := iV m) rfl) (by omega)) ea_nil)) H1 (Ex.refl _) _ fun H2 e2 => ⟨_, _, rfl, m, a % m, rfl, (ex.trans e1).trans e2, ?_, Nat.mod_lt _ (by omega)⟩
        rw [← hg, Nat.gcd_comm m, ← Nat.gcd_rec, Nat.gcd_comm]
abbrev N_l_many : List Str := ["_law_word_here", "_law_found", "_law_turn"]
theorem sc_l_many : FnScope N_l_many ["_law_word_here"] (defScope s_l_many) := ⟨rfl, rfl, rfl, by decide +kernel, rfl, by decide +kernel, by decide +kernel⟩
def AnyN : Ph := fun v _ => ∃ m : Nat, v = iV m
def sp_l_many : Sp := spP (fun (z : Addr × List Nat) vs H => vs = [.ref z.1] ∧ H z.1 = some (.lst (z.2.map iV)) ∧ z.2.length ≤ 60) fun _ => AnyN
theorem cutTo (xs : List V) (k : Nat) : cutV xs none (some (k : Int)) = xs.take k := by
  unfold cutV
  rw [HT.sIx_none, show HT.sIx xs.length xs.length (some (k : Int)) = min k xs.length from HT.sIx_nat xs.length xs.length k]
  simp
theorem ok_l_many (M : Ms mg) (F : Df K mg "_law_many" s_l_many) : Cal P w K mg base 1 "_law_many" ["_law_word_here"] sp_l_many := by
  refine mk_cal F sc_l_many (fun vs H Q E h => ?_)
      (fun _ _ _ _ _ _ us hl => match us, hl with | [_], _ => rfl)
    (fun f cdv A outer s H vs Q E hr h => ⟨_,
      (pss_cons (ps_set (i := 1) sc_l_many.nd rfl (by first | exact Or.inl rfl | exact Or.inr rfl) pe_int)
        (pss_cons (ps_for PassesOwn.never rfl (pi_range1 rfl M.range (pa_cons (pe_callB call_len_seq (by rfl) M.len PySem.boot_len (pa_cons (pv 0) pa_nil)) pa_nil)) (pg_name (i := 2) sc_l_many.nd rfl (by first | exact Or.inl rfl | exact Or.inr rfl))
          (pss_one (ps_set (i := 1) sc_l_many.nd rfl (by first | exact Or.inl rfl | exact Or.inr rfl) (pe_op op_fdivN (pe_op op_mul (pv 1) (pe_op op_add (pv 2) pe_int)) (pe_bm PySem.F.plainAttrs_list PySem.F.slot_list_count PySem.F.type_list_count mt_lcount (pe_slice sl_list (pv 0) po_none (po_some (pe_op op_add (pv 2) pe_int))) (pa_cons (pe_ix ix_list (pv 0) (pv 2) (fun _ _ => rfl)) pa_nil))))))
        (pss_one (ps_ret (pv 1)))))
    , ?_⟩)
  · obtain ⟨i, ⟨rfl, _⟩, _⟩ := h; rfl
  · obtain ⟨⟨a, wd⟩, ⟨rfl, hw, hl⟩, q⟩ := h
    simp only at hw hl q
    have hS : SqL K H a (wd.map iV) := sq_of hw
    refine q_asg (ev_c (v := iV 1)) fun H1 e1 => ?_
    refine q_for (itw_range1 (n := wd.length) (ea_cons (ev_is (ev_len0 (ev_var rfl) (ex_l e1 hS)) (by rw [List.length_map])) ea_nil) (by omega))
      (fun i σ' H' => ∃ m y2, σ' = [some (.ref a), some (iV m), y2] ∧ Ex H H') (fun H2 e2 => ⟨1, none, rfl, e1.trans e2⟩) (fun _ _ _ _ => trivial) (fun i x σ' H' H3 hi hw e3 hx => ?_) (fun σ' H' hw => ?_)
    · obtain ⟨m, y2, rfl, ex⟩ := hw
      subst hx
      have hS3 := ex_l (ex.trans e3) hS
      have hsl : EvL (tSl (rSlL K) (tVar 0) tNoPart (tPart (tOp (rI0 fun i j => .int (i + j)) (tVar 2) (tC (.int 1))))) [some (.ref a), some (iV m), some (iV i)] H3 ((wd.take (i + 1)).map iV) := by
        have := el_sl (K := K) (ev_var (σ := [some (.ref a), some (iV m), some (iV i)]) (H := H3) (i := 0) rfl) eo_none (eo_some (ev_addN (ev_var (i := 2) (v := iV i) rfl) (ev_c (v := iV 1)))) hS3
        rw [cutTo] at this
        rw [List.map_take]
        exact this
      have hc : 1 ≤ (wd.take (i + 1)).count wd[i] := List.count_pos_iff.mpr (by
        rw [List.take_add_one, List.getElem?_eq_getElem hi]; exact List.mem_append_right _ (List.mem_singleton.mpr rfl))
      have hc2 : (wd.take (i + 1)).count wd[i] ≤ 60 := Nat.le_trans List.count_le_length (by rw [List.length_take]; omega)
      refine s_asg (ev_divN (ev_mulN (ev_var (v := iV m) rfl) (ev_addN (ev_var (v := iV i) rfl) (ev_c (v := iV 1))) (by omega)) (ev_countL hsl (ev_ixN (ev_var rfl) (ev_var (v := iV i) rfl) hS3 hi)) hc (by omega)) fun H4 e4 => ⟨_, some (iV i), rfl, (ex.trans e3).trans e4⟩
    · obtain ⟨m, y2, rfl, ex⟩ := hw
      exact s_ret (ev_var rfl) fun H3 e3 => q _ H3 (ex.trans e3) ⟨m, rfl⟩
end
end Ly
end
section
/-! Words: beginnings, how many; parts that grow together; groups and their plugs. -/
set_option linter.all false
set_option maxHeartbeats 1000000
namespace Pn
theorem Stt.two_min {n : Nat} {d : Nat → Nat} (h : Stt n 0 d) : ∀ y, fi n d + 1 ≤ y → y < se n d → d y ≠ 1 := by
  obtain ⟨h1, h2, h3, h4, h5⟩ := h.two
  intro y hy1 hy2 e
  have := h5 y (by omega) (by omega) (by omega)
  omega
theorem count_lt {w : List Nat} {i : Nat} (hi : i < w.length) : (w.take i).count w[i] < w.count w[i] := by
  have e : w.count w[i] = (w.take i).count w[i] + (w.drop i).count w[i] := by
    rw [← List.count_append, List.take_append_drop]
  have : 0 < (w.drop i).count w[i] := List.count_pos_iff.mpr (by
    rw [List.drop_eq_getElem_cons hi]
    exact List.mem_cons_self ..)
  omega
theorem Beg.ge2 {w b : List Nat} {d : Nat → Nat} (h : Beg w b d) {u : Nat} (hu : u < w.length + 2) (hc : b.count u < w.count u) : 2 ≤ d u := by
  have := h.cnt u hu
  omega
theorem beg_take {w : List Nat} (h : ∀ s ∈ w, s < w.length + 2) : ∀ i, i ≤ w.length → Beg w (w.take i) (aft (w.length + 2) (pw w) (w.take i))
  | 0, _ => by rw [List.take_zero]; exact beg_nil h
  | i + 1, hi => by
    have hi' : i < w.length := by omega
    have ih := beg_take h i (by omega)
    have hs := h _ (List.getElem_mem hi')
    rw [List.take_add_one, List.getElem?_eq_getElem hi', Option.toList, aft_snoc]
    exact ih.snoc (by rw [List.length_take]; omega) hs (ih.ge2 hs (count_lt hi'))
theorem beg_turn {w : List Nat} (h : ∀ s ∈ w, s < w.length + 2) {i : Nat} (hi : i < w.length) : 2 ≤ aft (w.length + 2) (pw w) (w.take i) w[i] :=
  (beg_take h i (by omega)).ge2 (h _ (List.getElem_mem hi)) (count_lt hi)

/-! ### how many words -/
theorem nd_len' {α : Type} [DecidableEq α] {l m : List α} (h : l.Nodup) (k : ∀ a ∈ l, a ∈ m) : l.length ≤ m.length := by
  induction l generalizing m with
  | nil => exact Nat.zero_le _
  | cons a l ih =>
    have hn := List.nodup_cons.mp h
    have ha := k a (by simp)
    have := ih (m := m.erase a) hn.2 fun b hb => (List.mem_erase_of_ne (fun e => hn.1 (by rw [← e]; exact hb))).mpr (k b (by simp [hb]))
    rw [List.length_erase_of_mem ha] at this
    have : 0 < m.length := List.length_pos_of_mem ha
    rw [List.length_cons]; omega
theorem sg_nd (n : Nat) (w b : List Nat) : (sg n w b).Pairwise (· < ·) := range_asc _ _
theorem sg_mem {n : Nat} {w b : List Nat} {s : Nat} : s ∈ sg n w b ↔ s < n ∧ b.count s < w.count s := by
  unfold sg
  rw [List.mem_filter, List.mem_range, decide_eq_true_eq]
theorem sg_len (n : Nat) (w b : List Nat) : (sg n w b).length ≤ w.length := nd_len' ((sg_nd n w b).imp fun q => by omega) fun s hs => by
  have := (sg_mem.mp hs).2
  exact List.count_pos_iff.mp (by omega)
theorem step_len {n : Nat} {w : List Nat} : ∀ l : List (List Nat), (stepW n w l).length ≤ w.length * l.length
  | [] => by simp [stepW]
  | b :: l => by
    have ih := step_len (n := n) (w := w) l
    unfold stepW at ih ⊢
    rw [List.flatMap_cons, List.length_append, List.length_map, List.length_cons, Nat.mul_succ]
    have := sg_len n w b
    omega
theorem itr_len {n : Nat} {w : List Nat} : ∀ k, (itr n w k [[]]).length ≤ w.length ^ k
  | 0 => by simp [itr]
  | k + 1 => by
    show (stepW n w (itr n w k [[]])).length ≤ _
    refine Nat.le_trans (step_len _) ?_
    rw [Nat.pow_succ, Nat.mul_comm]
    exact Nat.mul_le_mul_right _ (itr_len k)
theorem itr_mem {n : Nat} {w : List Nat} : ∀ k, ∀ b ∈ itr n w k [[]], b.length = k ∧ (∀ s, b.count s ≤ w.count s) ∧ ∀ s ∈ b, s < n
  | 0, b, h => by
    rw [show itr n w 0 [[]] = [[]] from rfl, List.mem_singleton] at h
    subst h
    exact ⟨rfl, fun s => Nat.zero_le _, fun s h => nomatch h⟩
  | k + 1, b, h => by
    rw [show itr n w (k + 1) [[]] = stepW n w (itr n w k [[]]) from rfl] at h
    unfold stepW at h
    obtain ⟨c, hc, hb⟩ := List.mem_flatMap.mp h
    obtain ⟨s, hs, rfl⟩ := List.mem_map.mp hb
    obtain ⟨h1, h2, h3⟩ := itr_mem k c hc
    obtain ⟨s1, s2⟩ := sg_mem.mp hs
    refine ⟨by rw [List.length_append, h1]; rfl, fun t => ?_, fun t ht => ?_⟩
    · rw [List.count_append, List.count_cons, List.count_nil]
      by_cases e : s = t
      · subst e; simp; omega
      · have := h2 t
        simp [e]; exact this
    · rcases List.mem_append.mp ht with z | z
      · exact h3 t z
      · rw [List.mem_singleton.mp z]; exact s1
theorem words_mem {w b : List Nat} (hw : ∀ s ∈ w, s < w.length + 2) (h : b ∈ words w) : b.length = w.length ∧ (∀ s ∈ b, s < w.length + 2) ∧ pw b = pw w := by
  obtain ⟨h1, h2, h3⟩ := itr_mem _ b h
  refine ⟨h1, h3, ?_⟩
  funext s
  unfold pw
  congr 1
  by_cases hs : s < w.length + 2
  · have e1 := count_sum (n := w.length + 2) b h3
    have e2 := count_sum (n := w.length + 2) w hw
    rw [h1] at e1
    apply Classical.byContradiction
    intro hne
    have hlt : b.count s < w.count s := Nat.lt_of_le_of_ne (h2 s) hne
    have : S (w.length + 2) (fun x => b.count x + if x = s then 1 else 0) ≤ S (w.length + 2) (fun x => w.count x) := S_le fun x _ => by
      by_cases e : x = s
      · rw [e, if_pos rfl]; exact hlt
      · rw [if_neg e]; exact h2 x
    rw [S_add, S_single (f := fun _ => 1) hs] at this
    omega
  · have a : b.count s = 0 := List.count_eq_zero.mpr fun m => hs (h3 s m)
    have c : w.count s = 0 := List.count_eq_zero.mpr fun m => hs (hw s m)
    rw [a, c]
theorem words_len (w : List Nat) (h : w.length ≤ 5) : (words w).length ≤ 3125 := by
  refine Nat.le_trans (itr_len _) ?_
  have : w.length = 0 ∨ w.length = 1 ∨ w.length = 2 ∨ w.length = 3 ∨ w.length = 4 ∨ w.length = 5 := by omega
  rcases this with e | e | e | e | e | e <;> rw [e] <;> decide
theorem itr_len5 {n : Nat} {w : List Nat} {k : Nat} (h : w.length ≤ 5) (hk : k ≤ w.length) : (itr n w k [[]]).length ≤ 3125 := by
  refine Nat.le_trans (itr_len _) ?_
  refine Nat.le_trans (Nat.pow_le_pow_left h k) (Nat.le_trans (Nat.pow_le_pow_right (by decide) (show k ≤ 5 by omega)) (by decide))

/-! ### parts that grow together -/
theorem one_inj {L : List Cab} {n r t : Nat} (h1 : r < n) (h2 : lab L r = r) (e : one (lab L) n r = one (lab L) n t) : r = t := by
  have : r ∈ one (lab L) n r := one_mem.mpr ⟨h1, h2⟩
  rw [e] at this
  have := (one_mem.mp this).2
  omega
theorem cls_nd (L : List Cab) (n : Nat) : (cls (lab L) n).Nodup := by
  unfold cls
  have hp : (reps (lab L) n).Pairwise (· < ·) := range_asc _ _
  have : (reps (lab L) n).Pairwise fun a b => one (lab L) n a ≠ one (lab L) n b := by
    refine List.Pairwise.imp_of_mem (fun {a b} ha hb q e => ?_) hp
    have := reps_mem.mp ha
    have := one_inj this.1 this.2 e
    omega
  exact List.pairwise_map.mpr this
theorem cls_has {L : List Cab} {n : Nat} {ps : List Nat} (h : ps ∈ cls (lab L) n) {x : Nat} (hx : x < n) : x ∈ ps ↔ ps = one (lab L) n (lab L x) := by
  obtain ⟨r, t, h1, h2, h3, _⟩ := cls_mem h
  rw [h3, one_mem]
  constructor
  · rintro ⟨_, e⟩; rw [e]
  · intro e
    have := one_inj h1 h2 e
    exact ⟨hx, this.symm⟩
theorem cls_of {L : List Cab} {n x : Nat} (hx : x < n) : one (lab L) n (lab L x) ∈ cls (lab L) n :=
  List.mem_map.mpr ⟨lab L x, reps_mem.mpr ⟨Nat.lt_of_le_of_lt (lab_le L x) hx, lab_idem L x⟩, rfl⟩
/-- one more cable -/
theorem cls_snoc {L : List Cab} {n : Nat} {c : Cab} (h1 : c.1 < n) (h2 : c.2 < n) {F : List (List Nat)} (hF : F.Perm (cls (lab L) n)) :
    ((F.filter fun ps => !(decide (c.1 ∈ ps) || decide (c.2 ∈ ps))) ++ [(List.range n).filter fun x => decide (lab L x = lab L c.1 ∨ lab L x = lab L c.2)]).Perm (cls (lab (L ++ [c])) n) := by
  have hm : ∀ ps, ps ∈ F ↔ ps ∈ cls (lab L) n := fun ps => hF.mem_iff
  have key : ∀ x, mg (lab L) c x = min (lab L c.1) (lab L c.2) ↔ (lab L x = lab L c.1 ∨ lab L x = lab L c.2) := fun x => by
    unfold mg
    split <;> omega
  have key2 : ∀ x r, r ≠ min (lab L c.1) (lab L c.2) → r ≠ max (lab L c.1) (lab L c.2) → (mg (lab L) c x = r ↔ lab L x = r) := fun x r a b => by
    unfold mg
    split <;> omega
  have em : (List.range n).filter (fun x => decide (lab L x = lab L c.1 ∨ lab L x = lab L c.2)) = one (lab (L ++ [c])) n (min (lab L c.1) (lab L c.2)) := by
    unfold one
    rw [lab_snoc]
    refine List.filter_congr fun x _ => ?_
    rw [decide_eq_decide]
    exact (key x).symm
  have e1 : ∀ r, r ≠ min (lab L c.1) (lab L c.2) → r ≠ max (lab L c.1) (lab L c.2) → one (lab (L ++ [c])) n r = one (lab L) n r := fun r a b => by
    unfold one
    rw [lab_snoc]
    refine List.filter_congr fun x _ => ?_
    rw [decide_eq_decide]
    exact key2 x r a b
  rw [em]
  have l1 : lab L c.1 < n := Nat.lt_of_le_of_lt (lab_le L _) h1
  have l2 : lab L c.2 < n := Nat.lt_of_le_of_lt (lab_le L _) h2
  have rm : lab (L ++ [c]) (min (lab L c.1) (lab L c.2)) = min (lab L c.1) (lab L c.2) := by
    rw [lab_snoc]
    rcases Nat.le_total (lab L c.1) (lab L c.2) with z | z
    · rw [key, Nat.min_eq_left z]
      exact .inl (lab_idem L _)
    · rw [key, Nat.min_eq_right z]
      exact .inr (lab_idem L _)
  have inn1 : ∀ ps ∈ cls (lab L) n, (!(decide (c.1 ∈ ps) || decide (c.2 ∈ ps))) = true ↔ (ps ≠ one (lab L) n (lab L c.1) ∧ ps ≠ one (lab L) n (lab L c.2)) := fun ps hp => by
    rw [Bool.not_eq_true', Bool.or_eq_false_iff, decide_eq_false_iff_not, decide_eq_false_iff_not, cls_has hp h1, cls_has hp h2]
  refine (List.perm_ext_iff_of_nodup ?_ (cls_nd _ _)).mpr fun ps => ?_
  · rw [List.nodup_append]
    refine ⟨((hF.nodup_iff).mpr (cls_nd L n)).filter _, List.pairwise_singleton _ _, fun a ha b hb e => ?_⟩
    rw [List.mem_singleton.mp hb] at e
    obtain ⟨a1, a2⟩ := List.mem_filter.mp ha
    rw [Bool.not_eq_true', Bool.or_eq_false_iff, decide_eq_false_iff_not] at a2
    refine a2.1 ?_
    rw [e, ← em, List.mem_filter, List.mem_range]
    exact ⟨h1, decide_eq_true (.inl rfl)⟩
  · rw [List.mem_append, List.mem_filter, List.mem_singleton, hm]
    constructor
    · rintro (⟨hp, q⟩ | rfl)
      · have q2 := (inn1 ps hp).mp q
        obtain ⟨r, t, r1, r2, r3, _⟩ := cls_mem hp
        have n1 : r ≠ lab L c.1 := fun e => q2.1 (by rw [r3, e])
        have n2 : r ≠ lab L c.2 := fun e => q2.2 (by rw [r3, e])
        have a : r ≠ min (lab L c.1) (lab L c.2) := by omega
        have b : r ≠ max (lab L c.1) (lab L c.2) := by omega
        refine List.mem_map.mpr ⟨r, reps_mem.mpr ⟨r1, ?_⟩, by rw [e1 r a b, r3]⟩
        rw [lab_snoc, key2 r r a b]; exact r2
      · exact List.mem_map.mpr ⟨_, reps_mem.mpr ⟨by omega, rm⟩, rfl⟩
    · intro hp
      obtain ⟨r, t, r1, r2, r3, _⟩ := cls_mem hp
      by_cases a : r = min (lab L c.1) (lab L c.2)
      · right; rw [r3, a]
      · left
        have b : r ≠ max (lab L c.1) (lab L c.2) := fun e => by
          have r2' := r2
          rw [lab_snoc] at r2'
          have : mg (lab L) c r = min (lab L c.1) (lab L c.2) := (key r).mpr (by
            rcases Nat.le_total (lab L c.1) (lab L c.2) with z | z
            · rw [Nat.max_eq_right z] at e
              rw [e]; exact .inr (lab_idem L _)
            · rw [Nat.max_eq_left z] at e
              rw [e]; exact .inl (lab_idem L _))
          omega
        have r2' : lab L r = r := by
          rw [lab_snoc, key2 r r a b] at r2; exact r2
        have hp2 : one (lab L) n r ∈ cls (lab L) n := List.mem_map.mpr ⟨r, reps_mem.mpr ⟨r1, r2'⟩, rfl⟩
        rw [r3, e1 r a b]
        refine ⟨hp2, (inn1 _ hp2).mpr ⟨fun e => ?_, fun e => ?_⟩⟩
        · have := one_inj r1 r2' e
          omega
        · have := one_inj r1 r2' e
          omega

/-! ### groups: known cables take two plugs each -/
section
variable {n : Nat} {d : Nat → Nat} {L : List Cab} {s : Nat → Bool}
theorem deg_cons2 (c : Cab) (L : List Cab) (x : Nat) : deg (c :: L) x = deg L x + (if tch c x then 1 else 0) := by
  unfold deg; rw [List.countP_cons]
theorem deg_sum2 (l : Nat → Nat) (s : Nat → Bool) : ∀ M : List Cab, (∀ c ∈ M, c.1 < c.2 ∧ c.2 < n ∧ l c.1 = l c.2) → S n (fun x => if s (l x) then deg M x else 0) = 2 * M.countP (fun c => s (l c.1))
  | [], _ => by
    rw [List.countP_nil]
    exact S_zero' fun i _ => by unfold deg; rw [List.countP_nil]; split <;> rfl
  | c :: M, h => by
    obtain ⟨h1, h2, h3⟩ := h c (by simp)
    have ih := deg_sum2 l s M fun e he => h e (by simp [he])
    have e : S n (fun x => if s (l x) then deg (c :: M) x else 0) = S n (fun x => (if s (l x) then deg M x else 0) + ((if x = c.1 then (if s (l x) then 1 else 0) else 0) + (if x = c.2 then (if s (l x) then 1 else 0) else 0))) := S_congr fun x _ => by
      rw [deg_cons2]
      unfold tch
      by_cases e1 : x = c.1
      · have e2 : x ≠ c.2 := by omega
        cases s (l x) <;> simp [e1]
        intro z; omega
      · by_cases e2 : x = c.2
        · cases s (l x) <;> simp [e2]
          intro z; omega
        · have a1 : ¬ c.1 = x := fun z => e1 z.symm
          have a2 : ¬ c.2 = x := fun z => e2 z.symm
          cases s (l x) <;> simp [e1, e2, a1, a2]
    rw [e, S_add, S_add, ih, S_single (f := fun x => if s (l x) then 1 else 0) (by omega : c.1 < n), S_single (f := fun x => if s (l x) then 1 else 0) h2, List.countP_cons, ← h3]
    cases s (l c.1) <;> simp <;> omega
/-- the plugs of a group, without those of known cables -/
theorem Sub.gr_total (h : Sub n d L) : ((gr n L s).map d).sum = ((gr n L s).map (op d L)).sum + 2 * known n L s := by
  unfold gr
  rw [S_filter, S_filter, known_eq h.mem, ← deg_sum2 (n := n) (lab L) s L fun c hc => ⟨(h.mem c hc).1, (h.mem c hc).2, lab_cable L c hc⟩, ← S_add]
  refine S_congr fun x hx => ?_
  have := h.dg x hx
  unfold op
  split <;> omega
end
end Pn
end
section
set_option Elab.async false
set_option linter.all false
set_option maxRecDepth 100000
set_option maxHeartbeats 2000000
/-! Lists that are changed on the way, sorted cables, places of numbers. -/
namespace Ly
open PySem PySem.Spec PyProof.Rows L2 Evl Hd Pn
/-- the cable that stands at a tuple -/
def cabOf (G : Hp) : V → Cab
  | .ref t => match G t with
    | some (.tup [.int i, .int j]) => (i.toNat, j.toNat)
    | _ => (0, 0)
  | _ => (0, 0)
theorem cabOf_CB {G : Hp} {c : Cab} {x : V} (h : CB c x G) : cabOf G x = c := by
  obtain ⟨t, rfl, ht⟩ := h
  show (match G t with
    | some (.tup [.int i, .int j]) => (i.toNat, j.toNat)
    | _ => (0, 0)) = c
  rw [ht]
  rfl
theorem al_cabs {G : Hp} : ∀ {cs : List Cab} {xs : List V}, Al (cs.map CB) xs G → cs = xs.map (cabOf G) ∧ ∀ x ∈ xs, CB (cabOf G x) x G
  | [], xs, h => by cases h; exact ⟨rfl, fun _ h => nomatch h⟩
  | c :: cs, xs, h => by
    cases h with
    | cons h1 h2 =>
      obtain ⟨e1, e2⟩ := al_cabs h2
      have e := cabOf_CB h1
      refine ⟨by rw [List.map_cons, e, ← e1], fun x hx => ?_⟩
      rcases List.mem_cons.mp hx with rfl | hx
      · rw [e]; exact h1
      · exact e2 x hx
theorem cabs_al {G : Hp} : ∀ {ys : List V}, (∀ y ∈ ys, CB (cabOf G y) y G) → Al ((ys.map (cabOf G)).map CB) ys G
  | [], _ => .nil
  | y :: ys, h => .cons (h y (by simp)) (cabs_al fun z hz => h z (by simp [hz]))
def kOf (G : Hp) (x : V) : Int × Int := (((cabOf G x).1 : Int), ((cabOf G x).2 : Int))
theorem al_sorted {G : Hp} {cs : List Cab} {xs ys : List V} (h : Al (cs.map CB) xs G) (hs : SrtO.Srtd (ltP (kOf G)) ys) (hp : ys.Perm xs) : Al ((srt cs).map CB) ys G := by
  obtain ⟨e1, e2⟩ := al_cabs h
  have : ys.map (cabOf G) = srt cs := by
    refine srt_of (by rw [e1]; exact hp.map _) (List.pairwise_map.mpr (List.Pairwise.imp (fun {a b} q => ?_) hs))
    have q2 : SrtO.lexB (kOf G b) (kOf G a) = false := q
    have q3 := SrtO.lexB_no.mp q2
    unfold kOf at q3
    simp only at q3
    rw [leC_iff]
    omega
  rw [← this]
  exact cabs_al fun y hy => e2 y (hp.mem_iff.mp hy)
/-! lists, new or not -/
def EvR (te : TE) (σ : L2.St) (H : Hp) (xs : List V) : Prop := ∀ H1, Ex H H1 → ∀ Q : VK, (∀ p H2, Ex H1 H2 → H2 p = some (.lst xs) → Q (.ref p) H2) → te σ H1 Q
section
variable {K : PySem.W.Frag} {σ : L2.St} {H H' : Hp} {ta tb te : TE} {x y z v : V} {D : Ends} {tz : TS} {Φ Ψ : Ph}
theorem er_new {xs : List V} (h : EvL te σ H xs) : EvR te σ H xs := fun H1 e Q q => h H1 e Q fun p H2 _ e2 h2 => q p H2 e2 h2
theorem er_val {a : Addr} {xs : List V} (h : Ev te σ H (.ref a)) (ha : H a = some (.lst xs)) : EvR te σ H xs := fun H1 e Q q => h H1 e Q fun H2 e2 => q a H2 e2 ((e.trans e2) _ _ ha)
theorem el_cat {xs ys : List V} (ha : EvR ta σ H xs) (hb : EvR tb σ H ys) (hl : xs.length + ys.length ≤ 40000) : EvL (tOp rCat ta tb) σ H (xs ++ ys) := fun H1 e Q q =>
  ha H1 e _ fun p H2 e2 h2 => hb H2 (e.trans e2) _ fun r H3 e3 h3 => ⟨p, r, xs, ys, rfl, rfl, e3 _ _ h2, h3, Nat.le_of_lt (sz_lt (n := xs.length + ys.length) (by omega)), fun t ht => q t _ (fresh_back (e2.trans e3) ht) ((e2.trans e3).trans (Ex.new ht)) upd_same⟩
theorem q_parP {i j : Nat} {ta : TA} (h : EvPA ta σ H [Φ, Ψ]) (k : ∀ x y H1, Ex H H1 → Φ x (newp H H1) → Ψ y (newp H H1) → tz D ((σ.set i (some x)).set j (some y)) H1) : tSeq (tPar i j ta) tz D σ H :=
  h H (Ex.refl _) _ fun vs H1 e a => by
    cases a with
    | cons a1 a2 =>
      cases a2 with
      | cons a2 a3 =>
        cases a3
        exact ⟨_, _, rfl, k _ _ H1 e a1 a2⟩
theorem flat_fl {n : Nat} {f : Nat → Nat} : (fl n f).all flatV = true := by rw [fl_map]; exact flat_iV _
theorem eqV_ne {a b : Nat} (h : a ≠ b) : eqV (iV a) (iV b) = false := by
  show ((a : Int) == (b : Int)) = false
  rw [beq_eq_false_iff_ne]; omega
/-- the place of the first one -/
theorem ev_idx1 {p : Addr} {n j : Nat} {f : Nat → Nat} (ha : Ev ta σ H (.ref p)) (hs : SqL K H p (fl n f)) (hb : Ev tb σ H (iV 1)) (hj : j < n) (h1 : f j = 1) (h2 : ∀ y, y < j → f y ≠ 1) : Ev (tBM K "list" (rIndex K) ta (tCons tb tNil)) σ H (iV j) := fun H1 e Q q =>
  ha H1 e _ fun H2 e2 => ⟨Or.inl ⟨rfl, _, ex_l (e.trans e2) hs⟩, hb H2 (e.trans e2) _ fun H3 e3 => ⟨p, fl n f, iV 1, j, iV (f j), rfl, rfl, ex_l ((e.trans e2).trans e3) hs, rfl, flat_fl, fl_at hj, by rw [h1]; rfl, fun m z hm hz => by
    rw [fl_at (by omega)] at hz
    cases hz
    exact eqV_ne (h2 m hm), q H3 (e2.trans e3)⟩⟩
theorem ev_idx2 {p : Addr} {n i j : Nat} {f : Nat → Nat} {tc : TE} (ha : Ev ta σ H (.ref p)) (hs : SqL K H p (fl n f)) (hb : Ev tb σ H (iV 1)) (hc : Ev tc σ H (iV i)) (hj : j < n) (hij : i ≤ j) (h1 : f j = 1) (h2 : ∀ y, i ≤ y → y < j → f y ≠ 1) : Ev (tBM K "list" (rIndexF K) ta (tCons tb (tCons tc tNil))) σ H (iV j) := fun H1 e Q q =>
  ha H1 e _ fun H2 e2 => ⟨Or.inl ⟨rfl, _, ex_l (e.trans e2) hs⟩, hb H2 (e.trans e2) _ fun H3 e3 => hc H3 ((e.trans e2).trans e3) _ fun H4 e4 => ⟨p, fl n f, iV 1, i, j, iV (f j), rfl, rfl, ex_l (((e.trans e2).trans e3).trans e4) hs, rfl, flat_fl, hij, fl_at hj, by rw [h1]; rfl, fun m z hm1 hm hz => by
    rw [fl_at (by omega)] at hz
    cases hz
    exact eqV_ne (h2 m hm1 hm), q H4 ((e2.trans e3).trans e4)⟩⟩
/-- sorted(found + [(x, y)]) -/
theorem sorted_net {H0 : Hp} {fp i : Nat} {vs : List V} {cs : List Cab} {tt : TE} {a b : Nat} {Q : VK} (fr : ∀ p, H p = none → H0 p = none) (hv : σ[i]? = some (some (.ref fp))) (hf : H fp = some (.lst vs)) (hal : Al (cs.map CB) vs (newp H0 H)) (hl : vs.length ≤ 1000) (ht : EvU tt σ H [iV a, iV b])
    (q : ∀ v H2, Ex H H2 → CL (srt (cs ++ [(a, b)])) v (newp H0 H2) → Q v H2) : tCB (rSortedPO K) (tCons (tOp rCat (tVar i) (tLst (tCons tt tNil))) tNil) σ H Q := by
  refine ⟨.ref fp, hv, ?_⟩
  refine ht H (Ex.refl _) _ fun t H1 htn e1 h1 => ⟨sz_of (n := 1) (by decide), fun p hp => ?_⟩
  have hp1 : upd H1 p (.lst [V.ref t]) p = some (.lst [V.ref t]) := upd_same
  have e2 : Ex H1 (upd H1 p (.lst [V.ref t])) := Ex.new hp
  generalize upd H1 p (.lst [V.ref t]) = H2 at hp1 e2
  refine ⟨fp, p, vs, [V.ref t], rfl, rfl, (e1.trans e2) _ _ hf, hp1, Nat.le_of_lt (sz_lt (n := vs.length + 1) (by omega)), fun r hr => ?_⟩
  have hr1 : upd H2 r (.lst (vs ++ [V.ref t])) r = some (.lst (vs ++ [V.ref t])) := upd_same
  have e3 : Ex H2 (upd H2 r (.lst (vs ++ [V.ref t]))) := Ex.new hr
  generalize upd H2 r (.lst (vs ++ [V.ref t])) = H3 at hr1 e3
  have e03 := (e1.trans e2).trans e3
  have hal3 : Al ((cs ++ [(a, b)]).map CB) (vs ++ [V.ref t]) (newp H0 H3) := by
    rw [List.map_append]
    refine (hal.mono (newp_mono (Ex.refl _) e03) (mem_map_mono (fun _ => mono_CB) _)).append (.cons ⟨t, rfl, newp_of (fr t htn) ((e2.trans e3) _ _ h1)⟩ .nil)
  obtain ⟨c1, c2⟩ := al_cabs hal3
  refine ⟨r, vs ++ [V.ref t], kOf (newp H0 H3), rfl, sq_of hr1, fun x hx => ?_, fun ys s hs hb hsn => ?_⟩
  · obtain ⟨u, rfl, hu⟩ := c2 x hx
    exact ⟨u, rfl, newp_ex _ _ hu⟩
  · refine q _ _ (e03.trans (Ex.new hsn)) ⟨s, ys, rfl, newp_of (fr s (fresh_back e03 hsn)) upd_same, (al_sorted hal3 hs hb.perm).mono (newp_mono (Ex.refl _) (Ex.new hsn)) (mem_map_mono (fun _ => mono_CB) _)⟩
end
end Ly
end
section
set_option Elab.async false
set_option linter.all false
set_option maxRecDepth 100000
set_option maxHeartbeats 4000000
/-! The walk: nets of words. -/
namespace Ly
open PySem PySem.Spec PyProof.Rows L2 Evl Hd Pn
/-- without two lists that change -/
def fr2 (a b : Addr) (H : Hp) : Hp := del (del H a) b
theorem fr2_ex {a b : Addr} {H : Hp} : Ex (fr2 a b H) H := del_ex.trans del_ex
theorem fr2_mono {a b : Addr} {H H' : Hp} (e : Ex H H') : Ex (fr2 a b H) (fr2 a b H') := del_mono (del_mono e)
theorem fr2_a {a b : Addr} {H : Hp} {o : HO} : fr2 a b (upd H a o) = fr2 a b H := by unfold fr2; rw [del_upd]
theorem fr2_b {a b : Addr} {H : Hp} {o : HO} : fr2 a b (upd H b o) = fr2 a b H := by
  funext c
  unfold fr2
  by_cases h : c = b
  · rw [h, del_same, del_same]
  · rw [del_ne h, del_ne h]
    unfold del
    split
    · rfl
    · rw [upd_ne h]
theorem fr2_at {a b c : Addr} {H : Hp} (h1 : c ≠ a) (h2 : c ≠ b) : fr2 a b H c = H c := by unfold fr2; rw [del_ne h2, del_ne h1]
section
variable {K : PySem.W.Frag} {σ : L2.St} {H : Hp} {te tl : TE} {D : Ends} {tz : TS}
theorem s_extP {l : Addr} {xs : List V} {Φs : List Ph} {i : Nat} (hl : H l = some (.lst xs)) (ha : σ[i]? = some (some (.ref l))) (h : EvP te σ H (LL Φs)) (hz : xs.length + Φs.length ≤ 40000) (k : ∀ ys H1, Ex H H1 → Al Φs ys (newp H H1) → D.nx σ (upd H1 l (.lst (xs ++ ys)))) :
    tDrop (tBM K "list" rExtend (tVar i) (tCons te tNil)) D σ H :=
  ⟨.ref l, ha, Or.inl ⟨rfl, xs, sq_of hl⟩, h H (Ex.refl _) _ fun v H1 e hv => by
    obtain ⟨p, ys, rfl, h1, h2⟩ := hv
    refine ⟨l, p, xs, ys, rfl, rfl, e _ _ hl, newp_ex _ _ h1, ?_, k ys H1 e h2⟩
    have := h2.length
    exact Nat.le_of_lt (sz_lt (n := xs.length + ys.length) (by omega))⟩
theorem itc_newP {Φs : List Ph} (ms : ∀ Φ ∈ Φs, Mono Φ) (h : EvP tl σ H (LL Φs)) : Itc (iList K tl) σ H Φs.length (fun i x H' => ∃ Φ, Φs[i]? = some Φ ∧ Φ x H') := fun H1 e R r =>
  h H1 e _ fun v H2 e2 hv => by
    obtain ⟨p, vs, rfl, h1, h2⟩ := hv
    have hl := h2.length
    have hp := newp_ex _ _ h1
    refine ⟨p, rfl, ⟨vs, sq_of hp⟩, r _ H2 e2 (fun i H3 k hi => ⟨vs, vs[i], sq_of (k _ _ hp), List.getElem?_eq_getElem (by omega)⟩) (fun H3 k => ⟨vs, sq_of (k _ _ hp), by omega⟩) fun i H3 x H4 k hi y => ?_⟩
    obtain ⟨rfl, y2⟩ := y
    obtain ⟨Φ, e1, e3⟩ := h2.get (y2 vs (sq_of (k _ _ hp)))
    exact ⟨Ex.refl _, Φ, e1, ms Φ (List.mem_of_getElem? e1) _ _ _ (newp_ex.trans k) e3⟩
end
section
variable {P : Program} {w : World} {K : PySem.W.Frag} {mg : Str → Option Value} {base : Heap}
abbrev N_l_net : List Str := ["_law_word_here", "_law_left", "_law_found", "_law_sign", "_law_end", "_law_first"]
theorem sc_l_net : FnScope N_l_net ["_law_word_here"] (defScope s_l_net) := ⟨rfl, rfl, rfl, by decide +kernel, rfl, by decide +kernel, by decide +kernel⟩
def sp_l_net : Sp := spP (fun (z : Addr × List Nat) vs H => vs = [.ref z.1] ∧ H z.1 = some (.lst (z.2.map iV)) ∧ z.2.length ≤ 58 ∧ ∀ s ∈ z.2, s < z.2.length + 2) fun z => CL (srt (raw (z.2.length + 2) (pw z.2) z.2))
theorem ok_l_net (M : Ms mg) (F : Df K mg "_law_net" s_l_net) (c_l_plugs : Cal P w K mg base 1 "_law_plugs" ["_law_word_here"] sp_l_plugs) : Cal P w K mg base 2 "_law_net" ["_law_word_here"] sp_l_net := by
  refine mk_cal F sc_l_net (fun vs H Q E h => ?_)
      (fun _ _ _ _ _ _ us hl => match us, hl with | [_], _ => rfl)
    (fun f cdv A outer s H vs Q E hr h => ⟨_,
      (pss_cons (ps_par (i := 1) (j := 2) (by rfl) sc_l_net.nd rfl rfl (by decide) rfl rfl (pa_cons (pe_cal c_l_plugs hr (pa_cons (pv 0) pa_nil)) (pa_cons (pe_lst pa_nil) pa_nil)) (by rfl))
        (pss_cons (ps_for PassesOwn.never rfl (pi_list (pv 0)) (pg_name (i := 3) sc_l_net.nd rfl (by first | exact Or.inl rfl | exact Or.inr rfl))
          (pss_cons (ps_set (i := 4) sc_l_net.nd rfl (by first | exact Or.inl rfl | exact Or.inr rfl) (pe_bm PySem.F.plainAttrs_list PySem.F.slot_list_index PySem.F.type_list_index mt_index (pv 1) (pa_cons pe_int pa_nil)))
        (pss_cons (ps_expr (pe_bm PySem.F.plainAttrs_list PySem.F.slot_list_append PySem.F.type_list_append mt_append (pv 2) (pa_cons (pe_tup (pa_cons (pe_callB (call_min2 rfl) (by rfl) M.min (by decide +kernel) (pa_cons (pv 4) (pa_cons (pv 3) pa_nil))) (pa_cons (pe_callB (call_max2 rfl) (by rfl) M.max (by decide +kernel) (pa_cons (pv 4) (pa_cons (pv 3) pa_nil))) pa_nil))) pa_nil)))
        (pss_cons (ps_asg pe_int (pg_sub (pv 1) (pv 4) set_list))
        (pss_one (ps_asg (pe_op op_sub (pe_ix ix_list (pv 1) (pv 3) (fun _ _ => rfl)) pe_int) (pg_sub (pv 1) (pv 3) set_list)))))))
        (pss_cons (ps_set (i := 5) sc_l_net.nd rfl (by first | exact Or.inl rfl | exact Or.inr rfl) (pe_bm PySem.F.plainAttrs_list PySem.F.slot_list_index PySem.F.type_list_index mt_index (pv 1) (pa_cons pe_int pa_nil)))
        (pss_one (ps_ret (pe_callB cr_sortedPO (by rfl) M.sorted (by decide +kernel) (pa_cons (pe_op op_cat (pv 2) (pe_lst (pa_cons (pe_tup (pa_cons (pv 5) (pa_cons (pe_bm PySem.F.plainAttrs_list PySem.F.slot_list_index PySem.F.type_list_index mt_indexFrom (pv 1) (pa_cons pe_int (pa_cons (pe_op op_add (pv 5) pe_int) pa_nil))) pa_nil))) pa_nil))) pa_nil)))))))
    , ?_⟩)
  · obtain ⟨i, ⟨rfl, _⟩, _⟩ := h; rfl
  · obtain ⟨⟨a, wd⟩, ⟨rfl, hw, hl, hlt⟩, q⟩ := h
    simp only at hw hl hlt q
    have hS : SqL K H a (wd.map iV) := sq_of hw
    refine q_parP (Φ := IsL (fl (wd.length + 2) (pw wd))) (Ψ := LL []) (epa_cons mono_L (mono1 (mono_LL fun _ h => nomatch h)) (evp_call (a, wd) mono_L (ea_cons (ev_var rfl) ea_nil) fun H1 e => ⟨rfl, e _ _ hw, by show wd.length ≤ 60; omega⟩) (epa_cons (mono_LL fun _ h => nomatch h) (fun _ h => nomatch h) (evp_lst (fun _ h => nomatch h) epa_nil (Nat.zero_le _)) epa_nil)) fun x y H1 e1 hx hy => ?_
    obtain ⟨lp, rfl, hlp⟩ := hx
    obtain ⟨fp, vs0, rfl, hfp, hal0⟩ := hy
    cases hal0
    obtain ⟨l0, l1⟩ := newp_is hlp
    obtain ⟨f0, f1⟩ := newp_is hfp
    have hne : lp ≠ fp := by
      rintro rfl
      rw [l1] at f1
      have h2 := congrArg List.length (HO.lst.inj (Option.some.inj f1))
      rw [fl_len] at h2
      simp at h2
    refine q_for (itw_list (K := K) (ev_var rfl) (ex_l e1 hS))
      (fun i σ' H' => ∃ y3 y4 vs, σ' = [some (.ref a), some (.ref lp), some (.ref fp), y3, y4, none] ∧ Ex H H' ∧ H' lp = some (.lst (fl (wd.length + 2) (aft (wd.length + 2) (pw wd) (wd.take i)))) ∧ H' fp = some (.lst vs) ∧ Al ((pre (wd.length + 2) (pw wd) (wd.take i)).map CB) vs (newp H (fr2 lp fp H')))
      (fun H2 e2 => ⟨none, none, [], rfl, e1.trans e2, e2 _ _ l1, e2 _ _ f1, .nil⟩) (fun i σ' H' ⟨_, _, _, _, e, _⟩ => ex_l e hS) (fun i x σ' H' H2 hi hwv e3 hx => ?_) (fun σ' H' hwv => ?_)
    · obtain ⟨y3, y4, vs, rfl, ex, hL, hF, hal⟩ := hwv
      rw [List.length_map] at hi
      rw [List.getElem?_map, List.getElem?_eq_getElem hi] at hx
      cases hx
      have hB := beg_take hlt i (by omega)
      have h2 := beg_turn hlt hi
      have hsn := hlt _ (List.getElem_mem hi)
      have tk : wd.take (i + 1) = wd.take i ++ [wd[i]] := by rw [List.take_add_one, List.getElem?_eq_getElem hi]; rfl
      have hv : wd.length - (wd.take i).length = wd.length - i := by rw [List.length_take]; congr 1; omega
      obtain ⟨v1, v2, v3⟩ := hB.st.fsp
      have hpl : vs.length ≤ 58 := by
        rw [hal.length, List.length_map]
        have : ∀ (b : List Nat) (d : Nat → Nat), (pre (wd.length + 2) d b).length = b.length := fun b => by
          induction b with
          | nil => intro d; rfl
          | cons u b ih => intro d; show _ + 1 = _ + 1; rw [ih]
        rw [this, List.length_take]; omega
      rw [tk, aft_snoc, pre_snoc]
      generalize aft (wd.length + 2) (pw wd) (wd.take i) = d at hB h2 v1 v2 v3 hL ⊢
      generalize pre (wd.length + 2) (pw wd) (wd.take i) = cs at hal ⊢
      generalize hn : wd.length + 2 = n at *
      generalize hu : wd[i] = u at *
      have hne2 : u ≠ fi n d := fun e => by rw [e] at h2; omega
      have ex2 := ex.trans e3
      refine q_asg (ev_idx1 (K := K) (ev_var rfl) (sq_of (e3 _ _ hL)) (ev_c (v := iV 1)) v1 v2 v3) fun H3 e4 => ?_
      have e24 := e3.trans e4
      refine q_appU (e24 _ _ hF) (ev_var rfl) (eu_tup (ea_cons (ev_minN (ev_var (v := iV (fi n d)) rfl) (ev_var (v := iV u) rfl)) (ea_cons (ev_maxN (ev_var (v := iV (fi n d)) rfl) (ev_var (v := iV u) rfl)) ea_nil)) (by show 2 ≤ 100000; decide)) (by omega) fun p H4 hp e5 h4 => ?_
      have e25 := e24.trans e5
      have hp0 : H' p = none := fresh_back e24 hp
      have pl : p ≠ lp := fun e => by rw [e, hL] at hp0; cases hp0
      have pf : p ≠ fp := fun e => by rw [e, hF] at hp0; cases hp0
      have hL5 : (upd H4 fp (.lst (vs ++ [V.ref p]))) lp = some (.lst (fl n d)) := by rw [upd_ne hne]; exact e25 _ _ hL
      have exf := Ex.mut (o := .lst (vs ++ [V.ref p])) (ex.trans e25) f0
      refine q_setL (j := fi n d) hL5 (ev_c (v := iV 0)) (ev_var rfl) (ev_var rfl) (by rw [fl_len]; exact v1) fun H6 e6 => ?_
      rw [fl_set v1]
      have exl := Ex.mut (o := .lst (fl n (up d (fi n d) 0))) (exf.trans e6) l0
      have hL7 : (upd H6 lp (.lst (fl n (up d (fi n d) 0)))) lp = some (.lst (fl n (up d (fi n d) 0))) := upd_same
      have hF7 : (upd H6 lp (.lst (fl n (up d (fi n d) 0)))) fp = some (.lst (vs ++ [V.ref p])) := by
        rw [upd_ne (Ne.symm hne)]; exact e6 _ _ upd_same
      have eu : up d (fi n d) 0 u = d u := up_ne hne2
      refine s_setL (j := u) hL7 (ev_subN (b := 1) (ev_fl (K := K) (ev_var rfl) (ev_var (v := iV u) rfl) (sq_of hL7) hsn) ev_c (by rw [eu]; omega)) (ev_var rfl) (ev_var (v := iV u) rfl) (by rw [fl_len]; exact hsn) fun H8 e8 => ?_
      rw [fl_set hsn, eu]
      refine ⟨some (iV u), some (iV (fi n d)), vs ++ [.ref p], rfl, Ex.mut (exl.trans e8) l0, upd_same, by rw [upd_ne (Ne.symm hne)]; exact e8 _ _ hF7, ?_⟩
      rw [List.map_append]
      have fm : Ex (fr2 lp fp H4) (fr2 lp fp (upd H8 lp (.lst (fl n (up (up d (fi n d) 0) u (d u - 1)))))) := by
        rw [fr2_a]
        have := fr2_mono (a := lp) (b := fp) e8
        rw [fr2_a] at this
        have t2 := fr2_mono (a := lp) (b := fp) e6
        rw [fr2_b] at t2
        exact t2.trans this
      refine (hal.mono (newp_mono (Ex.refl _) ((fr2_mono e25).trans fm)) (mem_map_mono (fun _ => mono_CB) _)).append (.cons ⟨p, rfl, newp_of (fresh_back ex hp0) (fm _ _ ?_)⟩ .nil)
      rw [fr2_at pl pf]; exact h4
    · obtain ⟨y3, y4, vs, rfl, ex, hL, hF, hal⟩ := hwv
      rw [List.length_map, List.take_length] at hL hal
      have hB := beg_take hlt wd.length (Nat.le_refl _)
      rw [List.take_length] at hB
      have st0 := hB.st
      rw [Nat.sub_self] at st0
      obtain ⟨v1, v2, v3⟩ := st0.fsp
      obtain ⟨t1, t2, t3, t4, t5⟩ := st0.two
      have t6 := st0.two_min
      have hpl : vs.length ≤ 1000 := by
        rw [hal.length, List.length_map]
        have : ∀ (b : List Nat) (d : Nat → Nat), (pre (wd.length + 2) d b).length = b.length := fun b => by
          induction b with
          | nil => intro d; rfl
          | cons u b ih => intro d; show _ + 1 = _ + 1; rw [ih]
        rw [this]; omega
      rw [raw_split] at q
      refine q_asg (ev_idx1 (K := K) (ev_var rfl) (sq_of hL) (ev_c (v := iV 1)) v1 v2 v3) fun H3 e4 => ?_
      refine sorted_net (K := K) (H0 := H) (fp := fp) (fun p hp => fresh_back (ex.trans e4) hp) rfl (e4 _ _ hF) (hal.mono (newp_mono (Ex.refl _) (fr2_ex.trans e4)) (mem_map_mono (fun _ => mono_CB) _)) hpl (eu_tup (ea_cons (ev_var rfl) (ea_cons (ev_idx2 (K := K) (ev_var rfl) (sq_of (e4 _ _ hL)) (ev_c (v := iV 1)) (ev_addN (ev_var (v := iV (fi (wd.length + 2) (aft (wd.length + 2) (pw wd) wd))) rfl) (ev_c (v := iV 1))) t2 (by omega) t4 t6) ea_nil)) (by show 2 ≤ 100000; decide)) fun v H4 e5 hv => q v H4 ((ex.trans e4).trans e5) hv
abbrev N_l_words : List Str := ["_law_word_here", "_law_found", "_law_turn", "_law_longer", "_law_begin", "_law_signs", "_law_sign"]
theorem sc_l_words : FnScope N_l_words ["_law_word_here"] (defScope s_l_words) := ⟨rfl, rfl, rfl, by decide +kernel, rfl, by decide +kernel, by decide +kernel⟩
def sp_l_words : Sp := spP (fun (z : Addr × List Nat) vs H => vs = [.ref z.1] ∧ H z.1 = some (.lst (z.2.map iV)) ∧ z.2.length ≤ 5 ∧ ∀ s ∈ z.2, s < z.2.length + 2) fun z => NLs (words z.2)
theorem ok_l_words (M : Ms mg) (F : Df K mg "_law_words" s_l_words) : Cal P w K mg base 1 "_law_words" ["_law_word_here"] sp_l_words := by
  refine mk_cal F sc_l_words (fun vs H Q E h => ?_)
      (fun _ _ _ _ _ _ us hl => match us, hl with | [_], _ => rfl)
    (fun f cdv A outer s H vs Q E hr h => ⟨_,
      (pss_cons (ps_set (i := 1) sc_l_words.nd rfl (by first | exact Or.inl rfl | exact Or.inr rfl) (pe_lst (pa_cons (pe_lst pa_nil) pa_nil)))
        (pss_cons (ps_for PassesOwn.never rfl (pi_range1 rfl M.range (pa_cons (pe_callB call_len_seq (by rfl) M.len PySem.boot_len (pa_cons (pv 0) pa_nil)) pa_nil)) (pg_name (i := 2) sc_l_words.nd rfl (by first | exact Or.inl rfl | exact Or.inr rfl))
          (pss_cons (ps_set (i := 3) sc_l_words.nd rfl (by first | exact Or.inl rfl | exact Or.inr rfl) (pe_lst pa_nil))
        (pss_cons (ps_for PassesOwn.never rfl (pi_list (pv 1)) (pg_name (i := 4) sc_l_words.nd rfl (by first | exact Or.inl rfl | exact Or.inr rfl))
          (pss_cons (ps_set (i := 5) sc_l_words.nd rfl (by first | exact Or.inl rfl | exact Or.inr rfl) (pe_callB (cr_sortedSet rfl) (by rfl) M.sorted (by decide +kernel) (pa_cons (pe_callTy (cr_setL rfl) (by rfl) M.set (by decide +kernel) (pa_cons (pe_lc (own := [("_law_sign", 6)]) rfl sc_l_words.nd (pi_list (pv 0)) (blkOk_by (own := [("_law_sign", 6)]) (N := N_l_words) (sc := defScope s_l_words) (by decide +kernel)) (fun _ _ _ _ _ => (pg_name (i := 6) sc_l_words.nd rfl (by first | exact Or.inl rfl | exact Or.inr rfl))) (fun _ _ _ _ _ => pts_one (pt_cmpR op_lt (show PE _ _ (tBM K "list" _ _ _) from (pe_bm PySem.F.plainAttrs_list PySem.F.slot_list_count PySem.F.type_list_count (show MtR _ _ (rCntI K) from mt_lcount) (pv 4) (pa_cons (pv 6) pa_nil))) (show PE _ _ (tBM K "list" _ _ _) from (pe_bm PySem.F.plainAttrs_list PySem.F.slot_list_count PySem.F.type_list_count (show MtR _ _ (rCntI K) from mt_lcount) (pv 0) (pa_cons (pv 6) pa_nil))) (nomark _))) (fun _ _ _ _ _ => (pv 6))) pa_nil)) pa_nil)))
        (pss_one (ps_expr (pe_bm PySem.F.plainAttrs_list PySem.F.slot_list_extend PySem.F.type_list_extend mt_extend (pv 3) (pa_cons (pe_lc (own := [("_law_sign", 6)]) (tt := tYes) rfl sc_l_words.nd (pi_list (pv 5)) (blkOk_by (own := [("_law_sign", 6)]) (N := N_l_words) (sc := defScope s_l_words) (by decide +kernel)) (fun _ _ _ _ _ => (pg_name (i := 6) sc_l_words.nd rfl (by first | exact Or.inl rfl | exact Or.inr rfl))) (fun _ _ _ _ _ => pts_nil) (fun _ _ _ _ _ => (pe_op op_cat (pv 4) (pe_lst (pa_cons (pv 6) pa_nil))))) pa_nil))))))
        (pss_one (ps_set (i := 1) sc_l_words.nd rfl (by first | exact Or.inl rfl | exact Or.inr rfl) (pv 3))))))
        (pss_one (ps_ret (pv 1)))))
    , ?_⟩)
  · obtain ⟨i, ⟨rfl, _⟩, _⟩ := h; rfl
  · obtain ⟨⟨a, wd⟩, ⟨rfl, hw, hl, hlt⟩, q⟩ := h
    simp only at hw hl hlt q
    have hS : SqL K H a (wd.map iV) := sq_of hw
    generalize hn : wd.length + 2 = n at hlt
    have qN : ∀ v H2, Ex H H2 → NLs (itr n wd wd.length [[]]) v (newp H H2) → Q v H2 := by
      rw [← hn]; exact q
    have nil0 : EvP (tLst (tCons (tLst tNil) tNil)) (start N_l_words [V.ref a]) H (LL [NL []]) := evp_lst (mono1 mono_NL) (epa_cons mono_NL (fun _ h => nomatch h) (evp_ofL (el_lst ea_nil (Nat.zero_le _))) epa_nil) (by show 1 ≤ 100000; decide)
    refine q_asgP nil0 fun v H1 e1 hv => ?_
    obtain ⟨f0, rfl⟩ := hv.ref
    refine q_for (itw_range1 (n := wd.length) (ea_cons (ev_is (ev_len0 (ev_var rfl) (ex_l e1 hS)) (by rw [List.length_map])) ea_nil) (by omega))
      (fun i σ' H' => ∃ fp y2 y3 y4 y5, σ' = [some (.ref a), some (.ref fp), y2, y3, y4, y5, none] ∧ Ex H H' ∧ NLs (itr n wd i [[]]) (.ref fp) (newp H H'))
      (fun H2 e2 => ⟨f0, none, none, none, none, rfl, e1.trans e2, mono_NLs _ _ _ (newp_mono (Ex.refl _) e2) hv⟩) (fun _ _ _ _ => trivial) (fun i x σ' H' H2 hi hwv e3 hx => ?_) (fun σ' H' hwv => ?_)
    · obtain ⟨fp, y2, y3, y4, y5, rfl, ex, hF⟩ := hwv
      subst hx
      have ex2 := ex.trans e3
      have hlen := itr_len5 (n := n) (w := wd) (k := i) hl (by omega)
      have hmem := itr_mem (n := n) (w := wd) i
      show tSeq _ _ _ _ _
      have hit : itr n wd (i + 1) [[]] = stepW n wd (itr n wd i [[]]) := rfl
      rw [hit]
      generalize itr n wd i [[]] = pss at hF hlen hmem ⊢
      obtain ⟨vs, hc⟩ := NLa.of (mono_NLs _ _ _ newp_ex hF)
      have hvl := hc.len
      refine q_asgL (el_lst ea_nil (Nat.zero_le _)) fun lp H3 hlp e4 h3 => ?_
      have e24 := e3.trans e4
      have hS3 : SqL K H3 fp vs := sq_of (e24 _ _ hc.1)
      have ex3 := ex.trans e24
      have lp0 : H lp = none := fresh_back ex2 hlp
      refine q_for (itw_list (K := K) (ev_var rfl) hS3)
        (fun j σ'' H'' => ∃ y4 y5 ws, σ'' = [some (.ref a), some (.ref fp), some (iV i), some (.ref lp), y4, y5, none] ∧ Ex H' H'' ∧ H'' lp = some (.lst ws) ∧ Al ((stepW n wd (pss.take j)).map NL) ws (newp H (del H'' lp)))
        (fun H4 e5 => ⟨y4, y5, [], rfl, e24.trans e5, e5 _ _ h3, .nil⟩) (fun j σ'' H'' ⟨_, _, _, _, e, _⟩ => sq_of (e _ _ hc.1)) (fun j x σ'' H'' H4 hj hwv e5 hx => ?_) (fun σ'' H'' hwv => ?_)
      · obtain ⟨y4, y5, ws, rfl, exx, hL, hal⟩ := hwv
        have lpH' : H' lp = none := fresh_back e3 hlp
        have e45 := exx.trans e5
        obtain ⟨b, t, hbi, rfl, ht⟩ := (hc.mono e45).item hx
        obtain ⟨b1, b2, b3⟩ := hmem b (List.mem_of_getElem? hbi)
        have hj' : j < pss.length := by omega
        have tk : pss.take (j + 1) = pss.take j ++ [b] := by rw [List.take_add_one, hbi]; rfl
        have hst : stepW n wd (pss.take (j + 1)) = stepW n wd (pss.take j) ++ (sg n wd b).map fun s => b ++ [s] := by
          rw [tk]
          unfold stepW
          rw [List.flatMap_append, List.flatMap_cons, List.flatMap_nil, List.append_nil]
        have sgl := sg_len n wd b
        have wl : ws.length ≤ 20000 := by
          rw [hal.length, List.length_map]
          refine Nat.le_trans (step_len _) ?_
          rw [List.length_take]
          have : wd.length * min j pss.length ≤ 5 * 3125 := Nat.mul_le_mul hl (by omega)
          omega
        have hS4 : SqL K H4 a (wd.map iV) := ex_l (ex.trans e45) hS
        have hT : SqL K H4 t (b.map iV) := sq_of ht
        have src := itw_list (K := K) (σ := [some (.ref a), some (.ref fp), some (iV i), some (.ref lp), some (.ref t), y5, none]) (tl := tVar 0) (ev_var rfl) hS4
        rw [List.length_map] at src
        have lc : EvL (tLc (iList K (tVar 0)) (gName 6) (tTest (tOp (rI0 fun i j => V.bl (decide (i < j))) (tBM K "list" (rCntI K) (tVar 4) (tCons (tVar 6) tNil)) (tBM K "list" (rCntI K) (tVar 0) (tCons (tVar 6) tNil)))) (tVar 6) [6]) [some (.ref a), some (.ref fp), some (iV i), some (.ref lp), some (.ref t), y5, none] H4 ((wd.filter fun s => decide (b.count s < wd.count s)).map iV) := by
          have := el_lc (te := tVar 6) (tt := tTest (tOp (rI0 fun i j => V.bl (decide (i < j))) (tBM K "list" (rCntI K) (tVar 4) (tCons (tVar 6) tNil)) (tBM K "list" (rCntI K) (tVar 0) (tCons (tVar 6) tNil)))) (g := gName 6) (vs := [6]) (fun k => decide (b.count (wd.getD k 0) < wd.count (wd.getD k 0))) (fun k => iV (wd.getD k 0)) src (by omega) (fun H' e => ex_l e hS4) fun k x H5 e6 hk hx R kk => by
            rw [List.getElem?_map, List.getElem?_eq_getElem hk] at hx
            cases hx
            have hg : wd.getD k 0 = wd[k] := by rw [List.getD_eq_getElem?_getD, List.getElem?_eq_getElem hk]; rfl
            rw [hg] at kk
            refine kk _ rfl (et_is (et_test (ev_op (ev_countN (K := K) (ev_var rfl) (ex_l e6 hT) (ev_var (v := iV wd[k]) rfl)) (ev_countN (K := K) (ev_var rfl) (ex_l e6 hS4) (ev_var (v := iV wd[k]) rfl)) rv_I0)) ?_) fun _ => ev_var rfl
            rw [decide_eq_decide]; omega
          unfold given at this
          rw [range_filter wd (fun k => decide (b.count (wd.getD k 0) < wd.count (wd.getD k 0))) (fun s => decide (b.count s < wd.count s)) (fun k => iV (wd.getD k 0)) iV (fun i s h => by rw [List.getD_eq_getElem?_getD, h]; rfl) (fun i s h => by rw [List.getD_eq_getElem?_getD, h]; rfl)] at this
          exact this
        refine q_asgL (ev_sortedSet (K := K) (us := sg n wd b) lc (sg_nd _ _ _) (fun s => ?_) (Nat.le_trans (List.length_filter_le _ _) (by omega))) fun sp H5 hsp e6 h5 => ?_
        · rw [sg_mem, List.mem_filter, decide_eq_true_eq]
          exact ⟨fun ⟨_, z⟩ => ⟨List.count_pos_iff.mp (by omega), z⟩, fun ⟨z1, z2⟩ => ⟨hlt s z1, z2⟩⟩
        · have e46 := e45.trans e6
          have hT5 := e6 _ _ ht
          have hSp : SqL K H5 sp ((sg n wd b).map iV) := sq_of h5
          have src2 := itw_list (K := K) (σ := [some (.ref a), some (.ref fp), some (iV i), some (.ref lp), some (.ref t), some (.ref sp), none]) (tl := tVar 5) (ev_var rfl) hSp
          rw [List.length_map] at src2
          have lc2 : EvP (tLc (iList K (tVar 5)) (gName 6) tYes (tOp rCat (tVar 4) (tLst (tCons (tVar 6) tNil))) [6]) [some (.ref a), some (.ref fp), some (iV i), some (.ref lp), some (.ref t), some (.ref sp), none] H5 (LL (((sg n wd b).map fun s => b ++ [s]).map NL)) := by
            have := evp_lc (te := tOp rCat (tVar 4) (tLst (tCons (tVar 6) tNil))) (tt := tYes) (g := gName 6) (vs := [6]) (fun _ => true) (fun k => NL (b ++ [(sg n wd b).getD k 0])) src2 (by omega) (fun H' e => ex_l e hSp) (fun _ => mono_NL) fun k x H6 e7 hk hx R kk => by
              rw [List.getElem?_map, List.getElem?_eq_getElem hk] at hx
              cases hx
              have hg : (sg n wd b).getD k 0 = (sg n wd b)[k] := by rw [List.getD_eq_getElem?_getD, List.getElem?_eq_getElem hk]; rfl
              rw [hg] at kk
              refine kk _ rfl et_yes fun _ => evp_ofL ?_
              rw [List.map_append]
              exact el_cat (er_val (ev_var rfl) (e7 _ _ hT5)) (er_new (el_lst (ea_cons (ev_var (v := iV (sg n wd b)[k]) rfl) ea_nil) (by show 1 ≤ 100000; decide))) (by rw [List.length_map]; show b.length + 1 ≤ 40000; omega)
            rw [lc_all (sg n wd b) _ (fun s => NL (b ++ [s])) (fun i s h => by rw [List.getD_eq_getElem?_getD, h]; rfl)] at this
            rw [List.map_map]
            exact this
          refine s_extP (K := K) ((e5.trans e6) _ _ hL) rfl lc2 (by rw [List.length_map, List.length_map]; omega) fun ys H6 e7 hys => ?_
          refine ⟨some (.ref t), some (.ref sp), ws ++ ys, rfl, Ex.mut (e46.trans e7) lpH', upd_same, ?_⟩
          rw [hst, List.map_append, del_upd]
          refine (hal.mono (newp_mono (Ex.refl _) (del_mono ((e5.trans e6).trans e7))) (mem_map_mono (fun _ => mono_NL) _)).append (hys.mono ?_ (mem_map_mono (fun _ => mono_NL) _))
          intro c o k
          obtain ⟨k1, k2⟩ := newp_is k
          have : c ≠ lp := fun e => by rw [e, (e5.trans e6) _ _ hL] at k1; cases k1
          exact newp_of (fresh_back (ex.trans e46) k1) (by rw [del_ne this]; exact k2)
      · obtain ⟨y4, y5, ws, rfl, exx, hL, hal⟩ := hwv
        refine s_asg (ev_var rfl) fun H5 e6 => ⟨lp, some (iV i), some (.ref lp), y4, y5, rfl, (ex.trans exx).trans e6, lp, ws, rfl, newp_of lp0 (e6 _ _ hL), ?_⟩
        rw [hvl, List.take_length] at hal
        exact hal.mono (newp_mono (Ex.refl _) (del_ex.trans e6)) (mem_map_mono (fun _ => mono_NL) _)
    · obtain ⟨fp, y2, y3, y4, y5, rfl, ex, hF⟩ := hwv
      exact s_ret (ev_var rfl) fun H2 e2 => qN _ H2 (ex.trans e2) (mono_NLs _ _ _ (newp_mono (Ex.refl _) e2) hF)
abbrev N_l_nets : List Str := ["_law_word_here", "_law_one_here"]
theorem sc_l_nets : FnScope N_l_nets ["_law_word_here"] (defScope s_l_nets) := ⟨rfl, rfl, rfl, by decide +kernel, rfl, by decide +kernel, by decide +kernel⟩
def CLs (Ns : List (List Cab)) : Ph := LL (Ns.map CL)
def pyNets (wd : List Nat) : List (List Cab) := (nets (wd.length + 2) wd.length (pw wd)).map srt
theorem pyNets_words {wd : List Nat} (h : ∀ s ∈ wd, s < wd.length + 2) : pyNets wd = (words wd).map fun b => srt (raw (b.length + 2) (pw b) b) := by
  unfold pyNets
  rw [← words_nets h, List.map_map]
  refine List.map_congr_left fun b hb => ?_
  obtain ⟨h1, _, h3⟩ := words_mem h hb
  rw [h1, h3]; rfl
def sp_l_nets : Sp := spP (fun (z : Addr × List Nat) vs H => vs = [.ref z.1] ∧ H z.1 = some (.lst (z.2.map iV)) ∧ z.2.length ≤ 5 ∧ ∀ s ∈ z.2, s < z.2.length + 2) fun z => CLs (pyNets z.2)
theorem ok_l_nets (M : Ms mg) (F : Df K mg "_law_nets" s_l_nets) (c_l_net : Cal P w K mg base 2 "_law_net" ["_law_word_here"] sp_l_net) (c_l_words : Cal P w K mg base 1 "_law_words" ["_law_word_here"] sp_l_words) : Cal P w K mg base 3 "_law_nets" ["_law_word_here"] sp_l_nets := by
  refine mk_cal F sc_l_nets (fun vs H Q E h => ?_)
      (fun _ _ _ _ _ _ us hl => match us, hl with | [_], _ => rfl)
    (fun f cdv A outer s H vs Q E hr h => ⟨_,
      (pss_one (ps_ret (pe_lc (own := [("_law_one_here", 1)]) (tt := tYes) rfl sc_l_nets.nd (pi_list (pe_cal c_l_words hr (pa_cons (pv 0) pa_nil))) (blkOk_by (own := [("_law_one_here", 1)]) (N := N_l_nets) (sc := defScope s_l_nets) (by decide +kernel)) (fun _ _ _ _ _ => (pg_name (i := 1) sc_l_nets.nd rfl (by first | exact Or.inl rfl | exact Or.inr rfl))) (fun _ _ _ _ _ => pts_nil) (fun _ _ _ _ _ => (pe_cal c_l_net hr (pa_cons (pv 1) pa_nil))))))
    , ?_⟩)
  · obtain ⟨i, ⟨rfl, _⟩, _⟩ := h; rfl
  · obtain ⟨⟨a, wd⟩, ⟨rfl, hw, hl, hlt⟩, q⟩ := h
    simp only at hw hl hlt q
    have call : EvP (tCall sp_l_words [] E0 (tCons (tVar 0) tNil)) (start N_l_nets [V.ref a]) H (LL ((words wd).map NL)) := evp_call (a, wd) (mono_NLs (pss := words wd)) (ea_cons (ev_var (i := 0) rfl) ea_nil) fun H1 e => ⟨rfl, e _ _ hw, hl, hlt⟩
    have src := itc_newP (K := K) (mem_map_mono (fun _ => mono_NL) _) call
    rw [List.length_map] at src
    have hwl := words_len wd hl
    refine s_retP (evp_lcC (fun _ => true) (fun i => CL (srt (raw (((words wd).getD i []).length + 2) (pw ((words wd).getD i [])) ((words wd).getD i [])))) src (by omega) (fun _ => mono_CL) fun i x H1 e1 hi hx R k => ?_) fun v H1 e1 hv => q v H1 e1 ?_
    · obtain ⟨Φ, e2, hΦ⟩ := hx
      rw [List.getElem?_map, List.getElem?_eq_getElem hi] at e2
      cases e2
      obtain ⟨t, rfl, ht⟩ := hΦ
      have hg : (words wd).getD i [] = (words wd)[i] := by rw [List.getD_eq_getElem?_getD, List.getElem?_eq_getElem hi]; rfl
      rw [hg] at k
      obtain ⟨h1, h2, h3⟩ := words_mem hlt (List.getElem_mem hi)
      exact k _ rfl et_yes fun _ => evp_call (t, (words wd)[i]) mono_CL (ea_cons (ev_var rfl) ea_nil) fun H2 e => ⟨rfl, e _ _ ht, by show (words wd)[i].length ≤ 58; omega, by show ∀ s ∈ (words wd)[i], s < (words wd)[i].length + 2; rw [h1]; exact h2⟩
    · rw [lc_all (words wd) _ (fun b => CL (srt (raw (b.length + 2) (pw b) b))) (fun i s h => by rw [List.getD_eq_getElem?_getD, h]; rfl)] at hv
      show LL ((pyNets wd).map CL) v _
      rw [pyNets_words hlt, List.map_map]
      exact hv
end
end Ly
end
section
set_option Elab.async false
set_option linter.all false
set_option maxRecDepth 100000
set_option maxHeartbeats 4000000
/-! The walk: what is drawn. -/
namespace Ly
open PySem PySem.Spec PyProof.Rows L2 Evl Hd Pn
/-- promises of defs that draw from the store: at most lim times; what they hand back is new -/
def spS {α : Type} (ar : α → Addr → List V → Hp → Prop) (lim : Nat) (Φ : α → Ph) : Sp := fun vs H Q _ => ∃ (a : α) (st : Addr) (N : Nat), ar a st vs (del H st) ∧ Sto H st N ∧ N + lim ≤ 1000000 ∧ ∀ v H', Es st H H' → Sto H' st (N + lim) → Φ a v (newp H H') → Q v H'
/-- .. it lies in what stays -/
def spF {α : Type} (ar : α → Addr → List V → Hp → Prop) (lim : Nat) (Φ : α → Ph) : Sp := fun vs H Q _ => ∃ (a : α) (st : Addr) (N : Nat), ar a st vs (del H st) ∧ Sto H st N ∧ N + lim ≤ 1000000 ∧ ∀ v H', Es st H H' → Sto H' st (N + lim) → Φ a v (del H' st) → Q v H'
section
variable {K : PySem.W.Frag} {σ : L2.St} {H : Hp} {te tl : TE} {ta : TA} {D : Ends} {tz : TS} {Q : VK}
theorem cm_pick {st : Addr} {n N : Nat} {E : XK} (ha : EvA ta σ (del H st) [.ref st, iV n]) (h1 : 1 ≤ n) (h2 : n ≤ 5000) (hs : Sto H st N) (hN : N ≤ 1000000) (k : ∀ r H', r < n → Es st H H' → Sto H' st (N + 1) → Q (iV r) H') : tCall sp_l_pick [] E ta σ H Q :=
  ha H del_ex _ fun H1 e1 => ⟨st, n, N, by rw [List.append_nil], h1, h2, hs.mono e1, hN, fun r H' hr e2 s2 => k r H' hr ((Es.of e1).trans e2) s2⟩
theorem cm_call {α : Type} {ar : α → Addr → List V → Hp → Prop} {lim : Nat} {Φ : α → Ph} {st : Addr} {N : Nat} {E : XK} {vs : List V} (a : α) (m : Mono (Φ a)) (ha : EvA ta σ (del H st) vs) (hr : ∀ H1, Ex (del H st) H1 → ar a st vs H1) (hs : Sto H st N) (hN : N + lim ≤ 1000000)
    (k : ∀ v H', Es st H H' → Sto H' st (N + lim) → Φ a v (newp H H') → Q v H') : tCall (spS ar lim Φ) [] E ta σ H Q :=
  ha H del_ex _ fun H1 e1 => ⟨a, st, N, by rw [List.append_nil]; exact hr _ (del_mono e1 |> fun z => z), hs.mono e1, hN, fun v H' e2 s2 h => k v H' ((Es.of e1).trans e2) s2 (by
    obtain ⟨o, ho⟩ := hs.some
    exact m _ _ _ (Es.new2 ho (e1 _ _ ho) (Es.of e1)) h)⟩
theorem cm_callF {α : Type} {ar : α → Addr → List V → Hp → Prop} {lim : Nat} {Φ : α → Ph} {st : Addr} {N : Nat} {E : XK} {vs : List V} (a : α) (ha : EvA ta σ (del H st) vs) (hr : ∀ H1, Ex (del H st) H1 → ar a st vs H1) (hs : Sto H st N) (hN : N + lim ≤ 1000000)
    (k : ∀ v H', Es st H H' → Sto H' st (N + lim) → Φ a v (del H' st) → Q v H') : tCall (spF ar lim Φ) [] E ta σ H Q :=
  ha H del_ex _ fun H1 e1 => ⟨a, st, N, by rw [List.append_nil]; exact hr _ (del_mono e1), hs.mono e1, hN, fun v H' e2 s2 h => k v H' ((Es.of e1).trans e2) s2 h⟩
/-- what an evaluation in what stays does -/
theorem es_run {st : Addr} {x : V} (h : Ev te σ (del H st) x) (k : ∀ H1, Ex H H1 → Q x H1) : te σ H Q := h H del_ex Q k
theorem ne_st {st p : Addr} {N : Nat} (hs : Sto H st N) (hp : H p = none) : p ≠ st := fun e => by
  obtain ⟨o, ho⟩ := hs.some
  rw [e, ho] at hp; cases hp
/-- a new thing stays new-/
theorem es_back {st p : Addr} {H' : Hp} {N : Nat} (hs : Sto H' st N) (e : Es st H H') (hp : H' p = none) : H p = none := by
  have h1 := ne_st hs hp
  have := fresh_back e hp
  rwa [del_ne h1] at this
theorem es_mut {st p : Addr} {H' : Hp} {o : HO} (e : Es st H H') (hp : H p = none) : Es st H (upd H' p o) := Ex.mut e (by
  unfold del
  split
  · rfl
  · exact hp)
theorem sto_mut {st p : Addr} {N : Nat} {o : HO} (hs : Sto H st N) (hp : p ≠ st) : Sto (upd H p o) st N := by
  obtain ⟨x, y, c, h1, h2, h3⟩ := hs
  exact ⟨x, y, c, by rw [upd_ne (Ne.symm hp)]; exact h1, h2, h3⟩
theorem es_at {st p : Addr} {H' : Hp} {o : HO} (e : Es st H H') (hp : p ≠ st) (h : H p = some o) : H' p = some o := e _ _ (by rw [del_ne hp]; exact h)
end
section
variable {P : Program} {w : World} {K : PySem.W.Frag} {mg : Str → Option Value} {base : Heap}
theorem erase_map {α β : Type} {f : α → β} : ∀ (l : List α) (r : Nat), (l.map f).eraseIdx r = (l.eraseIdx r).map f
  | [], r => by simp
  | a :: l, 0 => rfl
  | a :: l, r + 1 => by
    show f a :: (l.map f).eraseIdx r = f a :: (l.eraseIdx r).map f
    rw [erase_map l r]
theorem seqI_nat {r len : Nat} (h : r < len) : seqIndex? (r : Int) len = some r := by
  unfold seqIndex?
  simp only [show ¬ ((r : Int) < 0) by omega, if_false]
  rw [if_pos (by rw [Bool.and_eq_true, decide_eq_true_eq, decide_eq_true_eq]; omega), Int.toNat_natCast]
def WInv (st fp wp lp : Addr) (n bent a1 a2 a3 N : Nat) (H : Hp) (i : Nat) (σ' : L2.St) (H' : Hp) : Prop :=
  ∃ (y6 : Option V) (ws ls : List Nat), σ' = [some (.ref st), some (iV n), some (iV bent), some (.ref fp), some (.ref wp), some (.ref lp), y6] ∧ Es st H H' ∧ Sto H' st (N + 4 + 2 * i) ∧ H' fp = some (.lst (ws.map iV)) ∧ ws.length = i ∧ (∀ s ∈ ws, s < n) ∧ H' wp = some (.lst [iV a1, iV a2, iV a3]) ∧ H' lp = some (.lst (ls.map iV)) ∧ n ≤ ls.length + i ∧ ls.length ≤ n ∧ ∀ s ∈ ls, s < n
abbrev N_l_word : List Str := ["_law_store_here", "_law_many_here", "_law_bent", "_law_found", "_law_few", "_law_left", "_law_turn"]
theorem sc_l_word : FnScope N_l_word ["_law_store_here", "_law_many_here"] (defScope s_l_word) := ⟨rfl, rfl, rfl, by decide +kernel, rfl, by decide +kernel, by decide +kernel⟩
/-- a new list of m numbers below n -/
def NumL (m n : Nat) : Ph := fun v G => ∃ w : List Nat, w.length = m ∧ (∀ s ∈ w, s < n) ∧ NL w v G
theorem mono_NumL {m n : Nat} : Mono (NumL m n) := fun v G G' e ⟨w, h1, h2, h3⟩ => ⟨w, h1, h2, mono_NL _ _ _ e h3⟩
def sp_l_word : Sp := spS (fun (n : Nat) st vs _ => vs = [.ref st, iV n] ∧ 2 ≤ n ∧ n ≤ 60) 300 fun n => NumL (n - 2) n
theorem ok_l_word (M : Ms mg) (F : Df K mg "_law_word" s_l_word) (c_l_pick : Cal P w K mg base 1 "_law_pick" ["_law_store_here", "_law_many_here"] sp_l_pick) : Cal P w K mg base 2 "_law_word" ["_law_store_here", "_law_many_here"] sp_l_word := by
  refine mk_cal F sc_l_word (fun vs H Q E h => ?_)
      (fun _ _ _ _ _ _ us hl => match us, hl with | [_, _], _ => rfl)
    (fun f cdv A outer s H vs Q E hr h => ⟨_,
      (pss_cons (ps_par (i := 2) (j := 3) (by rfl) sc_l_word.nd rfl rfl (by decide) rfl rfl (pa_cons (pe_cal c_l_pick hr (pa_cons (pv 0) (pa_cons pe_int pa_nil))) (pa_cons (pe_lst pa_nil) pa_nil)) (by rfl))
        (pss_cons (ps_set (i := 4) sc_l_word.nd rfl (by first | exact Or.inl rfl | exact Or.inr rfl) (pe_lst (pa_cons (pe_cal c_l_pick hr (pa_cons (pv 0) (pa_cons (pv 1) pa_nil))) (pa_cons (pe_cal c_l_pick hr (pa_cons (pv 0) (pa_cons (pv 1) pa_nil))) (pa_cons (pe_cal c_l_pick hr (pa_cons (pv 0) (pa_cons (pv 1) pa_nil))) pa_nil)))))
        (pss_cons (ps_set (i := 5) sc_l_word.nd rfl (by first | exact Or.inl rfl | exact Or.inr rfl) (pe_listRg rfl rfl M.list (prg_1 rfl M.range (pv 1))))
        (pss_cons (ps_for PassesOwn.never rfl (pi_range1 rfl M.range (pa_cons (pe_op op_sub (pv 1) pe_int) pa_nil)) (pg_name (i := 6) sc_l_word.nd rfl (by first | exact Or.inl rfl | exact Or.inr rfl))
          (pss_one (ps_if (pt_cmpR op_eq (pv 2) pe_int (nomark _))
          (pss_one (ps_expr (pe_bm PySem.F.plainAttrs_list PySem.F.slot_list_append PySem.F.type_list_append mt_append (pv 3) (pa_cons (pe_ix ix_list (pv 4) pe_int (fun _ _ => rfl)) pa_nil))))
          (pss_one (ps_if (pt_cmpR op_eq (pv 2) pe_int (nomark _))
          (pss_one (ps_expr (pe_bm PySem.F.plainAttrs_list PySem.F.slot_list_append PySem.F.type_list_append mt_append (pv 3) (pa_cons (pe_ix ix_list (pv 4) (pe_cal c_l_pick hr (pa_cons (pv 0) (pa_cons pe_int pa_nil))) (fun _ _ => rfl)) pa_nil))))
          (pss_one (ps_if (pt_cmpR op_eq (pv 2) pe_int (nomark _))
          (pss_one (ps_expr (pe_bm PySem.F.plainAttrs_list PySem.F.slot_list_append PySem.F.type_list_append mt_append (pv 3) (pa_cons (pe_bm PySem.F.plainAttrs_list PySem.F.slot_list_pop PySem.F.type_list_pop mt_popAt (pv 5) (pa_cons (pe_cal c_l_pick hr (pa_cons (pv 0) (pa_cons (pe_callB call_len_seq (by rfl) M.len PySem.boot_len (pa_cons (pv 5) pa_nil)) pa_nil))) pa_nil)) pa_nil))))
          (pss_one (ps_expr (pe_bm PySem.F.plainAttrs_list PySem.F.slot_list_append PySem.F.type_list_append mt_append (pv 3) (pa_cons (pe_ix ix_list (pe_lst (pa_cons (pe_ix ix_list (pv 4) pe_int (fun _ _ => rfl)) (pa_cons (pe_cal c_l_pick hr (pa_cons (pv 0) (pa_cons (pv 1) pa_nil))) pa_nil))) (pe_callTy call_int1 (by rfl) M.int (by decide +kernel) (pa_cons (pe_cmpR op_gt (pe_cal c_l_pick hr (pa_cons (pv 0) (pa_cons (pv 2) pa_nil))) pe_int (nomark _)) pa_nil)) (fun _ _ => rfl)) pa_nil)))))))))))
        (pss_one (ps_ret (pv 3)))))))
    , ?_⟩)
  · obtain ⟨_, _, _, ⟨rfl, _⟩, _⟩ := h; rfl
  · obtain ⟨n, st, N, ⟨rfl, h2, h60⟩, hs, hN, q⟩ := h
    simp only at q
    refine cm_pick (st := st) (ea_cons (ev_var rfl) (ea_cons (ev_c (v := iV 5)) ea_nil)) (by decide) (by decide) hs (by omega) fun bent H1 hbent e1 s1 => ?_
    refine el_lst (vs := []) ea_nil (Nat.zero_le _) H1 (Ex.refl _) _ fun fp H2 hfp e2 hf2 => ⟨_, _, rfl, ?_⟩
    have s2 := s1.mono e2
    have e02 := e1.trans (.of e2)
    have f0 := es_back s1 e1 hfp
    have fst : fp ≠ st := ne_st s1 hfp
    refine cm_pick (st := st) (ea_cons (ev_var rfl) (ea_cons (ev_var (v := iV n) rfl) ea_nil)) (by omega) (by omega) s2 (by omega) fun a1 H3 ha1 e3 s3 => ?_
    refine cm_pick (st := st) (ea_cons (ev_var rfl) (ea_cons (ev_var (v := iV n) rfl) ea_nil)) (by omega) (by omega) s3 (by omega) fun a2 H4 ha2 e4 s4 => ?_
    refine cm_pick (st := st) (ea_cons (ev_var rfl) (ea_cons (ev_var (v := iV n) rfl) ea_nil)) (by omega) (by omega) s4 (by omega) fun a3 H5 ha3 e5 s5 => ?_
    show _ ∧ _
    refine ⟨sz_of (n := 3) (by decide), fun wp hwp => ?_⟩
    have e25 := (e3.trans e4).trans e5
    have e05 := e02.trans e25
    have hF5 : H5 fp = some (.lst []) := es_at e25 fst hf2
    have w0 := es_back s5 e05 hwp
    have wst : wp ≠ st := ne_st s5 hwp
    have wf : wp ≠ fp := fun e => by rw [e, hF5] at hwp; cases hwp
    have hw6 : (upd H5 wp (.lst [iV a1, iV a2, iV a3])) wp = some (.lst [iV a1, iV a2, iV a3]) := upd_same
    have e6 : Ex H5 (upd H5 wp (.lst [iV a1, iV a2, iV a3])) := Ex.new hwp
    show tSeq _ _ _ _ (upd H5 wp (.lst [iV a1, iV a2, iV a3]))
    generalize upd H5 wp (.lst [iV a1, iV a2, iV a3]) = H6 at hw6 e6
    have s6 := s5.mono e6
    refine q_asgL (el_rng (n := n) (ev_var rfl) (by omega)) fun lp H7 hlp e7 h7 => ?_
    have s7 := s6.mono e7
    have e07 := e05.trans (.of (e6.trans e7))
    have l0 := es_back s6 (e05.trans (.of e6)) hlp
    have lst' : lp ≠ st := ne_st s6 hlp
    have lf : lp ≠ fp := fun e => by rw [e, e6 _ _ hF5] at hlp; cases hlp
    have lw : lp ≠ wp := fun e => by rw [e, hw6] at hlp; cases hlp
    refine q_for (itw_range1 (n := n - 2) (ea_cons (ev_subN (ev_var (v := iV n) rfl) (ev_c (v := iV 2)) h2) ea_nil) (by omega))
      (WInv st fp wp lp n bent a1 a2 a3 N H)
      (fun H8 e8 => ⟨none, [], List.range n, rfl, e07.trans (.of e8), s7.mono e8, (e6.trans (e7.trans e8)) _ _ hF5, rfl, (fun _ h => nomatch h), (e7.trans e8) _ _ hw6, by rw [e8 _ _ h7, fl_map, List.map_id], by rw [List.length_range]; omega, by rw [List.length_range]; omega, fun s hs => List.mem_range.mp hs⟩) (fun _ _ _ _ => trivial) (fun i x σ' H' H8 hi hwv e8 hx => ?_) (fun σ' H' hwv => ?_)
    · obtain ⟨y6, ws, ls, rfl, ex, sx, hF, hwl, hwn, hW, hL, hl1, hl3, hl2⟩ := hwv
      subst hx
      have s8 := sx.mono e8
      have ex8 := ex.trans (.of e8)
      have app : ∀ (r : Nat) (ls' : List Nat) (H9 : Hp), r < n → Es st H H9 → Sto H9 st (N + 4 + 2 * i + 2) → H9 fp = some (.lst (ws.map iV)) → H9 wp = some (.lst [iV a1, iV a2, iV a3]) → H9 lp = some (.lst (ls'.map iV)) → n ≤ ls'.length + (i + 1) → ls'.length ≤ n → (∀ s ∈ ls', s < n) →
          rAppend (.ref fp) [iV r] H9 (fun _ H10 => WInv st fp wp lp n bent a1 a2 a3 N H (i + 1) [some (.ref st), some (iV n), some (iV bent), some (.ref fp), some (.ref wp), some (.ref lp), some (iV i)] H10) := fun r ls' H9 hr ee ss hF9 hW9 hL9 q1 q3 q2 =>
        ⟨fp, ws.map iV, iV r, rfl, rfl, hF9, sz_lt (by rw [List.length_map]; omega), some (iV i), ws ++ [r], ls', rfl, es_mut ee f0, sto_mut ss fst, by rw [upd_same, List.map_append]; rfl, by rw [List.length_append, hwl]; rfl, fun s hs => by
          rcases List.mem_append.mp hs with z | z
          · exact hwn s z
          · rw [List.mem_singleton.mp z]; exact hr, by rw [upd_ne wf]; exact hW9, by rw [upd_ne lf]; exact hL9, q1, q3, q2⟩
      have hF8 := e8 _ _ hF
      have hW8 := e8 _ _ hW
      have hL8 := e8 _ _ hL
      have tyF : ∀ H9, H9 fp = some (.lst (ws.map iV)) → tyV K "list" (.ref fp) H9 := fun H9 h => Or.inl ⟨rfl, _, sq_of h⟩
      refine s_if (b := decide (bent = 0)) (et_is (et_test (ev_op (ev_var (v := iV bent) rfl) (ev_c (v := iV 0)) (rv_eq rfl))) (by show decide (iV bent = iV 0) = _; rw [decide_eq_decide, iV_inj])) (fun _ H9 e9 => ?_) (fun hb0 H9 e9 => ?_)
      · have ev := ev_op (σ := [some (.ref st), some (iV n), some (iV bent), some (.ref fp), some (.ref wp), some (.ref lp), some (iV i)]) (H := H9) (ta := tVar 4) (tb := tC (.int 0)) (ev_var rfl) ev_c (rv_ixL (K := K) (sq_of (e9 _ _ hW8)) (atI_nat (j := 0) rfl))
        exact ⟨.ref fp, rfl, tyF _ (e9 _ _ hF8), ev H9 (Ex.refl _) _ fun H10 e10 => app a1 ls H10 ha1 (ex8.trans (.of (e9.trans e10))) ((s8.mono (e9.trans e10)).le (by omega)) ((e9.trans e10) _ _ hF8) ((e9.trans e10) _ _ hW8) ((e9.trans e10) _ _ hL8) (by omega) hl3 hl2⟩
      refine s_if (b := decide (bent = 1)) (et_is (et_test (ev_op (ev_var (v := iV bent) rfl) (ev_c (v := iV 1)) (rv_eq rfl))) (by show decide (iV bent = iV 1) = _; rw [decide_eq_decide, iV_inj])) (fun _ H10 e10 => ?_) (fun hb1 H10 e10 => ?_)
      · have e80 := e9.trans e10
        refine ⟨.ref fp, rfl, tyF _ (e80 _ _ hF8), .ref wp, rfl, ?_⟩
        refine cm_pick (st := st) (N := N + 4 + 2 * i) (ea_cons (ev_var rfl) (ea_cons (ev_c (v := iV 3)) ea_nil)) (by decide) (by decide) (s8.mono e80) (by omega) fun r H11 hr e11 s11 => ?_
        have hW11 := es_at e11 wst (e80 _ _ hW8)
        have hit : ∃ v : Nat, v < n ∧ [iV a1, iV a2, iV a3][r]? = some (iV v) := by
          match r, hr with
          | 0, _ => exact ⟨a1, ha1, rfl⟩
          | 1, _ => exact ⟨a2, ha2, rfl⟩
          | 2, _ => exact ⟨a3, ha3, rfl⟩
        obtain ⟨v, hv, hvr⟩ := hit
        exact rv_ixL (K := K) (sq_of hW11) (atI_nat hvr) H11 (Ex.refl _) _ fun H12 e12 => app v ls H12 hv ((ex8.trans (.of e80)).trans (e11.trans (.of e12))) ((s11.mono e12).le (by omega)) (e12 _ _ (es_at e11 fst (e80 _ _ hF8))) (e12 _ _ hW11) (e12 _ _ (es_at e11 lst' (e80 _ _ hL8))) (by omega) hl3 hl2
      refine s_if (b := decide (bent = 2)) (et_is (et_test (ev_op (ev_var (v := iV bent) rfl) (ev_c (v := iV 2)) (rv_eq rfl))) (by show decide (iV bent = iV 2) = _; rw [decide_eq_decide, iV_inj])) (fun _ H11 e11 => ?_) (fun hb2 H11 e11 => ?_)
      · have e80 := (e9.trans e10).trans e11
        refine ⟨.ref fp, rfl, tyF _ (e80 _ _ hF8), .ref lp, rfl, Or.inl ⟨rfl, _, sq_of (e80 _ _ hL8)⟩, ?_⟩
        have hLd : del H11 st lp = some (.lst (ls.map iV)) := by rw [del_ne lst']; exact e80 _ _ hL8
        refine cm_pick (st := st) (n := ls.length) (N := N + 4 + 2 * i) (ea_cons (ev_var rfl) (ea_cons (ev_is (ev_len0 (K := K) (ev_var rfl) (sq_of hLd)) (by rw [List.length_map]; rfl)) ea_nil)) (by omega) (by omega) (s8.mono e80) (by omega) fun r H12 hr e12 s12 => ?_
        have hL12 := es_at e12 lst' (e80 _ _ hL8)
        refine ⟨lp, ls.map iV, (r : Int), r, iV ls[r], rfl, rfl, hL12, by omega, by omega, by rw [List.length_map]; exact seqI_nat hr, by rw [List.getElem?_map, List.getElem?_eq_getElem hr]; rfl, ?_⟩
        have el : (ls.map iV).eraseIdx r = (ls.eraseIdx r).map iV := by rw [erase_map]
        rw [el]
        refine app ls[r] (ls.eraseIdx r) _ (hl2 _ (List.getElem_mem hr)) (es_mut ((ex8.trans (.of e80)).trans e12) l0) ((sto_mut s12 lst').le (by omega)) (by rw [upd_ne (Ne.symm lf)]; exact es_at e12 fst (e80 _ _ hF8)) (by rw [upd_ne (Ne.symm lw)]; exact es_at e12 wst (e80 _ _ hW8)) upd_same ?_ ?_ fun s hs => hl2 s (List.mem_of_mem_eraseIdx hs)
        · rw [List.length_eraseIdx_of_lt hr]; omega
        · rw [List.length_eraseIdx_of_lt hr]; omega
      · have e80 := (e9.trans e10).trans e11
        have hb : 1 ≤ bent := by
          have := of_decide_eq_false hb0
          omega
        have ev := ev_op (σ := [some (.ref st), some (iV n), some (iV bent), some (.ref fp), some (.ref wp), some (.ref lp), some (iV i)]) (H := H11) (ta := tVar 4) (tb := tC (.int 0)) (ev_var rfl) ev_c (rv_ixL (K := K) (sq_of (e80 _ _ hW8)) (atI_nat (j := 0) rfl))
        refine ⟨.ref fp, rfl, tyF _ (e80 _ _ hF8), ev H11 (Ex.refl _) _ fun H12 e12 => ?_⟩
        have e82 := e80.trans e12
        refine cm_pick (st := st) (N := N + 4 + 2 * i) (ea_cons (ev_var rfl) (ea_cons (ev_var (v := iV n) rfl) ea_nil)) (by omega) (by omega) (s8.mono e82) (by omega) fun r H13 hr e13 s13 => ?_
        show _ ∧ _
        refine ⟨sz_of (n := 2) (by decide), fun p hp => ?_⟩
        have hp1 : (upd H13 p (.lst [iV a1, iV r])) p = some (.lst [iV a1, iV r]) := upd_same
        have e14 : Ex H13 (upd H13 p (.lst [iV a1, iV r])) := Ex.new hp
        have pst := ne_st s13 hp
        have key : ∀ H14, Ex H13 H14 → H14 p = some (.lst [iV a1, iV r]) → tOp (rIxL K) (tC (.ref p)) (tCB (fun xs H Q => (∃ i, xs = [V.int i] ∧ Q (V.int i) H) ∨ ∃ k, xs = [V.bl k] ∧ Q (V.int (if k = true then 1 else 0)) H) (tCons (tOp (rI0 fun i j => V.bl (decide (j < i))) (tCall sp_l_pick [] E0 (tCons (tVar 0) (tCons (tVar 2) tNil))) (tC (V.int 0))) tNil))
            [some (.ref st), some (iV n), some (iV bent), some (.ref fp), some (.ref wp), some (.ref lp), some (iV i)] H14 (fun v H15 => rAppend (.ref fp) [v] H15 fun _ H10 => WInv st fp wp lp n bent a1 a2 a3 N H (i + 1) [some (.ref st), some (iV n), some (iV bent), some (.ref fp), some (.ref wp), some (.ref lp), some (iV i)] H10) := fun H14 e14 hp14 => by
          refine cm_pick (st := st) (n := bent) (N := N + 4 + 2 * i + 1) (ea_cons (ev_var rfl) (ea_cons (ev_var (v := iV bent) rfl) ea_nil)) hb (by omega) (s13.mono e14) (by omega) fun r2 H15 hr2 e15 s15 => ?_
          refine ev_c (v := .int 0) H15 (Ex.refl _) _ fun H15b e15b => ?_
          refine (rv_I0 (i := (r2 : Int)) (j := 0) : RV (rI0 fun i j => V.bl (decide (j < i))) _ _ _ _) H15b (Ex.refl _) _ fun H16 e16b => ?_
          have e16 := e15b.trans e16b
          refine Or.inr ⟨_, rfl, ?_⟩
          have hp15 := e16 _ _ (es_at e15 pst hp14)
          have fin : ∀ (v : Nat) (H17 : Hp), v < n → Ex H16 H17 → rAppend (.ref fp) [iV v] H17 fun _ H10 => WInv st fp wp lp n bent a1 a2 a3 N H (i + 1) [some (.ref st), some (iV n), some (iV bent), some (.ref fp), some (.ref wp), some (.ref lp), some (iV i)] H10 := fun v H17 hv e17 => by
            have e67 := e16.trans e17
            have eA : Es st H8 H17 := ((Es.of e82).trans e13).trans ((Es.of e14).trans (e15.trans (.of e67)))
            exact app v ls H17 hv (ex8.trans eA) ((s15.mono e67).le (by omega)) (es_at eA fst hF8) (es_at eA wst hW8) (es_at eA lst' hL8) (by omega) hl3 hl2
          by_cases hz : r2 = 0
          · have e0 : V.int (if decide ((0 : Int) < (r2 : Int)) = true then 1 else 0) = iV 0 := by rw [hz]; rfl
            show rIxL K (.ref p) (V.int (if decide ((0 : Int) < (r2 : Int)) = true then 1 else 0)) H16 _
            rw [e0]
            exact rv_ixL (K := K) (sq_of hp15) (atI_nat (j := 0) rfl) H16 (Ex.refl _) _ fun H17 e17 => fin a1 H17 ha1 e17
          · have e0 : V.int (if decide ((0 : Int) < (r2 : Int)) = true then 1 else 0) = iV 1 := by rw [decide_eq_true (by omega)]; rfl
            show rIxL K (.ref p) (V.int (if decide ((0 : Int) < (r2 : Int)) = true then 1 else 0)) H16 _
            rw [e0]
            exact rv_ixL (K := K) (sq_of hp15) (atI_nat (j := 1) rfl) H16 (Ex.refl _) _ fun H17 e17 => fin r H17 hr e17
        exact key _ e14 hp1
    · obtain ⟨y6, ws, ls, rfl, ex, sx, hF, hwl, hwn, hW, hL, hl1, hl3, hl2⟩ := hwv
      exact s_ret (ev_var rfl) fun H8 e8 => q _ H8 (ex.trans (.of e8)) ((sx.mono e8).le (by omega)) ⟨ws, hwl, hwn, fp, rfl, newp_of f0 (e8 _ _ hF)⟩
end
end Ly
end
section
set_option Elab.async false
set_option linter.all false
set_option maxRecDepth 100000
set_option maxHeartbeats 4000000
/-! The walk: what is drawn, small and great. -/
namespace Ly
open PySem PySem.Spec PyProof.Rows L2 Evl Hd Pn
section
variable {K : PySem.W.Frag} {σ : L2.St} {H : Hp} {te tl ta tb : TE} {v : V}
theorem ev_ixL {xs : List V} {i : Int} (h : EvL tl σ H xs) (hb : Ev tb σ H (.int i)) (ha : atI xs i = some v) : Ev (tOp (rIxL K) tl tb) σ H v := fun H1 e Q q =>
  h H1 e _ fun p H2 _ e2 h2 => hb H2 (e.trans e2) _ fun H3 e3 => rv_ixL (sq_of (e3 _ _ h2)) ha H3 (Ex.refl _) Q fun H4 e4 => q H4 ((e2.trans e3).trans e4)
theorem atI_last {w : List Nat} (h : w ≠ []) : ∃ u, u ∈ w ∧ atI (w.map iV) (-1) = some (iV u) := by
  have hl : 0 < w.length := List.length_pos_iff.mpr h
  refine ⟨w[w.length - 1], List.getElem_mem _, ?_⟩
  unfold atI ixN
  rw [List.length_map, if_neg (by decide), if_pos (by omega)]
  show (w.map iV)[((-1 : Int) + (w.length : Int)).toNat]? = _
  rw [show ((-1 : Int) + (w.length : Int)).toNat = w.length - 1 by omega, List.getElem?_map, List.getElem?_eq_getElem (by omega)]
  rfl
end
section
variable {P : Program} {w : World} {K : PySem.W.Frag} {mg : Str → Option Value} {base : Heap}
abbrev N_l_small : List Str := ["_law_store_here", "_law_most", "_law_word_here", "_law_turn"]
theorem sc_l_small : FnScope N_l_small ["_law_store_here", "_law_most"] (defScope s_l_small) := ⟨rfl, rfl, rfl, by decide +kernel, rfl, by decide +kernel, by decide +kernel⟩
def SmW : Ph := fun v G => ∃ w : List Nat, w.length ≤ 5 ∧ (∀ s ∈ w, s < w.length + 2) ∧ NL w v G
def sp_l_small : Sp := spS (fun (_ : Unit) st vs _ => vs = [.ref st, iV 60]) 301 fun _ => SmW
theorem ok_l_small (M : Ms mg) (F : Df K mg "_law_small" s_l_small) (c_l_pick : Cal P w K mg base 1 "_law_pick" ["_law_store_here", "_law_many_here"] sp_l_pick) (c_l_word : Cal P w K mg base 2 "_law_word" ["_law_store_here", "_law_many_here"] sp_l_word) (c_l_many : Cal P w K mg base 1 "_law_many" ["_law_word_here"] sp_l_many) : Cal P w K mg base 3 "_law_small" ["_law_store_here", "_law_most"] sp_l_small := by
  refine mk_cal F sc_l_small (fun vs H Q E h => ?_)
      (fun _ _ _ _ _ _ us hl => match us, hl with | [_, _], _ => rfl)
    (fun f cdv A outer s H vs Q E hr h => ⟨_,
      (pss_cons (ps_set (i := 2) sc_l_small.nd rfl (by first | exact Or.inl rfl | exact Or.inr rfl) (pe_cal c_l_word hr (pa_cons (pv 0) (pa_cons (pe_op op_add pe_int (pe_cal c_l_pick hr (pa_cons (pv 0) (pa_cons pe_int pa_nil)))) pa_nil))))
        (pss_cons (ps_for PassesOwn.never rfl (pi_range1 rfl M.range (pa_cons (pe_callB call_len_seq (by rfl) M.len PySem.boot_len (pa_cons (pv 2) pa_nil)) pa_nil)) (pg_name (i := 3) sc_l_small.nd rfl (by first | exact Or.inl rfl | exact Or.inr rfl))
          (pss_one (ps_if (pt_cmpR op_gt (pe_cal c_l_many hr (pa_cons (pv 2) pa_nil)) (pv 1) (nomark _))
          (pss_one (ps_asg (pe_ix ix_list (pv 2) (pe_un un_neg pe_int) (fun _ _ => rfl)) (pg_sub (pv 2) (pv 3) set_list)))
          pss_nil)))
        (pss_one (ps_ret (pv 2)))))
    , ?_⟩)
  · obtain ⟨_, _, _, rfl, _⟩ := h; rfl
  · obtain ⟨_, st, N, rfl, hs, hN, q⟩ := h
    simp only at q
    refine ⟨.ref st, rfl, ?_⟩
    refine cm_pick (st := st) (ea_cons (ev_var rfl) (ea_cons (ev_c (v := iV 6)) ea_nil)) (by decide) (by decide) hs (by omega) fun r H1 hr e1 s1 => ?_
    refine (rv_I0 (i := 2) (j := (r : Int)) : RV (rI0 fun i j => V.int (i + j)) _ _ _ _) H1 (Ex.refl _) _ fun H2 e2 => ?_
    have e02 : Es st H H2 := e1.trans (.of e2)
    refine ⟨2 + r, st, N + 1, ⟨by show [V.ref st, V.int (2 + (r : Int))] ++ [] = _; rw [List.append_nil]; unfold iV; rw [Int.natCast_add]; rfl, by omega, by omega⟩, s1.mono e2, by omega, fun v H3 e3 s3 hv => ?_⟩
    obtain ⟨wd, hwl, hwn, a, rfl, ha⟩ := hv
    obtain ⟨a0, ha3⟩ := newp_is ha
    have a00 := es_back (s1.mono e2) e02 a0
    have ast := ne_st (s1.mono e2) a0
    have e03 := e02.trans e3
    refine q_for (itw_range1 (n := wd.length) (ea_cons (ev_is (ev_len0 (K := K) (ev_var rfl) (sq_of ha3)) (by rw [List.length_map])) ea_nil) (by omega))
      (fun i σ' H' => ∃ (y3 : Option V) (w' : List Nat), σ' = [some (.ref st), some (iV 60), some (.ref a), y3] ∧ Es st H H' ∧ Sto H' st (N + 301) ∧ H' a = some (.lst (w'.map iV)) ∧ w'.length = wd.length ∧ ∀ s ∈ w', s < 2 + r)
      (fun H4 e4 => ⟨none, wd, rfl, e03.trans (.of e4), (s3.mono e4).le (by omega), e4 _ _ ha3, rfl, hwn⟩) (fun _ _ _ _ => trivial) (fun i x σ' H' H4 hi hwv e4 hx => ?_) (fun σ' H' hwv => ?_)
    · obtain ⟨y3, w', rfl, ex, sx, hA, hl, hn⟩ := hwv
      subst hx
      refine (evp_call (E := E0) (σ := [some (.ref st), some (iV 60), some (.ref a), some (iV i)]) (H := H4) (ta := tCons (tVar 2) tNil) (a, w') (Φ := fun _ => AnyN) (fun _ _ _ _ h => h) (ea_cons (ev_var rfl) ea_nil) fun H5 e5 => ⟨rfl, (e4.trans e5) _ _ hA, by show w'.length ≤ 60; omega⟩) H4 (Ex.refl _) _ fun v H5 e5 hv => ?_
      obtain ⟨m, rfl⟩ := hv
      refine ev_var (v := iV 60) rfl H5 (Ex.refl _) _ fun H6 e6 => ?_
      refine (rv_I0 (i := (m : Int)) (j := 60) : RV (rI0 fun i j => V.bl (decide (j < i))) _ _ _ _) H6 (Ex.refl _) _ fun H7 e7 => ⟨_, rfl, ?_⟩
      have e47 := ((e4.trans e5).trans e6).trans e7
      have hA7 := e47 _ _ hA
      have hz : w' ≠ [] := fun e => by rw [e] at hl; simp at hl; omega
      obtain ⟨u, hu, hat⟩ := atI_last hz
      by_cases hb : decide ((60 : Int) < (m : Int)) = true
      · show (if decide ((60 : Int) < (m : Int)) = true then _ else _)
        rw [if_pos hb]
        refine s_setL (j := i) hA7 (ev_op (ev_var rfl) (ev_un ev_c (fun H1 _ Q q => ⟨1, rfl, q H1 (Ex.refl _)⟩)) (rv_ixL (K := K) (sq_of hA7) hat)) (ev_var rfl) (ev_var (v := iV i) rfl) (by rw [List.length_map]; omega) fun H8 e8 => ?_
        refine ⟨some (iV i), w'.set i u, rfl, es_mut (ex.trans (.of (e47.trans e8))) a00, sto_mut (sx.mono (e47.trans e8)) ast, by rw [upd_same, List.map_set], by rw [List.length_set]; exact hl, fun s hs => ?_⟩
        rcases List.mem_or_eq_of_mem_set hs with z | z
        · exact hn s z
        · rw [z]; exact hn u hu
      · show (if decide ((60 : Int) < (m : Int)) = true then _ else _)
        rw [if_neg hb]
        exact ⟨some (iV i), w', rfl, ex.trans (.of e47), sx.mono e47, hA7, hl, hn⟩
    · obtain ⟨y3, w', rfl, ex, sx, hA, hl, hn⟩ := hwv
      exact s_ret (ev_var rfl) fun H4 e4 => q _ H4 (ex.trans (.of e4)) (sx.mono e4) ⟨w', by omega, fun s hs => by have := hn s hs; omega, a, rfl, newp_of a00 (e4 _ _ hA)⟩
abbrev N_l_great : List Str := ["_law_store_here", "_law_most", "_law_many_here", "_law_bent", "_law_hub", "_law_least", "_law_found", "_law_spot"]
theorem sc_l_great : FnScope N_l_great ["_law_store_here", "_law_most"] (defScope s_l_great) := ⟨rfl, rfl, rfl, by decide +kernel, rfl, by decide +kernel, by decide +kernel⟩
/-- plugs of a net of 8 to 60 devices -/
def Grt (ds : List Nat) : Prop := 8 ≤ ds.length ∧ ds.length ≤ 60 ∧ (∀ d ∈ ds, 1 ≤ d ∧ d ≤ 10 ^ 30) ∧ ds.sum + 2 = 2 * ds.length
def GrtL : Ph := fun v G => ∃ ds : List Nat, Grt ds ∧ NL ds v G
def sp_l_great : Sp := spS (fun (m : Nat) st vs _ => vs = [.ref st, iV m] ∧ (m = 60 ∨ m = 24)) 305 fun _ => GrtL
theorem grt_word {wd : List Nat} {n : Nat} (h1 : wd.length = n - 2) (h2 : 8 ≤ n) (h3 : n ≤ 60) (h4 : ∀ s ∈ wd, s < n) : Grt ((List.range (wd.length + 2)).map (pw wd)) := by
  refine ⟨by rw [List.length_map, List.length_range]; omega, by rw [List.length_map, List.length_range]; omega, fun d hd => ?_, ?_⟩
  · obtain ⟨x, _, rfl⟩ := List.mem_map.mp hd
    unfold pw
    have : wd.count x ≤ wd.length := List.count_le_length
    have : (60 : Nat) ≤ 10 ^ 30 := by decide
    omega
  · rw [S_list, List.length_map, List.length_range]
    have := (beg_nil (w := wd) fun s hs => by have := h4 s hs; omega).st.sum
    simp only [List.length_nil] at this
    omega
theorem modw {a p n : Nat} (h1 : a < n) (h2 : p < n) : (a + p) % n = if a + p < n then a + p else a + p - n := by
  split
  · rename_i z
    exact Nat.mod_eq_of_lt z
  · rename_i z
    rw [Nat.mod_eq_sub_mod (by omega), Nat.mod_eq_of_lt (by omega)]
def GInv (n hub i : Nat) (g : Nat → Nat) : Prop := S n g = n + i ∧ g hub = 1 ∧ (∀ x, x < n → 1 ≤ g x ∧ g x ≤ 2) ∧ ∀ j, i ≤ j → j < n - 1 → g ((hub + 1 + j) % n) = 1
theorem ginv_step {n hub i : Nat} {g : Nat → Nat} (hh : hub < n) (hi : i < n - 2) (h : GInv n hub i g) : GInv n hub (i + 1) (up g ((hub + 1 + i) % n) 2) := by
  obtain ⟨h1, h2, h3, h4⟩ := h
  have hx : (hub + 1 + i) % n < n := Nat.mod_lt _ (by omega)
  have hg := h4 i (Nat.le_refl _) (by omega)
  have ne : ∀ p, p < n → p ≠ 1 + i → (hub + p) % n ≠ (hub + 1 + i) % n := fun p hp hpi => by
    rw [Nat.add_assoc, modw hh hp, modw hh (show 1 + i < n by omega)]
    split <;> split <;> omega
  have hne : hub ≠ (hub + 1 + i) % n := fun e => ne 0 (by omega) (by omega) (by rw [Nat.add_zero, Nat.mod_eq_of_lt hh]; exact e)
  refine ⟨?_, by rw [up_ne hne]; exact h2, fun x hx => ?_, fun j hj1 hj2 => ?_⟩
  · have := S_upd (n := n) (i := (hub + 1 + i) % n) (f := g) (g := up g ((hub + 1 + i) % n) 2) hx fun k _ hk => up_ne hk
    rw [up_same, hg, h1] at this
    omega
  · unfold up
    split
    · omega
    · exact h3 x hx
  · rw [up_ne (by rw [Nat.add_assoc]; exact ne (1 + j) (by omega) (by omega))]
    exact h4 j (by omega) hj2
theorem ginv_end {n hub m : Nat} {g : Nat → Nat} (h8 : 8 ≤ n) (h60 : n ≤ 60) (hh : hub < n) (hm : m ≤ n - 2) (h : GInv n hub m g) : S n (up g hub 0) + 1 = n + m ∧ Grt ((List.range n).map (up (up g hub 0) hub (n - 1 - m))) := by
  obtain ⟨h1, h2, h3, h4⟩ := h
  have a := S_upd (n := n) (i := hub) (f := g) (g := up g hub 0) hh fun k _ hk => up_ne hk
  rw [up_same, h2, h1] at a
  have b := S_upd (n := n) (i := hub) (f := up g hub 0) (g := up (up g hub 0) hub (n - 1 - m)) hh fun k _ hk => up_ne hk
  rw [up_same, up_same] at b
  refine ⟨by omega, by rw [List.length_map, List.length_range]; omega, by rw [List.length_map, List.length_range]; omega, fun d hd => ?_, by rw [S_list, List.length_map, List.length_range]; omega⟩
  obtain ⟨x, hx, rfl⟩ := List.mem_map.mp hd
  have hx' := List.mem_range.mp hx
  have big : (60 : Nat) ≤ 10 ^ 30 := by decide
  by_cases e : x = hub
  · rw [e, up_same]; omega
  · rw [up_ne e, up_ne e]
    have := h3 x hx'
    omega
theorem ok_l_great (M : Ms mg) (F : Df K mg "_law_great" s_l_great) (c_l_pick : Cal P w K mg base 1 "_law_pick" ["_law_store_here", "_law_many_here"] sp_l_pick) (c_l_word : Cal P w K mg base 2 "_law_word" ["_law_store_here", "_law_many_here"] sp_l_word) (c_l_plugs : Cal P w K mg base 1 "_law_plugs" ["_law_word_here"] sp_l_plugs) : Cal P w K mg base 3 "_law_great" ["_law_store_here", "_law_most"] sp_l_great := by
  refine mk_cal F sc_l_great (fun vs H Q E h => ?_)
      (fun _ _ _ _ _ _ us hl => match us, hl with | [_, _], _ => rfl)
    (fun f cdv A outer s H vs Q E hr h => ⟨_,
      (pss_cons (ps_set (i := 2) sc_l_great.nd rfl (by first | exact Or.inl rfl | exact Or.inr rfl) (pe_ix ix_list (pe_lst (pa_cons (pv 1) (pa_cons (pe_op op_add pe_int (pe_cal c_l_pick hr (pa_cons (pv 0) (pa_cons (pe_op op_sub (pv 1) pe_int) pa_nil)))) pa_nil))) (pe_cal c_l_pick hr (pa_cons (pv 0) (pa_cons pe_int pa_nil))) (fun _ _ => rfl)))
        (pss_cons (ps_set (i := 3) sc_l_great.nd rfl (by first | exact Or.inl rfl | exact Or.inr rfl) (pe_cal c_l_pick hr (pa_cons (pv 0) (pa_cons pe_int pa_nil))))
        (pss_cons (ps_if (pt_cmpR op_gt (pv 3) pe_int (nomark _))
          (pss_one (ps_ret (pe_cal c_l_plugs hr (pa_cons (pe_cal c_l_word hr (pa_cons (pv 0) (pa_cons (pv 2) pa_nil))) pa_nil))))
          pss_nil)
        (pss_cons (ps_par (i := 4) (j := 5) (by rfl) sc_l_great.nd rfl rfl (by decide) rfl rfl (pa_cons (pe_cal c_l_pick hr (pa_cons (pv 0) (pa_cons (pv 2) pa_nil))) (pa_cons (pe_cal c_l_pick hr (pa_cons (pv 0) (pa_cons (pe_op op_sub (pv 2) pe_int) pa_nil))) pa_nil)) (by rfl))
        (pss_cons (ps_set (i := 6) sc_l_great.nd rfl (by first | exact Or.inl rfl | exact Or.inr rfl) (pe_op op_rep (pe_lst (pa_cons pe_int pa_nil)) (pv 2)))
        (pss_cons (ps_for PassesOwn.never rfl (pi_range1 rfl M.range (pa_cons (pe_ix ix_list (pe_lst (pa_cons (pe_op op_sub (pv 2) pe_int) (pa_cons pe_int (pa_cons (pv 5) pa_nil)))) (pv 3) (fun _ _ => rfl)) pa_nil)) (pg_name (i := 7) sc_l_great.nd rfl (by first | exact Or.inl rfl | exact Or.inr rfl))
          (pss_one (ps_asg pe_int (pg_sub (pv 6) (pe_op op_modN (pe_callTy call_int1 (by rfl) M.int (by decide +kernel) (pa_cons (pe_op op_add (pe_op op_add (pv 4) pe_int) (pv 7)) pa_nil)) (pv 2)) set_list))))
        (pss_cons (ps_asg pe_int (pg_sub (pv 6) (pv 4) set_list))
        (pss_cons (ps_asg (pe_callB (call_max2 rfl) (by rfl) M.max (by decide +kernel) (pa_cons pe_int (pa_cons (pe_op op_sub (pe_op op_sub (pe_op op_mul pe_int (pv 2)) pe_int) (pe_callB (cr_sum rfl) (by rfl) M.sum (by decide +kernel) (pa_cons (pv 6) pa_nil))) pa_nil))) (pg_sub (pv 6) (pv 4) set_list))
        (pss_one (ps_ret (pv 6)))))))))))
    , ?_⟩)
  · obtain ⟨_, _, _, ⟨rfl, _⟩, _⟩ := h; rfl
  · obtain ⟨mo, st, N, ⟨rfl, hmo⟩, hs, hN, q⟩ := h
    simp only at q hmo
    refine ⟨iV mo, rfl, ?_⟩
    refine cm_pick (st := st) (n := mo - 7) (ea_cons (ev_var rfl) (ea_cons (ev_subN (ev_var (v := iV mo) rfl) (ev_c (v := iV 7)) (by omega)) ea_nil)) (by omega) (by omega) hs (by omega) fun r H1 hr e1 s1 => ?_
    refine (rv_I0 (i := 8) (j := (r : Int)) : RV (rI0 fun i j => V.int (i + j)) _ _ _ _) H1 (Ex.refl _) _ fun H2 e2 => ?_
    have e02 : Es st H H2 := e1.trans (.of e2)
    have s2 := s1.mono e2
    show _ ∧ _
    refine ⟨sz_of (n := 2) (by decide), fun p hp => ?_⟩
    have pst := ne_st s2 hp
    have e3 : Ex H2 (upd H2 p (.lst [iV mo, V.int (8 + (r : Int))])) := Ex.new hp
    have hp3 : upd H2 p (.lst [iV mo, V.int (8 + (r : Int))]) p = some (.lst [iV mo, V.int (8 + (r : Int))]) := upd_same
    refine cm_pick (st := st) (n := 2) (N := N + 1) (ea_cons (ev_var rfl) (ea_cons (ev_c (v := iV 2)) ea_nil)) (by decide) (by decide) (s2.mono e3) (by omega) fun r2 H4 hr2 e4 s4 => ?_
    have hit : ∃ n : Nat, 8 ≤ n ∧ n ≤ 60 ∧ [iV mo, V.int (8 + (r : Int))][r2]? = some (iV n) := by
      match r2, hr2 with
      | 0, _ => exact ⟨mo, by omega, by omega, rfl⟩
      | 1, _ => exact ⟨8 + r, by omega, by omega, by show some (V.int _) = some (V.int _); rw [Int.natCast_add]; rfl⟩
    obtain ⟨n, h8, h60, hnr⟩ := hit
    refine rv_ixL (K := K) (sq_of (es_at e4 pst hp3)) (atI_nat hnr) H4 (Ex.refl _) _ fun H5 e5 => ?_
    have e05 : Es st H H5 := (e02.trans (.of e3)).trans (e4.trans (.of e5))
    have s5 := s4.mono e5
    show tSeq _ _ _ _ H5
    refine cm_pick (st := st) (n := 8) (ea_cons (ev_var rfl) (ea_cons (ev_c (v := iV 8)) ea_nil)) (by decide) (by decide) s5 (by omega) fun bent H6 hbent e6 s6 => ?_
    have e06 := e05.trans e6
    show tSeq _ _ _ _ H6
    by_cases hb : 2 < bent
    · refine q_when (b := true) (et_is (et_test (ev_op (ev_var (v := iV bent) rfl) ev_c rv_I0)) (decide_eq_true (by omega))) (fun _ H7 e7 => ?_) (fun z => Bool.noConfusion z)
      refine cm_call (st := st) (N := N + 1 + 1 + 1) (lim := 300) (Φ := fun n => NumL (n - 2) n) n mono_NumL (ea_cons (ev_var rfl) (ea_cons (ev_var (v := iV n) rfl) ea_nil)) (fun H8 _ => ⟨rfl, by omega, h60⟩) (s6.mono e7) (by omega) fun v H8 e8 s8 hv => ?_
      obtain ⟨wd, hwl, hwn, a, rfl, ha⟩ := hv
      have e08 := (e06.trans (.of e7)).trans e8
      have ha8 := (newp_is ha).2
      refine (show sp_l_plugs [V.ref a] H8 Q E0 from ⟨(a, wd), ⟨rfl, ha8, by show wd.length ≤ 60; omega⟩, fun v H9 e9 hv => ?_⟩)
      obtain ⟨p9, rfl, hp9⟩ := hv
      obtain ⟨o, ho⟩ := hs.some
      refine q _ H9 (e08.trans (.of e9)) ((s8.mono e9).le (by omega)) ⟨_, grt_word hwl h8 h60 hwn, p9, rfl, ?_⟩
      rw [← fl_map]
      exact newp_of (es_back s8 e08 (newp_is hp9).1) (newp_is hp9).2
    · refine q_when (b := false) (et_is (et_test (ev_op (ev_var (v := iV bent) rfl) ev_c rv_I0)) (decide_eq_false (by omega))) (fun z => Bool.noConfusion z) fun _ H7 e7 => ?_
      refine cm_pick (st := st) (n := n) (N := N + 1 + 1 + 1) (ea_cons (ev_var rfl) (ea_cons (ev_var (v := iV n) rfl) ea_nil)) (by omega) (by omega) (s6.mono e7) (by omega) fun hub H8 hhub e8 s8 => ?_
      refine cm_pick (st := st) (n := n - 2) (ea_cons (ev_var rfl) (ea_cons (ev_subN (ev_var (v := iV n) rfl) (ev_c (v := iV 2)) (by omega)) ea_nil)) (by omega) (by omega) s8 (by omega) fun least H9 hleast e9 s9 => ⟨_, _, rfl, ?_⟩
      have e09 := ((e06.trans (.of e7)).trans e8).trans e9
      show tSeq _ _ _ _ H9
      have rep := el_rep (σ := [some (.ref st), some (iV mo), some (iV n), some (iV bent), some (iV hub), some (iV least), none, none]) (H := H9) (te := tLst (tCons (tC (.int 1)) tNil)) (tb := tVar 2) (x := iV 1) (n := n) (el_lst (ea_cons ev_c ea_nil) (by show 1 ≤ 100000; decide)) (ev_var rfl) (by omega)
      rw [rep_fl] at rep
      refine q_asgL rep fun fp H10 hfp e10 h10 => ?_
      have s10 := s9.mono e10
      have e010 := e09.trans (.of e10)
      have f0 := es_back s9 e09 hfp
      have fst := ne_st s9 hfp
      have hit : ∃ m : Nat, m ≤ n - 2 ∧ atI [iV (n - 2), iV 0, iV least] ((bent : Nat) : Int) = some (iV m) := by
        have : bent = 0 ∨ bent = 1 ∨ bent = 2 := by omega
        rcases this with e | e | e <;> subst e
        · exact ⟨n - 2, Nat.le_refl _, atI_nat (j := 0) rfl⟩
        · exact ⟨0, by omega, atI_nat (j := 1) rfl⟩
        · exact ⟨least, by omega, atI_nat (j := 2) rfl⟩
      obtain ⟨m, hm, hmat⟩ := hit
      refine q_for (itw_range1 (n := m) (ea_cons (ev_ixL (K := K) (el_lst (ea_cons (ev_subN (ev_var (v := iV n) rfl) (ev_c (v := iV 2)) (by omega)) (ea_cons (ev_c (v := iV 0)) (ea_cons (ev_var (v := iV least) rfl) ea_nil))) (by show 3 ≤ 100000; decide)) (ev_var rfl) hmat) ea_nil) (by omega))
        (fun i σ' H' => ∃ (y7 : Option V) (g : Nat → Nat), σ' = [some (.ref st), some (iV mo), some (iV n), some (iV bent), some (iV hub), some (iV least), some (.ref fp), y7] ∧ Es st H H' ∧ Sto H' st (N + 5) ∧ H' fp = some (.lst (fl n g)) ∧ GInv n hub i g)
        (fun H11 e11 => ⟨none, fun _ => 1, rfl, e010.trans (.of e11), (s10.mono e11).le (by omega), e11 _ _ h10, ?_, rfl, fun _ _ => ⟨Nat.le_refl _, by show 1 ≤ 2; decide⟩, fun _ _ _ => rfl⟩) (fun _ _ _ _ => trivial) (fun i x σ' H' H11 hi hwv e11 hx => ?_) (fun σ' H' hwv => ?_)
      · have : ∀ k, S k (fun _ => 1) = k := fun k => by
          induction k with
          | zero => rfl
          | succ k ih => show S k _ + 1 = _; rw [ih]
        rw [this, Nat.add_zero]
      · obtain ⟨y7, g, rfl, ex, sx, hF, hg⟩ := hwv
        subst hx
        have hx2 : (hub + 1 + i) % n < n := Nat.mod_lt _ (by omega)
        refine s_setL (j := (hub + 1 + i) % n) (e11 _ _ hF) (ev_c (v := iV 2)) (ev_var rfl) (ev_modN (ev_int1 (ev_addN (ev_addN (ev_var (v := iV hub) rfl) (ev_c (v := iV 1))) (ev_var (v := iV i) rfl))) (ev_var (v := iV n) rfl) (by omega)) (by rw [fl_len]; exact hx2) fun H12 e12 => ?_
        rw [fl_set hx2]
        exact ⟨some (iV i), _, rfl, es_mut (ex.trans (.of (e11.trans e12))) f0, sto_mut (sx.mono (e11.trans e12)) fst, upd_same, ginv_step hhub (by omega) hg⟩
      · obtain ⟨y7, g, rfl, ex, sx, hF, hg⟩ := hwv
        obtain ⟨k1, k2⟩ := ginv_end h8 h60 hhub hm hg
        refine q_setL (j := hub) hF (ev_c (v := iV 0)) (ev_var rfl) (ev_var (v := iV hub) rfl) (by rw [fl_len]; exact hhub) fun H12 e12 => ?_
        rw [fl_set hhub]
        have hF13 : upd H12 fp (.lst (fl n (up g hub 0))) fp = some (.lst (fl n (up g hub 0))) := upd_same
        have ex13 := es_mut (o := .lst (fl n (up g hub 0))) (ex.trans (.of e12)) f0
        have s13 := sto_mut (o := .lst (fl n (up g hub 0))) (sx.mono e12) fst
        have hsum : fl n (up g hub 0) = (((List.range n).map (up g hub 0)).map Int.ofNat).map V.int := by rw [fl_map, map_iV]
        refine q_setL (v := iV (n - 1 - m)) (j := hub) hF13 (ev_is (ev_max2 (ev_c (v := .int 1)) (ev_op (ev_op (ev_mulN' (ev_c (v := iV 2)) (ev_var (v := iV n) rfl) (by decide)) ev_c rv_I0) (ev_sum (K := K) (ns := ((List.range n).map (up g hub 0)).map Int.ofNat) (ev_var rfl) (by rw [← hsum]; exact sq_of hF13)) rv_I0)) ?_) (ev_var rfl) (ev_var (v := iV hub) rfl) (by rw [fl_len]; exact hhub) fun H14 e14 => ?_
        · rw [sum_iV, S_list]
          unfold iV
          congr 1
          split <;> omega
        · rw [fl_set hhub]
          refine s_ret (ev_var rfl) fun H15 e15 => q _ H15 ((es_mut (ex13.trans (.of e14)) f0).trans (.of e15)) (((sto_mut (s13.mono e14) fst).mono e15).le (by omega)) ⟨_, k2, fp, rfl, newp_of f0 (e15 _ _ ?_)⟩
          rw [upd_same, fl_map]
end
end Ly
end
section
set_option Elab.async false
set_option linter.all false
set_option maxRecDepth 100000
set_option maxHeartbeats 2000000
/-! Sorted lists of lists. -/
namespace Ly
open PySem PySem.Spec PyProof.Rows L2 Evl Hd Pn
theorem hr2 {k : Nat} {A : Around} (r : Room k A) : A.units + 65 < cLine := by have := r.un; omega
theorem liLt_tri : ∀ xs ys : List Int, liLt xs ys = false → liLt ys xs = false → xs = ys
  | [], [], _, _ => rfl
  | [], _ :: _, h, _ => nomatch h
  | _ :: _, [], _, h => nomatch h
  | x :: xs, y :: ys, h1, h2 => by
    unfold liLt at h1 h2
    by_cases e : x = y
    · rw [if_pos e] at h1
      rw [if_pos e.symm] at h2
      rw [e, liLt_tri xs ys h1 h2]
    · rw [if_neg e] at h1
      rw [if_neg (fun z => e z.symm)] at h2
      have a := of_decide_eq_false h1
      have b := of_decide_eq_false h2
      omega
def natOfV : V → Nat
  | .int i => i.toNat
  | _ => 0
def natsOf (G : Hp) : V → List Nat
  | .ref t => match G t with
    | some (.lst vs) => vs.map natOfV
    | _ => []
  | _ => []
theorem natsOf_NL {G : Hp} {ps : List Nat} {x : V} (h : NL ps x G) : natsOf G x = ps := by
  obtain ⟨t, rfl, ht⟩ := h
  show (match G t with
    | some (.lst vs) => vs.map natOfV
    | _ => []) = ps
  rw [ht]
  show (ps.map iV).map natOfV = ps
  rw [List.map_map]
  have : (natOfV ∘ iV) = id := by funext n; rfl
  rw [this, List.map_id]
theorem al_nats {G : Hp} : ∀ {F : List (List Nat)} {xs : List V}, Al (F.map NL) xs G → F = xs.map (natsOf G) ∧ ∀ x ∈ xs, NL (natsOf G x) x G
  | [], xs, h => by cases h; exact ⟨rfl, fun _ h => nomatch h⟩
  | c :: cs, xs, h => by
    cases h with
    | cons h1 h2 =>
      obtain ⟨e1, e2⟩ := al_nats h2
      have e := natsOf_NL h1
      refine ⟨by rw [List.map_cons, e, ← e1], fun x hx => ?_⟩
      rcases List.mem_cons.mp hx with rfl | hx
      · rw [e]; exact h1
      · exact e2 x hx
theorem nats_al {G : Hp} : ∀ {ys : List V}, (∀ y ∈ ys, NL (natsOf G y) y G) → Al ((ys.map (natsOf G)).map NL) ys G
  | [], _ => .nil
  | y :: ys, h => .cons (h y (by simp)) (nats_al fun z hz => h z (by simp [hz]))
def liN (a b : List Nat) : Bool := liLt (a.map Int.ofNat) (b.map Int.ofNat)
theorem map_ofNat_inj {a b : List Nat} (h : a.map Int.ofNat = b.map Int.ofNat) : a = b := by
  have := congrArg (List.map Int.toNat) h
  rw [List.map_map, List.map_map] at this
  have e : (Int.toNat ∘ Int.ofNat) = id := by funext n; rfl
  rwa [e, List.map_id, List.map_id] at this
theorem al_sortedLL {G : Hp} {F C : List (List Nat)} {xs ys : List V} (h : Al (F.map NL) xs G) (hs : ys.Pairwise fun x y => liLt ((natsOf G y).map Int.ofNat) ((natsOf G x).map Int.ofNat) = false) (hp : ys.Perm xs) (hF : F.Perm C) (hC : C.Pairwise fun a b => liN b a = false) : Al (C.map NL) ys G := by
  obtain ⟨e1, e2⟩ := al_nats h
  have : ys.map (natsOf G) = C := by
    refine List.Perm.eq_of_pairwise (le := fun a b => liN b a = false) (fun a b _ _ x y => map_ofNat_inj (liLt_tri _ _ y x)) (List.pairwise_map.mpr hs) hC ?_
    exact (hp.map _).trans (by rw [← e1]; exact hF)
  rw [← this]
  exact nats_al fun y hy => e2 y (hp.mem_iff.mp hy)
theorem cls_sorted (L : List Cab) (n : Nat) : (cls (lab L) n).Pairwise fun a b => liN b a = false := by
  unfold cls
  have hp : (reps (lab L) n).Pairwise (· < ·) := range_asc _ _
  refine List.pairwise_map.mpr (List.Pairwise.imp_of_mem (fun {a b} ha hb q => ?_) hp)
  obtain ⟨a1, a2⟩ := reps_mem.mp ha
  obtain ⟨b1, b2⟩ := reps_mem.mp hb
  obtain ⟨t, e⟩ := one_head a1 a2
  obtain ⟨u, f⟩ := one_head b1 b2
  rw [e, f]
  show (if ((b : Int) = (a : Int)) then _ else decide ((b : Int) < (a : Int))) = false
  rw [if_neg (by omega), decide_eq_false (by omega)]
theorem cls_nil (n : Nat) : cls (lab []) n = (List.range n).map fun r => [r] := by
  have e1 : reps (lab []) n = List.range n := List.filter_eq_self.mpr fun r _ => decide_eq_true rfl
  unfold cls
  rw [e1]
  refine List.map_congr_left fun r hr => ?_
  have hr' := List.mem_range.mp hr
  refine asc_unique (range_asc _ _) (List.pairwise_singleton _ _) fun x => ?_
  rw [one_mem, List.mem_singleton]
  exact ⟨fun ⟨_, h⟩ => h, fun h => by rw [h]; exact ⟨hr', rfl⟩⟩
section
variable {K : PySem.W.Frag} {σ : L2.St} {H : Hp} {te : TE}
/-- sorted(found) -/
theorem evp_sortedLL {a i : Nat} {vs : List V} {F : List (List Nat)} {L : List Cab} {n : Nat} {H0 : Hp} {Q : VK} (fr : ∀ p, H p = none → H0 p = none) (hv : σ[i]? = some (some (.ref a))) (ha : H a = some (.lst vs)) (hal : Al (F.map NL) vs (newp H0 H)) (hF : F.Perm (cls (lab L) n))
    (q : ∀ v H2, Ex H H2 → NLs (cls (lab L) n) v (newp H0 H2) → Q v H2) : tCB (rSortedLL K) (tCons (tVar i) tNil) σ H Q := by
  refine ⟨.ref a, hv, ?_⟩
  obtain ⟨c1, c2⟩ := al_nats hal
  refine ⟨a, vs, fun v => (natsOf (newp H0 H) v).map Int.ofNat, rfl, sq_of ha, fun x hx => ?_, fun ys p hs hp hpn => ?_⟩
  · obtain ⟨u, rfl, hu⟩ := c2 x hx
    refine ⟨u, rfl, ?_⟩
    rw [← map_iV]
    exact newp_ex _ _ hu
  · exact q _ _ (Ex.new hpn) ⟨p, ys, rfl, newp_of (fr p hpn) upd_same, (al_sortedLL hal hs hp hF (cls_sorted L n)).mono (newp_mono (Ex.refl _) (Ex.new hpn)) (mem_map_mono (fun _ => mono_NL) _)⟩
end
end Ly
end
section
set_option Elab.async false
set_option linter.all false
set_option maxRecDepth 100000
set_option maxHeartbeats 4000000
/-! The walk: the law's parts. -/
namespace Ly
open PySem PySem.Spec PyProof.Rows L2 Evl Hd Pn
section
variable {K : PySem.W.Frag} {σ : L2.St} {H : Hp} {tl : TE} {tt : TT}
/-- [p for p in xs if ..] -/
theorem el_keep {i : Nat} {a : Addr} {F : List (List Nat)} {vs : List V} (q : List Nat → Bool) (h : Ev tl σ H (.ref a)) (hc : NLa H a F vs) (hn : vs.length ≤ 40000) (hw : ∀ x : V, wipe ((wipe σ [i]).set i (some x)) [i] = wipe σ [i]) (hr : ∀ x : V, ((wipe σ [i]).set i (some x))[i]? = some (some x))
    (turn : ∀ ps t, ps ∈ F → ∀ H1, Ex H H1 → H1 t = some (.lst (ps.map iV)) → EvT tt ((wipe σ [i]).set i (some (.ref t))) H1 (q ps)) : EvL (tLc (iList K tl) (gName i) tt (tVar i) [i]) σ H (((F.zip vs).filter fun z => q z.1).map (·.2)) := by
  have hS : SqL K H a vs := sq_of hc.1
  rw [← given_zip F vs hc.len (fun k => q (F.getD k [])) q fun k ps e => by rw [List.getD_eq_getElem?_getD, e]; rfl]
  refine el_lc (fun k => q (F.getD k [])) (fun k => vs.getD k .non) (itw_list (K := K) h hS) hn (fun H' e => ex_l e hS) fun k x H1 e1 hk hx R kk => ?_
  obtain ⟨ps, t, e2, rfl, ht⟩ := (hc.mono e1).item hx
  have g1 : F.getD k [] = ps := by rw [List.getD_eq_getElem?_getD, e2]; rfl
  have g2 : vs.getD k .non = .ref t := by rw [List.getD_eq_getElem?_getD, hx]; rfl
  rw [g1, g2] at kk
  exact kk _ (hw _) (turn ps t (List.mem_of_getElem? e2) H1 e1 ht) fun _ => ev_var (hr _)
end
theorem any_iff {α : Type} {f : α → PyData} (h : ∀ a b, PyData.eqv (f a) (f b) = true ↔ a = b) (l : List α) (a : α) : ((l.map f).any fun z => PyData.eqv z (f a)) = true ↔ a ∈ l := by
  rw [List.any_map, List.any_eq_true]
  exact ⟨fun ⟨x, hx, e⟩ => by rw [(h x a).mp e] at hx; exact hx, fun m => ⟨a, m, (h a a).mpr rfl⟩⟩
theorem lay_listN (a : List Nat) : (listD natD a).canLay0 = true := listD_lay natD_lay
theorem depth_listN (a : List Nat) : (listD natD a).depth ≤ 3 := Nat.le_trans (listD_depth (k := 0) natD_depth) (by decide)
theorem shaped_N (l : List Nat) : SeqAt.shaped (listD natD l) = true := shaped_listD natD_lay (fun a => Nat.le_trans (natD_depth a) (by decide)) l
theorem shaped_NN (l : List (List Nat)) : SeqAt.shaped (listD (listD natD) l) = true := shaped_listD lay_listN depth_listN l
theorem eqv_N (a b : List Nat) : PyData.eqv (listD natD a) (listD natD b) = true ↔ a = b := listD_eqv natD_eqv a b
section
variable {P : Program} {w : World} {K : PySem.W.Frag} {mg : Str → Option Value} {base : Heap}
abbrev N_l_parts : List Str := ["_law_many_here", "_law_links", "_law_found", "_law_left", "_law_right", "_law_inner", "_law_who", "_law_part"]
theorem sc_l_parts : FnScope N_l_parts ["_law_many_here", "_law_links"] (defScope s_l_parts) := ⟨rfl, rfl, rfl, by decide +kernel, rfl, by decide +kernel, by decide +kernel⟩
theorem ok_l_parts (M : Ms mg) (F : Df K mg "_law_parts" s_l_parts) : Cal P w K mg base 1 "_law_parts" ["_law_many_here", "_law_links"] sp_parts_in := by
  refine mk_cal F sc_l_parts (fun vs H Q E h => ?_)
      (fun _ _ _ _ _ _ us hl => match us, hl with | [_, _], _ => rfl)
    (fun f cdv A outer s H vs Q E hr h => ⟨_,
      (pss_cons (ps_setLc (i := 2) (own := [("_law_who", 6)]) (tt := tYes) rfl sc_l_parts.nd rfl rfl (sw_true rfl rfl rfl (by decide +kernel)) (pi_range1 rfl M.range (pa_cons (pv 0) pa_nil)) (blkOk_by (own := [("_law_who", 6)]) (N := N_l_parts) (sc := defScope s_l_parts) (by decide +kernel)) (fun _ _ _ _ _ => (pg_name (i := 6) sc_l_parts.nd rfl (by first | exact Or.inl rfl | exact Or.inr rfl))) (fun _ _ _ _ _ => pts_nil) (fun _ _ _ _ _ => (pe_lst (pa_cons (pv 6) pa_nil))))
        (pss_cons (ps_for PassesOwn.never rfl (pi_list (pv 1)) (pg_tup rfl (pgs_cons (pg_name (i := 3) sc_l_parts.nd rfl (by first | exact Or.inl rfl | exact Or.inr rfl)) (pgs_cons (pg_name (i := 4) sc_l_parts.nd rfl (by first | exact Or.inl rfl | exact Or.inr rfl)) pgs_nil)))
          (pss_cons (ps_set (i := 5) sc_l_parts.nd rfl (by first | exact Or.inl rfl | exact Or.inr rfl) (pe_lc (own := [("_law_part", 7)]) rfl sc_l_parts.nd (pi_list (pv 2)) (blkOk_by (own := [("_law_part", 7)]) (N := N_l_parts) (sc := defScope s_l_parts) (by decide +kernel)) (fun _ _ _ _ _ => (pg_name (i := 7) sc_l_parts.nd rfl (by first | exact Or.inl rfl | exact Or.inr rfl))) (fun _ _ _ _ _ => pts_one (PW.pt (pw_or (pt_cmpR (show OpR _ _ (rIn K false) from op_in_seq) (pv 3) (pv 7) (by rfl)) (pw_or1 (pt_cmpR (show OpR _ _ (rIn K false) from op_in_seq) (pv 4) (pv 7) (by rfl)))))) (fun _ _ _ _ _ => (pv 7))))
        (pss_cons (ps_setLc (i := 2) (own := [("_law_part", 7)]) rfl sc_l_parts.nd rfl rfl (sw_true rfl rfl rfl (by decide +kernel)) (pi_list (pv 2)) (blkOk_by (own := [("_law_part", 7)]) (N := N_l_parts) (sc := defScope s_l_parts) (by decide +kernel)) (fun _ _ _ _ _ => (pg_name (i := 7) sc_l_parts.nd rfl (by first | exact Or.inl rfl | exact Or.inr rfl))) (fun _ _ _ _ _ => pts_one (pt_cmpR (show OpR _ _ (rNotInD K) from (op_notInD (hr2 hr))) (pv 7) (pv 5) (by rfl))) (fun _ _ _ _ _ => (pv 7)))
        (pss_one (ps_expr (pe_bm PySem.F.plainAttrs_list PySem.F.slot_list_append PySem.F.type_list_append mt_append (pv 2) (pa_cons (pe_callB cr_sortedI (by rfl) M.sorted (by decide +kernel) (pa_cons (pe_lc (own := [("_law_who", 6)]) rfl sc_l_parts.nd (pi_range1 rfl M.range (pa_cons (pv 0) pa_nil)) (blkOk_by (own := [("_law_who", 6)]) (N := N_l_parts) (sc := defScope s_l_parts) (by decide +kernel)) (fun _ _ _ _ _ => (pg_name (i := 6) sc_l_parts.nd rfl (by first | exact Or.inl rfl | exact Or.inr rfl))) (fun _ _ _ _ _ => pts_one (pt_cmpR (show OpR _ _ (rNeD K) from (op_neD hr.units)) (pe_lc (own := [("_law_part", 7)]) rfl sc_l_parts.nd (show PI _ _ _ (iList K _) from pi_list (pv 5)) (blkOk_by (by kernel_rfl)) (fun _ _ _ _ _ => (pg_name (i := 7) sc_l_parts.nd rfl (by first | exact Or.inl rfl | exact Or.inr rfl))) (fun _ _ _ _ _ => pts_one (pt_cmpR (show OpR _ _ (rIn K false) from op_in_seq) (pv 6) (pv 7) (by rfl))) (fun _ _ _ _ _ => pe_int)) (pe_lst pa_nil) (nomark _))) (fun _ _ _ _ _ => (pv 6))) pa_nil)) pa_nil)))))))
        (pss_one (ps_ret (pe_callB (cr_sortedLL hr.units) (by rfl) M.sorted (by decide +kernel) (pa_cons (pv 2) pa_nil))))))
    , ?_⟩)
  · obtain ⟨i, ⟨rfl, _⟩, _⟩ := h; rfl
  · obtain ⟨⟨n, a, L⟩, ⟨rfl, hn, hL, hin⟩, q⟩ := h
    simp only at hn hL hin q
    obtain ⟨cv, hc⟩ := CLa.of hL
    have hcl := hc.len
    have e0 : ((List.range n).filter fun _ => true).map (fun r => NL [r]) = (cls (lab []) n).map NL := by
      rw [List.filter_eq_self.mpr fun _ _ => rfl, cls_nil, List.map_map]; rfl
    have start0 : EvP (tLc (iRng1 (tCons (tVar 0) tNil)) (gName 6) tYes (tLst (tCons (tVar 6) tNil)) [6]) (start N_l_parts [iV n, V.ref a]) H (NLs (cls (lab []) n)) := by
      unfold NLs
      rw [← e0]
      refine evp_lc (fun _ => true) (fun r => NL [r]) (itw_range1 (n := n) (ta := tCons (tVar 0) tNil) (ea_cons (ev_var rfl) ea_nil) (by omega)) (by omega) (fun _ _ => trivial) (fun _ => mono_NL) fun x y H2 e2 hx hy R k => k _ rfl et_yes fun _ => evp_ofL (el_lst (ea_cons (ev_var (v := iV x) ?_) ea_nil) (by show 1 ≤ 100000; decide))
      subst hy; rfl
    refine q_asgP start0 fun v H1 e1 hv => ?_
    obtain ⟨f0, rfl⟩ := hv.ref
    refine q_for (itw_list (K := K) (xs := cv) (ev_var rfl) (sq_of (e1 _ _ hc.1)))
      (fun i σ' H' => ∃ (fp : Addr) (y3 y4 y5 : Option V) (F : List (List Nat)), σ' = [some (iV n), some (.ref a), some (.ref fp), y3, y4, y5, none, none] ∧ Ex H H' ∧ NLs F (.ref fp) (newp H H') ∧ F.Perm (cls (lab (L.take i)) n))
      (fun H2 e2 => ⟨f0, none, none, none, _, rfl, e1.trans e2, mono_NLs _ _ _ (newp_mono (Ex.refl _) e2) hv, .refl _⟩) (fun i σ' H' ⟨_, _, _, _, _, _, e, _⟩ => sq_of (e _ _ hc.1)) (fun i x σ' H' H2 hi hwv e3 hx => ?_) (fun σ' H' hwv => ?_)
    · obtain ⟨fp, y3, y4, y5, F, rfl, ex, hF, hP⟩ := hwv
      obtain ⟨c, t, hci, rfl, hT⟩ := (hc.mono (ex.trans e3)).item hx
      obtain ⟨b1, b2⟩ := hin c (List.mem_of_getElem? hci)
      refine g_two hT ?_
      have hFl : F.length ≤ 60 := by
        rw [hP.length_eq]
        unfold cls reps
        rw [List.length_map]
        refine Nat.le_trans (List.length_filter_le _ _) ?_
        rw [List.length_range]; exact hn
      obtain ⟨vs, hv⟩ := NLa.of (mono_NLs _ _ _ (newp_ex.trans e3) hF)
      have hvl := hv.len
      have tk : L.take (i + 1) = L.take i ++ [c] := by rw [List.take_add_one, hci]; rfl
      have next := cls_snoc (n := n) (by omega) b2 hP
      rw [← tk] at next
      have hclsm : ∀ ps, ps ∈ F ↔ ps ∈ cls (lab (L.take i)) n := fun ps => hP.mem_iff
      have hlab : ∀ x, x < n → ((∃ ps ∈ F.filter (fun ps => decide (c.1 ∈ ps) || decide (c.2 ∈ ps)), x ∈ ps) ↔ (lab (L.take i) x = lab (L.take i) c.1 ∨ lab (L.take i) x = lab (L.take i) c.2)) := fun x hx => by
        constructor
        · rintro ⟨ps, hps, hxp⟩
          obtain ⟨h1, h2⟩ := List.mem_filter.mp hps
          have h3 := (hclsm ps).mp h1
          obtain ⟨r, tl, r1, r2, r3, _⟩ := cls_mem h3
          rw [r3] at hxp
          have hx2 := (one_mem.mp hxp).2
          rw [Bool.or_eq_true, decide_eq_true_eq, decide_eq_true_eq, r3] at h2
          rcases h2 with z | z
          · exact .inl (hx2.trans (one_mem.mp z).2.symm)
          · exact .inr (hx2.trans (one_mem.mp z).2.symm)
        · rintro (z | z)
          · refine ⟨_, List.mem_filter.mpr ⟨(hclsm _).mpr (cls_of (L := L.take i) (n := n) (x := c.1) (by omega)), ?_⟩, one_mem.mpr ⟨hx, z⟩⟩
            rw [Bool.or_eq_true, decide_eq_true_eq]
            exact .inl (one_mem.mpr ⟨by omega, rfl⟩)
          · refine ⟨_, List.mem_filter.mpr ⟨(hclsm _).mpr (cls_of (L := L.take i) (n := n) (x := c.2) b2), ?_⟩, one_mem.mpr ⟨hx, z⟩⟩
            rw [Bool.or_eq_true, decide_eq_true_eq, decide_eq_true_eq]
            exact .inr (one_mem.mpr ⟨b2, rfl⟩)
      refine q_asgL (el_keep (K := K) (fun ps => decide (c.1 ∈ ps) || decide (c.2 ∈ ps)) (ev_var rfl) hv (by omega) (fun _ => rfl) (fun _ => rfl) fun ps t hps H4 e4 ht => et_or (et_is (et_test (ev_op (ev_var (v := iV c.1) rfl) (ev_var rfl) (rv_isL (K := K) (sq_of ht) rfl (flat_iV ps)))) inV_dec) fun _ => et_is (et_test (ev_op (ev_var (v := iV c.2) rfl) (ev_var rfl) (rv_isL (K := K) (sq_of ht) rfl (flat_iV ps)))) inV_dec) fun p5 H3 hp5 e4 h5 => ?_
      have hal5 := al_filter (g := NL) (fun ps : List Nat => decide (c.1 ∈ ps) || decide (c.2 ∈ ps)) (hv.2.mono e4 (mem_map_mono (fun _ => mono_NL) _))
      generalize ((F.zip vs).filter fun z => decide (c.1 ∈ z.1) || decide (c.2 ∈ z.1)).map (·.2) = xs5 at h5 hal5
      have hl5 := hal5.length
      rw [List.length_map] at hl5
      have hf5 := List.length_filter_le (fun ps : List Nat => decide (c.1 ∈ ps) || decide (c.2 ∈ ps)) F
      have hv3 := hv.mono e4
      refine q_asgL (el_keep (K := K) (fun ps => !(decide (c.1 ∈ ps) || decide (c.2 ∈ ps))) (ev_var rfl) hv3 (by omega) (fun _ => rfl) (fun _ => rfl) fun ps t hps H4 e5 ht => et_is (et_test (ev_notInD (ds := (F.filter fun ps => decide (c.1 ∈ ps) || decide (c.2 ∈ ps)).map (listD natD)) (evd_val (d := listD natD ps) (ev_var rfl) fun H5 e6 => dp_NL ⟨t, rfl, e6 _ _ ht⟩)
        (evd_val (d := listD (listD natD) (F.filter fun ps => decide (c.1 ∈ ps) || decide (c.2 ∈ ps))) (ev_var rfl) fun H5 e6 => dp_list (Φ := NL) (fun _ _ h => dp_NL h) ⟨p5, xs5, rfl, (e5.trans e6) _ _ h5, hal5.mono (e5.trans e6) (mem_map_mono (fun _ => mono_NL) _)⟩) (shaped_N ps) (shaped_NN _))) ?_) fun p2 H4 hp2 e5 h2 => ?_
      · congr 1
        rw [Bool.eq_iff_iff, any_iff eqv_N, List.mem_filter]
        exact ⟨fun m => m.2, fun m => ⟨hps, m⟩⟩
      · have hal2 := al_filter (g := NL) (fun ps : List Nat => !(decide (c.1 ∈ ps) || decide (c.2 ∈ ps))) (hv.2.mono (e4.trans e5) (mem_map_mono (fun _ => mono_NL) _))
        have hal0 : Al (F.map NL) vs (newp H H2) := by
          obtain ⟨p', vs', e', h1', h2'⟩ := hF
          cases e'
          have : vs' = vs := by
            have a1 := (newp_is h1').2
            have a2 := e3 _ _ a1
            rw [hv.1] at a2
            exact (HO.lst.inj (Option.some.inj a2)).symm
          subst this
          exact h2'.mono (newp_mono (Ex.refl _) e3) (mem_map_mono (fun _ => mono_NL) _)
        have hal2' := al_filter (g := NL) (fun ps : List Nat => !(decide (c.1 ∈ ps) || decide (c.2 ∈ ps))) (hal0.mono (newp_mono (Ex.refl _) e4) (mem_map_mono (fun _ => mono_NL) _))
        generalize ((F.zip vs).filter fun z => !(decide (c.1 ∈ z.1) || decide (c.2 ∈ z.1))).map (·.2) = xs2 at h2 hal2 hal2'
        have hl2 := hal2.length
        rw [List.length_map] at hl2
        have hf2 := List.length_filter_le (fun ps : List Nat => !(decide (c.1 ∈ ps) || decide (c.2 ∈ ps))) F
        have hc5 : NLa H4 p5 (F.filter fun ps => decide (c.1 ∈ ps) || decide (c.2 ∈ ps)) xs5 := ⟨e5 _ _ h5, hal5.mono e5 (mem_map_mono (fun _ => mono_NL) _)⟩
        generalize (F.filter fun ps => decide (c.1 ∈ ps) || decide (c.2 ∈ ps)) = F1 at hlab hc5 hl5 hf5 hal5
        generalize hlb : lab (L.take i) = lb at *
        have lc := el_lc (σ := [some (iV n), some (.ref a), some (.ref p2), some (iV c.1), some (iV c.2), some (.ref p5), none, none]) (H := H4) (vs := [6]) (g := gName 6) (te := tVar 6)
          (tt := tTest (tOp (rNeD K) (tLc (iList K (tVar 5)) (gName 7) (tTest (tOp (rIn K false) (tVar 6) (tVar 7))) (tC (V.int 1)) [7]) (tLst tNil)))
          (fun x => decide (lb x = lb c.1 ∨ lb x = lb c.2)) iV (itw_range1 (n := n) (ta := tCons (tVar 0) tNil) (ea_cons (ev_var rfl) ea_nil) (by omega)) (by omega) (fun _ _ => trivial) fun x y H5 e6 hx hy R k => by
            subst hy
            have hc6 := hc5.mono e6
            have hS6 : SqL K H5 p5 xs5 := sq_of hc6.1
            have ones := el_lc (σ := [some (iV n), some (.ref a), some (.ref p2), some (iV c.1), some (iV c.2), some (.ref p5), some (iV x), none]) (H := H5) (vs := [7]) (g := gName 7) (te := tC (V.int 1)) (tt := tTest (tOp (rIn K false) (tVar 6) (tVar 7)))
              (fun j => decide (x ∈ F1.getD j [])) (fun _ => iV 1) (itw_list (K := K) (tl := tVar 5) (ev_var rfl) hS6) (by omega) (fun H' e => ex_l e hS6) fun j z H6 e7 hj hz R kk => by
                obtain ⟨ps, t, e8, rfl, ht⟩ := (hc6.mono e7).item hz
                have g1 : F1.getD j [] = ps := by rw [List.getD_eq_getElem?_getD, e8]; rfl
                rw [g1] at kk
                exact kk _ rfl (et_is (et_test (ev_op (ev_var (v := iV x) rfl) (ev_var rfl) (rv_isL (K := K) (sq_of ht) rfl (flat_iV ps)))) inV_dec) fun _ => ev_c
            have on2 : given xs5.length (fun j => decide (x ∈ F1.getD j [])) (fun _ => iV 1) = (((List.range xs5.length).filter fun j => decide (x ∈ F1.getD j [])).map fun _ => 1).map iV := by
              unfold given; rw [List.map_map]; rfl
            rw [on2] at ones
            refine k _ rfl (et_is (et_test (ev_neD (evd_new (Φ := NL _) mono_NL (evp_ofL ones) fun v G h => dp_NL h) evd_nil (shaped_N _) rfl)) ?_) fun _ => ev_var rfl
            rw [show (PyData.list []) = listD natD [] from rfl, eqv_dec eqv_N]
            rw [Bool.eq_iff_iff, Bool.not_eq_true', decide_eq_false_iff_not, decide_eq_true_eq, ← hlab x hx]
            constructor
            · intro hne
              obtain ⟨j, hj⟩ := List.exists_mem_of_ne_nil _ (fun e => hne (by rw [e]; rfl) : (List.range xs5.length).filter (fun j => decide (x ∈ F1.getD j [])) ≠ [])
              obtain ⟨j1, j2⟩ := List.mem_filter.mp hj
              have j3 := List.mem_range.mp j1
              have g1 : F1.getD j [] = F1[j]'(by omega) := by rw [List.getD_eq_getElem?_getD, List.getElem?_eq_getElem (by omega)]; rfl
              rw [decide_eq_true_eq, g1] at j2
              exact ⟨_, List.getElem_mem _, j2⟩
            · rintro ⟨ps, hps, hxp⟩ e
              obtain ⟨j, hj, rfl⟩ := List.getElem_of_mem hps
              have : j ∈ (List.range xs5.length).filter fun j => decide (x ∈ F1.getD j []) := by
                rw [List.mem_filter, List.mem_range, decide_eq_true_eq]
                have g1 : F1.getD j [] = F1[j] := by rw [List.getD_eq_getElem?_getD, List.getElem?_eq_getElem hj]; rfl
                exact ⟨by omega, by rw [g1]; exact hxp⟩
              have e9 := List.map_eq_nil_iff.mp e
              rw [e9] at this
              cases this
        have lc2 : EvL (tLc (iRng1 (tCons (tVar 0) tNil)) (gName 6) (tTest (tOp (rNeD K) (tLc (iList K (tVar 5)) (gName 7) (tTest (tOp (rIn K false) (tVar 6) (tVar 7))) (tC (V.int 1)) [7]) (tLst tNil))) (tVar 6) [6]) [some (iV n), some (.ref a), some (.ref p2), some (iV c.1), some (iV c.2), some (.ref p5), none, none] H4 (((List.range n).filter fun x => decide (lb x = lb c.1 ∨ lb x = lb c.2)).map iV) := lc
        refine s_appL (K := K) h2 (ev_var rfl) (ev_sortedN (K := K) lc2 (range_asc _ _) (.refl _)) (by omega) fun p H5 hp e6 h6 => ?_
        have e25 := ((e3.trans e4).trans e5).trans e6
        have p20 : H' p2 = none := fresh_back (e3.trans e4) hp2
        have pne : p ≠ p2 := fun e => by rw [e, h2] at hp; cases hp
        refine ⟨p2, some (iV c.1), some (iV c.2), some (.ref p5), _, rfl, Ex.mut (ex.trans e25) (fresh_back ex p20), ⟨p2, xs2 ++ [.ref p], rfl, newp_of (fresh_back ex p20) upd_same, ?_⟩, next⟩
        rw [List.map_append]
        have mx : Ex (newp H H3) (newp H (upd H5 p2 (.lst (xs2 ++ [.ref p])))) := fun b o k => by
          obtain ⟨k1, k2⟩ := newp_is k
          have hb : b ≠ p2 := fun e => by rw [e, hp2] at k2; cases k2
          exact newp_of k1 (by rw [upd_ne hb]; exact (e5.trans e6) _ _ k2)
        exact (hal2'.mono mx (mem_map_mono (fun _ => mono_NL) _)).append (.cons ⟨p, rfl, newp_of (fresh_back (ex.trans ((e3.trans e4).trans e5)) hp) (by rw [upd_ne pne]; exact h6)⟩ .nil)
    · obtain ⟨fp, y3, y4, y5, F, rfl, ex, ⟨p, vs, e, h1, h2⟩, hP⟩ := hwv
      cases e
      rw [hcl, List.take_length] at hP
      exact evp_sortedLL (K := K) (H0 := H) (fun p hp => fresh_back ex hp) rfl (newp_ex _ _ h1) h2 hP fun v H2 e2 hv => q v H2 (ex.trans e2) hv
end
end Ly
end
section
set_option Elab.async false
set_option linter.all false
set_option maxRecDepth 100000
set_option maxHeartbeats 4000000
/-! The walk: drawn cables, groups, nets. -/
namespace Ly
open PySem PySem.Spec PyProof.Rows L2 Evl Hd Pn
theorem rv_niN {K : PySem.W.Frag} {H : Hp} {p : Addr} {k : Nat} {ds : List Nat} (h : SqL K H p (ds.map iV)) : RV (rIn K true) (iV k) (.ref p) H (.bl (!decide (k ∈ ds))) := by
  have := rv_niL (x := iV k) h rfl (flat_iV ds)
  rw [inV_dec] at this
  exact this
theorem ev_sortedR {K : PySem.W.Frag} {σ : L2.St} {H : Hp} {te : TE} {ns us : List Nat} (h : EvR te σ H (ns.map iV)) (h1 : us.Pairwise (· < ·)) (h2 : us.Perm ns) : EvL (tCB (rSortedI K) (tCons te tNil)) σ H (us.map iV) := fun H1 e Q q => by
  refine h H1 e _ fun p H2 e2 hk => ⟨p, ns.map Int.ofNat, rfl, by rw [map_iV] at hk; exact sq_of hk, fun ns' r hp1 hp2 hr => ?_⟩
  have e3 : ns' = us.map Int.ofNat := by
    have n2 : (us.map Int.ofNat).Pairwise (· ≤ ·) := List.Pairwise.map _ (fun a b (z : a < b) => by show (a : Int) ≤ (b : Int); omega) h1
    exact List.Perm.eq_of_pairwise (le := fun a b => a ≤ b) (fun a b _ _ x y => by omega) hp2 n2 (hp1.trans (h2.map _).symm)
  subst e3
  exact q r _ (fresh_back e2 hr) (e2.trans (Ex.new hr)) (by rw [upd_same, map_iV])
theorem al_split {α : Type} {g : α → Ph} : ∀ {l : List α} {vs : List V} {G : Hp}, Al (l.map g) vs G → ∀ j, Al ((l.take j).map g) (vs.take j) G ∧ Al ((l.drop j).map g) (vs.drop j) G
  | [], vs, G, h, j => by cases h; rw [List.take_nil, List.take_nil, List.drop_nil, List.drop_nil]; exact ⟨.nil, .nil⟩
  | a :: l, vs, G, h, 0 => ⟨.nil, h⟩
  | a :: l, vs, G, h, j + 1 => by
    cases h with
    | cons h1 h2 =>
      have := al_split h2 j
      exact ⟨.cons h1 this.1, this.2⟩
section
variable {P : Program} {w : World} {K : PySem.W.Frag} {mg : Str → Option Value} {base : Heap}
abbrev N_l_some_cables : List Str := ["_law_store_here", "_law_net_here", "_law_wide", "_law_found", "_law_pair"]
theorem sc_l_some_cables : FnScope N_l_some_cables ["_law_store_here", "_law_net_here", "_law_wide"] (defScope s_l_some_cables) := ⟨rfl, rfl, rfl, by decide +kernel, rfl, by decide +kernel, by decide +kernel⟩
/-- cables of a net, in some sequence -/
def SomeC (Nn : List Cab) : Ph := fun v G => ∃ Lk sub : List Cab, CL Lk v G ∧ Lk.Perm sub ∧ sub.Sublist Nn
def sp_l_some_cables : Sp := spF (fun (z : Addr × List Cab × Nat) st vs G => vs = [.ref st, .ref z.1, iV z.2.2] ∧ CL z.2.1 (.ref z.1) G ∧ z.2.1.length ≤ 60 ∧ 1 ≤ z.2.2 ∧ z.2.2 ≤ 100) 120 fun z => SomeC z.2.1
theorem ok_l_some_cables (M : Ms mg) (F : Df K mg "_law_some_cables" s_l_some_cables) (c_l_pick : Cal P w K mg base 1 "_law_pick" ["_law_store_here", "_law_many_here"] sp_l_pick) : Cal P w K mg base 2 "_law_some_cables" ["_law_store_here", "_law_net_here", "_law_wide"] sp_l_some_cables := by
  refine mk_cal F sc_l_some_cables (fun vs H Q E h => ?_)
      (fun _ _ _ _ _ _ us hl => match us, hl with | [_, _, _], _ => rfl)
    (fun f cdv A outer s H vs Q E hr h => ⟨_,
      (pss_cons (ps_set (i := 3) sc_l_some_cables.nd rfl (by first | exact Or.inl rfl | exact Or.inr rfl) (pe_lst pa_nil))
        (pss_cons (ps_for PassesOwn.never rfl (pi_list (pv 1)) (pg_name (i := 4) sc_l_some_cables.nd rfl (by first | exact Or.inl rfl | exact Or.inr rfl))
          (pss_one (ps_if (pt_cmpR op_eq (pe_cal c_l_pick hr (pa_cons (pv 0) (pa_cons (pv 2) pa_nil))) pe_int (nomark _))
          (pss_one (ps_expr (pe_bm PySem.F.plainAttrs_list PySem.F.slot_list_insert PySem.F.type_list_insert mt_insert (pv 3) (pa_cons (pe_cal c_l_pick hr (pa_cons (pv 0) (pa_cons (pe_op op_add (pe_callB call_len_seq (by rfl) M.len PySem.boot_len (pa_cons (pv 3) pa_nil)) pe_int) pa_nil))) (pa_cons (pv 4) pa_nil)))))
          pss_nil)))
        (pss_one (ps_ret (pv 3)))))
    , ?_⟩)
  · obtain ⟨_, _, _, ⟨rfl, _⟩, _⟩ := h; rfl
  · obtain ⟨⟨b, Nn, wide⟩, st, N, ⟨rfl, hL, hl, hw1, hw2⟩, hs, hN, q⟩ := h
    simp only at hL hl hw1 hw2 q
    obtain ⟨cv, hc⟩ := CLa.of hL
    have hcl := hc.len
    have bst : b ≠ st := fun e => by have := hc.1; rw [e, del_same] at this; cases this
    refine q_asgL (el_lst (vs := []) ea_nil (Nat.zero_le _)) fun fp H1 hfp e1 h1 => ?_
    have s1 := hs.mono e1
    have fst := ne_st hs hfp
    refine q_for (itw_list (K := K) (xs := cv) (ev_var rfl) (sq_of ((Es.of e1) _ _ hc.1)))
      (fun i σ' H' => ∃ (y4 : Option V) (ws : List V) (Lk sub : List Cab), σ' = [some (.ref st), some (.ref b), some (iV wide), some (.ref fp), y4] ∧ Es st H H' ∧ Sto H' st (N + 2 * i) ∧ H' fp = some (.lst ws) ∧ Al (Lk.map CB) ws (del H st) ∧ Lk.Perm sub ∧ sub.Sublist (Nn.take i))
      (fun H2 e2 => ⟨none, [], [], [], rfl, .of (e1.trans e2), s1.mono e2, e2 _ _ h1, .nil, .refl _, List.Sublist.refl _⟩) (fun i σ' H' ⟨_, _, _, _, _, e, _⟩ => sq_of (e _ _ hc.1)) (fun i x σ' H' H2 hi hwv e3 hx => ?_) (fun σ' H' hwv => ?_)
    · obtain ⟨y4, ws, Lk, sub, rfl, ex, sx, hF, hal, hp, hsub⟩ := hwv
      obtain ⟨c, t, hci, rfl, hT⟩ := hc.item hx
      have tk : Nn.take (i + 1) = Nn.take i ++ [c] := by rw [List.take_add_one, hci]; rfl
      have lws : ws.length ≤ i := by
        rw [hal.length, List.length_map, hp.length_eq]
        refine Nat.le_trans hsub.length_le ?_
        rw [List.length_take]; omega
      have hil : i < Nn.length := by omega
      refine cm_pick (st := st) (n := wide) (N := N + 2 * i) (ea_cons (ev_var rfl) (ea_cons (ev_var (v := iV wide) rfl) ea_nil)) hw1 (by omega) (sx.mono e3) (by omega) fun r H3 hr3 e4 s4 => ?_
      have ex4 := ex.trans ((Es.of e3).trans e4)
      have hF3 : H3 fp = some (.lst ws) := es_at ((Es.of e3).trans e4) fst hF
      refine ev_c (v := .int 0) H3 (Ex.refl _) _ fun H4 e5 => ?_
      refine rv_eq (x := iV r) (y := .int 0) (H := H4) rfl H4 (Ex.refl _) _ fun H5 e6 => ⟨_, rfl, ?_⟩
      have e35 := e5.trans e6
      by_cases hb : decide (iV r = V.int 0) = true
      · show (if decide (iV r = V.int 0) = true then _ else _)
        rw [if_pos hb]
        have hF5 := e35 _ _ hF3
        have hFd : del H5 st fp = some (.lst ws) := by rw [del_ne fst]; exact hF5
        refine ⟨.ref fp, rfl, Or.inl ⟨rfl, ws, sq_of hF5⟩, ?_⟩
        refine cm_pick (st := st) (n := ws.length + 1) (N := N + 2 * i + 1) (ea_cons (ev_var rfl) (ea_cons (ev_addN (ev_is (ev_len0 (K := K) (ev_var rfl) (sq_of hFd)) rfl) (ev_c (v := iV 1))) ea_nil)) (by omega) (by omega) (s4.mono e35) (by omega) fun j H6 hj e7 s7 => ?_
        have hF6 : H6 fp = some (.lst ws) := es_at e7 fst hF5
        have ex6 := ex4.trans ((Es.of e35).trans e7)
        refine ⟨.ref t, rfl, fp, ws, (j : Int), .ref t, rfl, rfl, hF6, sz_lt (by omega), by omega, by omega, ?_⟩
        rw [Int.toNat_natCast]
        refine ⟨some (.ref t), _, Lk.take j ++ [c] ++ Lk.drop j, sub ++ [c], rfl, es_mut ex6 hfp, (sto_mut s7 fst).le (by omega), upd_same, ?_, ?_, ?_⟩
        · rw [List.map_append, List.map_append]
          have ha := al_split (g := CB) hal j
          exact (ha.1.append (.cons ⟨t, rfl, hT⟩ .nil)).append ha.2
        · refine List.Perm.trans ?_ (hp.append_right [c])
          have : (Lk.take j ++ [c] ++ Lk.drop j).Perm (Lk.take j ++ (Lk.drop j ++ [c])) := by
            rw [List.append_assoc]
            exact (List.perm_append_comm).append_left _
          rw [← List.append_assoc, List.take_append_drop] at this
          exact this
        · rw [tk]
          exact hsub.append (List.Sublist.refl _)
      · show (if decide (iV r = V.int 0) = true then _ else _)
        rw [if_neg hb]
        exact ⟨some (.ref t), ws, Lk, sub, rfl, ex4.trans (.of e35), (s4.mono e35).le (by omega), e35 _ _ hF3, hal, hp, by rw [tk]; exact hsub.trans (List.sublist_append_left _ _)⟩
    · obtain ⟨y4, ws, Lk, sub, rfl, ex, sx, hF, hal, hp, hsub⟩ := hwv
      have hil : cv.length ≤ 60 := by omega
      refine s_ret (ev_var rfl) fun H2 e2 => q _ H2 (ex.trans (.of e2)) ((sx.mono e2).le (by omega)) ⟨Lk, sub, ⟨fp, ws, rfl, by rw [del_ne fst]; exact e2 _ _ hF, hal.mono ((Es.dd ex).trans (Es.dd (.of e2))) (mem_map_mono (fun _ => mono_CB) _)⟩, hp, hsub.trans (List.take_sublist _ _)⟩
abbrev N_l_some_parts : List Str := ["_law_store_here", "_law_parts_here", "_law_found", "_law_part"]
theorem sc_l_some_parts : FnScope N_l_some_parts ["_law_store_here", "_law_parts_here"] (defScope s_l_some_parts) := ⟨rfl, rfl, rfl, by decide +kernel, rfl, by decide +kernel, by decide +kernel⟩
def SomeP (n : Nat) (L : List Cab) : Ph := fun v G => ∃ s : Nat → Bool, (∃ r, r < n ∧ lab L r = r ∧ s r = true) ∧ NL (gr n L s) v G
def sp_l_some_parts : Sp := spS (fun (z : Addr × Nat × List Cab) st vs G => vs = [.ref st, .ref z.1] ∧ NLs (cls (lab z.2.2) z.2.1) (.ref z.1) G ∧ 1 ≤ z.2.1 ∧ z.2.1 ≤ 60) 61 fun z => SomeP z.2.1 z.2.2
theorem ok_l_some_parts (M : Ms mg) (F : Df K mg "_law_some_parts" s_l_some_parts) (c_l_pick : Cal P w K mg base 1 "_law_pick" ["_law_store_here", "_law_many_here"] sp_l_pick) : Cal P w K mg base 2 "_law_some_parts" ["_law_store_here", "_law_parts_here"] sp_l_some_parts := by
  refine mk_cal F sc_l_some_parts (fun vs H Q E h => ?_)
      (fun _ _ _ _ _ _ us hl => match us, hl with | [_, _], _ => rfl)
    (fun f cdv A outer s H vs Q E hr h => ⟨_,
      (pss_cons (ps_set (i := 2) sc_l_some_parts.nd rfl (by first | exact Or.inl rfl | exact Or.inr rfl) (pe_callTy call_list_of (by rfl) M.list (by decide +kernel) (pa_cons (pe_ix ix_list (pv 1) (pe_cal c_l_pick hr (pa_cons (pv 0) (pa_cons (pe_callB call_len_seq (by rfl) M.len PySem.boot_len (pa_cons (pv 1) pa_nil)) pa_nil))) (fun _ _ => rfl)) pa_nil)))
        (pss_cons (ps_for PassesOwn.never rfl (pi_list (pv 1)) (pg_name (i := 3) sc_l_some_parts.nd rfl (by first | exact Or.inl rfl | exact Or.inr rfl))
          (pss_one (ps_if (PW.pt (pw_and (pt_cmpR op_notIn_seq (pe_ix ix_list (pv 3) pe_int (fun _ _ => rfl)) (pv 2) (by rfl)) (pw_and1 (pt_cmpR op_eq (pe_cal c_l_pick hr (pa_cons (pv 0) (pa_cons pe_int pa_nil))) pe_int (nomark _)))))
          (pss_one (ps_set (i := 2) sc_l_some_parts.nd rfl (by first | exact Or.inl rfl | exact Or.inr rfl) (pe_op op_cat (pv 2) (pv 3))))
          pss_nil)))
        (pss_one (ps_ret (pe_callB cr_sortedI (by rfl) M.sorted (by decide +kernel) (pa_cons (pv 2) pa_nil))))))
    , ?_⟩)
  · obtain ⟨_, _, _, ⟨rfl, _⟩, _⟩ := h; rfl
  · obtain ⟨⟨b, n, L⟩, st, N, ⟨rfl, hP, hn1, hn⟩, hs, hN, q⟩ := h
    simp only at hP hn1 hn q
    obtain ⟨cv, hc⟩ := NLa.of hP
    have hcl := hc.len
    have bst : b ≠ st := fun e => by have := hc.1; rw [e, del_same] at this; cases this
    have hcl1 : 1 ≤ (cls (lab L) n).length := List.length_pos_of_mem (cls_of (L := L) (n := n) (x := 0) (by omega))
    have hcl60 : (cls (lab L) n).length ≤ 60 := by
      unfold cls reps
      rw [List.length_map]
      refine Nat.le_trans (List.length_filter_le _ _) ?_
      rw [List.length_range]; exact hn
    refine ⟨.ref b, rfl, ?_⟩
    refine cm_pick (st := st) (n := cv.length) (ea_cons (ev_var rfl) (ea_cons (ev_is (ev_len0 (K := K) (ev_var rfl) (sq_of hc.1)) rfl) ea_nil)) (by omega) (by omega) hs (by omega) fun r H1 hr e1 s1 => ?_
    obtain ⟨ps0, t0, hps0, ht0e, ht0⟩ := hc.item (List.getElem?_eq_getElem hr)
    have hb1 : H1 b = some (.lst cv) := e1 _ _ hc.1
    refine rv_ixL (K := K) (sq_of hb1) (atI_nat (List.getElem?_eq_getElem hr)) H1 (Ex.refl _) _ fun H2 e2 => ?_
    rw [ht0e]
    obtain ⟨r0, tl0, r1, r2, r3, r4⟩ := cls_mem (List.mem_of_getElem? hps0)
    refine ⟨t0, ps0.map iV, rfl, .inl (sq_of ((e1.trans (.of e2)) _ _ ht0)), fun fp hfp => ?_⟩
    have e3 : Ex H2 (upd H2 fp (.lst (ps0.map iV))) := Ex.new hfp
    have h3 : (upd H2 fp (.lst (ps0.map iV))) fp = some (.lst (ps0.map iV)) := upd_same
    have s2 := s1.mono e2
    have fst := ne_st s2 hfp
    dsimp only [gName]
    generalize upd H2 fp (.lst (ps0.map iV)) = H3 at e3 h3
    have e03 : Es st H H3 := e1.trans (.of (e2.trans e3))
    have hcH : ∀ H', Es st H H' → H' b = some (.lst cv) := fun H' e => e _ _ hc.1
    refine q_for (itw_list (K := K) (xs := cv) (ev_var rfl) (sq_of (hcH _ e03)))
      (fun i σ' H' => ∃ (y3 : Option V) (fp : Addr) (fs : List Nat) (s : Nat → Bool), σ' = [some (.ref st), some (.ref b), some (.ref fp), y3] ∧ Es st H H' ∧ Sto H' st (N + 1 + i) ∧ fp ≠ st ∧ H' fp = some (.lst (fs.map iV)) ∧ fs.Nodup ∧ (∀ v, v ∈ fs ↔ v < n ∧ s (lab L v) = true) ∧ s r0 = true)
      (fun H4 e4 => ⟨none, fp, ps0, fun x => x == r0, rfl, e03.trans (.of e4), s2.mono (e3.trans e4), fst, e4 _ _ h3, by rw [r3]; exact (range_asc _ _).imp fun q => by omega, fun v => by rw [r3, one_mem, beq_iff_eq], beq_self_eq_true _⟩) (fun i σ' H' ⟨_, _, _, _, _, e, _⟩ => sq_of (hcH _ e)) (fun i x σ' H' H4 hi hwv e4 hx => ?_) (fun σ' H' hwv => ?_)
    · obtain ⟨y3, fp, fs, s, rfl, ex, sx, fst, hF, hnd, hmem, hs0⟩ := hwv
      obtain ⟨ps, t, hpi, rfl, hT⟩ := hc.item hx
      obtain ⟨r', tl', q1, q2, q3, q4⟩ := cls_mem (List.mem_of_getElem? hpi)
      have ex4 := ex.trans (.of e4)
      have hT4 : SqL K H4 t (ps.map iV) := sq_of (ex4 _ _ hT)
      rw [q4] at hT4
      have hF4 := e4 _ _ hF
      have fsl : fs.length ≤ n := by
        have := nd_len (m := List.range n) hnd fun v hv => List.mem_range.mpr ((hmem v).mp hv).1
        rw [List.length_range] at this; exact this
      refine et_test (ev_op (ev_op (ev_var (σ := [some (.ref st), some (.ref b), some (.ref fp), some (.ref t)]) (i := 3) rfl) ev_c (rv_ixL hT4 (atI_nat (j := 0) rfl))) (ev_var (i := 2) rfl) (rv_niN (K := K) (k := r') (sq_of hF4))) H4 (Ex.refl _) _ fun H5 e5 => ?_
      have e45 := e4.trans e5
      by_cases hb : decide (r' ∈ fs) = true
      · show (if (!decide (r' ∈ fs)) = true then _ else _)
        rw [hb]
        rw [if_neg (by decide)]
        show (if false = true then _ else _)
        rw [if_neg (by decide)]
        exact ⟨some (.ref t), fp, fs, s, rfl, ex.trans (.of e45), (sx.mono e45).le (by omega), fst, e45 _ _ hF, hnd, hmem, hs0⟩
      · show (if (!decide (r' ∈ fs)) = true then _ else _)
        have hbn : r' ∉ fs := fun m => hb (decide_eq_true m)
        rw [if_pos (by rw [decide_eq_false hbn]; rfl)]
        refine cm_pick (st := st) (n := 2) (N := N + 1 + i) (ea_cons (ev_var rfl) (ea_cons (ev_c (v := iV 2)) ea_nil)) (by decide) (by decide) (sx.mono e45) (by omega) fun r2 H6 hr2 e6 s6 => ?_
        refine ev_c (v := .int 0) H6 (Ex.refl _) _ fun H7 e7 => ?_
        refine rv_eq (x := iV r2) (y := .int 0) (H := H7) rfl H7 (Ex.refl _) _ fun H8 e8 => ⟨_, rfl, ?_⟩
        have e68 := e7.trans e8
        have ex8 := (ex.trans (.of e45)).trans (e6.trans (.of e68))
        have hF8 : H8 fp = some (.lst (fs.map iV)) := e68 _ _ (es_at e6 fst (e45 _ _ hF))
        have s8 := s6.mono e68
        by_cases hz : decide (iV r2 = V.int 0) = true
        · show (if decide (iV r2 = V.int 0) = true then _ else _)
          rw [if_pos hz]
          have tst : t ≠ st := fun e => by rw [e, del_same] at hT; cases hT
          refine s_asgL (el_cat (er_val (ev_var rfl) hF8) (er_val (ev_var rfl) (ex8 _ _ hT)) (by
            rw [List.length_map, List.length_map, q3]
            have := List.length_filter_le (fun x => decide (lab L x = r')) (List.range n)
            rw [List.length_range] at this
            show fs.length + (one (lab L) n r').length ≤ 40000
            unfold one
            omega)) fun p9 H9 hp9 e9 h9 => ?_
          refine ⟨some (.ref t), p9, fs ++ ps, fun x => s x || x == r', rfl, ex8.trans (.of e9), (s8.mono e9).le (by omega), ne_st s8 hp9, by rw [h9, List.map_append], ?_, fun v => ?_, by show (s r0 || r0 == r') = true; rw [hs0]; rfl⟩
          · rw [List.nodup_append]
            refine ⟨hnd, by rw [q3]; exact (range_asc _ _).imp fun q => by omega, fun a ha b hb e => ?_⟩
            rw [q3] at hb
            have h1 := one_mem.mp hb
            have h2 := (hmem a).mp ha
            rw [e, h1.2] at h2
            exact hbn ((hmem r').mpr ⟨q1, by rw [q2]; exact h2.2⟩)
          · rw [List.mem_append, hmem, q3, one_mem, Bool.or_eq_true, beq_iff_eq]
            constructor
            · rintro (⟨h1, h2⟩ | ⟨h1, h2⟩)
              · exact ⟨h1, .inl h2⟩
              · exact ⟨h1, .inr h2⟩
            · rintro ⟨h1, h2 | h2⟩
              · exact .inl ⟨h1, h2⟩
              · exact .inr ⟨h1, h2⟩
        · show (if decide (iV r2 = V.int 0) = true then _ else _)
          rw [if_neg hz]
          exact ⟨some (.ref t), fp, fs, s, rfl, ex8, s8.le (by omega), fst, hF8, hnd, hmem, hs0⟩
    · obtain ⟨y3, fp, fs, s, rfl, ex, sx, fst, hF, hnd, hmem, hs0⟩ := hwv
      refine s_retP (evp_ofL (ev_sortedR (K := K) (ns := fs) (us := gr n L s) (er_val (ev_var rfl) hF) (range_asc _ _) ((List.perm_ext_iff_of_nodup ((range_asc _ _).imp fun q => by omega) hnd).mpr fun v => by rw [hmem]; exact gr_mem))) fun v H2 e2 hv => ?_
      · obtain ⟨p, rfl, hp⟩ := hv
        refine q _ H2 (ex.trans (.of e2)) ((sx.mono e2).le (by omega)) ⟨s, ⟨r0, r1, r2, hs0⟩, p, rfl, newp_of (es_back sx ex (newp_is hp).1) (newp_is hp).2⟩
abbrev N_l_drawn_net : List Str := ["_law_store_here", "_law_deal", "_law_left", "_law_found", "_law_turn", "_law_ends", "_law_inner", "_law_end", "_law_other", "_law_first", "_law_who", "_law_number_here"]
theorem sc_l_drawn_net : FnScope N_l_drawn_net ["_law_store_here", "_law_deal"] (defScope s_l_drawn_net) := ⟨rfl, rfl, rfl, by decide +kernel, rfl, by decide +kernel, by decide +kernel⟩
def NetL (n : Nat) (d : Nat → Nat) : Ph := fun v G => ∃ Nn : List Cab, Nt n d Nn ∧ CL (srt Nn) v G
def sp_l_drawn_net : Sp := spS (fun (z : Addr × List Nat) st vs G => vs = [.ref st, .ref z.1] ∧ G z.1 = some (.lst (z.2.map iV)) ∧ Grt z.2) 130 fun z => NetL z.2.length (dd z.2)
theorem dd_sum (ds : List Nat) : S ds.length (dd ds) = ds.sum := by
  rw [← S_list]
  congr 1
  refine List.ext_getElem? fun i => ?_
  by_cases hi : i < ds.length
  · rw [List.getElem?_map, List.getElem?_range hi, List.getElem?_eq_getElem hi, dd_at hi]; rfl
  · rw [List.getElem?_eq_none (by rw [List.length_map, List.length_range]; omega), List.getElem?_eq_none (by omega)]
theorem grt_stt {ds : List Nat} (h : Grt ds) : Stt ds.length (ds.length - 2) (dd ds) := by
  obtain ⟨h1, h2, h3, h4⟩ := h
  refine ⟨?_, by rw [dd_sum]; omega⟩
  have : ∀ m, m ≤ ds.length → S m (al (dd ds)) = m := fun m => by
    induction m with
    | zero => intro _; rfl
    | succ m ih =>
      intro hm
      have hm' : m < ds.length := by omega
      have := (h3 _ (List.getElem_mem hm')).1
      rw [dd_at hm'] at this
      show S m _ + al (dd ds) m = _
      rw [ih (by omega), al_one (by omega)]
  rw [this _ (Nat.le_refl _)]; omega
theorem stt_inner {n k : Nat} {d : Nat → Nat} (h : Stt n (k + 1) d) : ∃ u, u < n ∧ 1 < d u := by
  apply Classical.byContradiction
  intro hc
  have : S n d ≤ S n (al d) := S_le fun i hi => by
    by_cases e : d i = 0
    · rw [e]; exact Nat.zero_le _
    · rw [al_one e]
      exact Nat.le_of_not_lt fun q => hc ⟨i, hi, q⟩
  rw [h.sum, h.alive] at this
  omega
theorem newfr_mono {st lp fp : Addr} {H H' H'' : Hp} {o : HO} (s : H st = some o) (e : Es st H' H'') : Ex (newp H (fr2 lp fp H')) (newp H (fr2 lp fp H'')) := fun b u k => by
  obtain ⟨k1, k2⟩ := newp_is k
  have hb : b ≠ st := fun q => by rw [q, s] at k1; cases k1
  have h1 : b ≠ fp := fun q => by
    unfold fr2 at k2
    rw [q, del_same] at k2; cases k2
  have h2 : b ≠ lp := fun q => by
    unfold fr2 at k2
    rw [del_ne h1, q, del_same] at k2; cases k2
  rw [fr2_at h2 h1] at k2
  exact newp_of k1 (by rw [fr2_at h2 h1]; exact es_at e hb k2)
theorem ok_l_drawn_net (M : Ms mg) (F : Df K mg "_law_drawn_net" s_l_drawn_net) (c_l_pick : Cal P w K mg base 1 "_law_pick" ["_law_store_here", "_law_many_here"] sp_l_pick) : Cal P w K mg base 2 "_law_drawn_net" ["_law_store_here", "_law_deal"] sp_l_drawn_net := by
  refine mk_cal F sc_l_drawn_net (fun vs H Q E h => ?_)
      (fun _ _ _ _ _ _ us hl => match us, hl with | [_, _], _ => rfl)
    (fun f cdv A outer s H vs Q E hr h => ⟨_,
      (pss_cons (ps_par (i := 2) (j := 3) (by rfl) sc_l_drawn_net.nd rfl rfl (by decide) rfl rfl (pa_cons (pe_callTy call_list_of (by rfl) M.list (by decide +kernel) (pa_cons (pv 1) pa_nil)) (pa_cons (pe_lst pa_nil) pa_nil)) (by rfl))
        (pss_cons (ps_for PassesOwn.never rfl (pi_range1 rfl M.range (pa_cons (pe_op op_sub (pe_callB call_len_seq (by rfl) M.len PySem.boot_len (pa_cons (pv 1) pa_nil)) pe_int) pa_nil)) (pg_name (i := 4) sc_l_drawn_net.nd rfl (by first | exact Or.inl rfl | exact Or.inr rfl))
          (pss_cons (ps_setLc (i := 5) (own := [("_law_who", 10), ("_law_number_here", 11)]) rfl sc_l_drawn_net.nd rfl rfl (sw_true rfl rfl rfl (by decide +kernel)) (pi_enum (by rfl) M.enumerate (pa_cons (pv 2) pa_nil)) (blkOk_by (own := [("_law_who", 10), ("_law_number_here", 11)]) (N := N_l_drawn_net) (sc := defScope s_l_drawn_net) (by decide +kernel)) (fun _ _ _ _ _ => (show PG _ _ (gTup K 2 _) from pg_tup rfl (pgs_cons (pg_name (i := 10) sc_l_drawn_net.nd rfl (by first | exact Or.inl rfl | exact Or.inr rfl)) (pgs_cons (pg_name (i := 11) sc_l_drawn_net.nd rfl (by first | exact Or.inl rfl | exact Or.inr rfl)) pgs_nil)))) (fun _ _ _ _ _ => pts_one (pt_cmpR op_eq (pv 11) pe_int (nomark _))) (fun _ _ _ _ _ => (pv 10)))
        (pss_cons (ps_setLc (i := 6) (own := [("_law_who", 10), ("_law_number_here", 11)]) rfl sc_l_drawn_net.nd rfl rfl (sw_true rfl rfl rfl (by decide +kernel)) (pi_enum (by rfl) M.enumerate (pa_cons (pv 2) pa_nil)) (blkOk_by (own := [("_law_who", 10), ("_law_number_here", 11)]) (N := N_l_drawn_net) (sc := defScope s_l_drawn_net) (by decide +kernel)) (fun _ _ _ _ _ => (show PG _ _ (gTup K 2 _) from pg_tup rfl (pgs_cons (pg_name (i := 10) sc_l_drawn_net.nd rfl (by first | exact Or.inl rfl | exact Or.inr rfl)) (pgs_cons (pg_name (i := 11) sc_l_drawn_net.nd rfl (by first | exact Or.inl rfl | exact Or.inr rfl)) pgs_nil)))) (fun _ _ _ _ _ => pts_one (pt_cmpR op_gt (pv 11) pe_int (nomark _))) (fun _ _ _ _ _ => (pv 10)))
        (pss_cons (ps_par (i := 7) (j := 8) (by rfl) sc_l_drawn_net.nd rfl rfl (by decide) rfl rfl (pa_cons (pe_ix ix_list (pv 5) (pe_cal c_l_pick hr (pa_cons (pv 0) (pa_cons (pe_callB call_len_seq (by rfl) M.len PySem.boot_len (pa_cons (pv 5) pa_nil)) pa_nil))) (fun _ _ => rfl)) (pa_cons (pe_ix ix_list (pv 6) (pe_cal c_l_pick hr (pa_cons (pv 0) (pa_cons (pe_callB call_len_seq (by rfl) M.len PySem.boot_len (pa_cons (pv 6) pa_nil)) pa_nil))) (fun _ _ => rfl)) pa_nil)) (by rfl))
        (pss_cons (ps_expr (pe_bm PySem.F.plainAttrs_list PySem.F.slot_list_append PySem.F.type_list_append mt_append (pv 3) (pa_cons (pe_tup (pa_cons (pe_callB (call_min2 rfl) (by rfl) M.min (by decide +kernel) (pa_cons (pv 7) (pa_cons (pv 8) pa_nil))) (pa_cons (pe_callB (call_max2 rfl) (by rfl) M.max (by decide +kernel) (pa_cons (pv 7) (pa_cons (pv 8) pa_nil))) pa_nil))) pa_nil)))
        (pss_cons (ps_asg pe_int (pg_sub (pv 2) (pv 7) set_list))
        (pss_one (ps_asg (pe_op op_sub (pe_ix ix_list (pv 2) (pv 8) (fun _ _ => rfl)) pe_int) (pg_sub (pv 2) (pv 8) set_list)))))))))
        (pss_cons (ps_set (i := 9) sc_l_drawn_net.nd rfl (by first | exact Or.inl rfl | exact Or.inr rfl) (pe_bm PySem.F.plainAttrs_list PySem.F.slot_list_index PySem.F.type_list_index mt_index (pv 2) (pa_cons pe_int pa_nil)))
        (pss_one (ps_ret (pe_callB cr_sortedPO (by rfl) M.sorted (by decide +kernel) (pa_cons (pe_op op_cat (pv 3) (pe_lst (pa_cons (pe_tup (pa_cons (pv 9) (pa_cons (pe_bm PySem.F.plainAttrs_list PySem.F.slot_list_index PySem.F.type_list_index mt_indexFrom (pv 2) (pa_cons pe_int (pa_cons (pe_op op_add (pv 9) pe_int) pa_nil))) pa_nil))) pa_nil))) pa_nil)))))))
    , ?_⟩)
  · obtain ⟨_, _, _, ⟨rfl, _⟩, _⟩ := h; rfl
  · obtain ⟨⟨da, ds⟩, st, N, ⟨rfl, hD, hgrt⟩, hs, hN, q⟩ := h
    simp only at hD hgrt q
    have hstt := grt_stt hgrt
    obtain ⟨h8, h60, _, _⟩ := hgrt
    obtain ⟨so, hso⟩ := hs.some
    have dast : da ≠ st := fun e => by rw [e, del_same] at hD; cases hD
    have hDH : H da = some (.lst (ds.map iV)) := by rw [del_ne dast] at hD; exact hD
    rw [fl_dd] at hDH
    generalize hd0 : dd ds = d0 at hstt hDH q
    generalize hnn : ds.length = n at hstt hDH h8 h60 q
    refine q_parP (Φ := IsL (fl n d0)) (Ψ := LL []) (epa_cons mono_L (mono1 (mono_LL fun _ h => nomatch h)) (evp_ofL (el_list (K := K) (ev_var rfl) (sq_of hDH))) (epa_cons (mono_LL fun _ h => nomatch h) (fun _ h => nomatch h) (evp_lst (fun _ h => nomatch h) epa_nil (Nat.zero_le _)) epa_nil)) fun x y H1 e1 hx hy => ?_
    obtain ⟨lp, rfl, hlp⟩ := hx
    obtain ⟨fp, vs0, rfl, hfp, hal0⟩ := hy
    cases hal0
    obtain ⟨l0, l1⟩ := newp_is hlp
    obtain ⟨f0, f1⟩ := newp_is hfp
    have lst' := ne_st hs l0
    have fst := ne_st hs f0
    have hne : lp ≠ fp := by
      rintro rfl
      rw [l1] at f1
      have h2 := congrArg List.length (HO.lst.inj (Option.some.inj f1))
      rw [fl_len] at h2
      simp at h2
      omega
    refine q_for (itw_range1 (n := n - 2) (ea_cons (ev_subN (a := n) (b := 2) (ev_is (ev_len0 (K := K) (ev_var rfl) (sq_of (e1 _ _ hDH))) (by rw [fl_len]; rfl)) ev_c (by omega)) ea_nil) (by omega))
      (fun i σ' H' => ∃ (y4 y5 y6 y7 y8 : Option V) (vs : List V) (cs : List Cab) (D : Nat → Nat), σ' = [some (.ref st), some (.ref da), some (.ref lp), some (.ref fp), y4, y5, y6, y7, y8, none, none, none] ∧ Es st H H' ∧ Sto H' st (N + 2 * i) ∧ H' lp = some (.lst (fl n D)) ∧ H' fp = some (.lst vs) ∧ Al (cs.map CB) vs (newp H (fr2 lp fp H')) ∧ Stt n (n - 2 - i) D ∧ cs.length = i ∧ ∀ N', Nt n D N' → Nt n d0 (cs ++ N'))
      (fun H2 e2 => ⟨none, none, none, none, none, [], [], d0, rfl, .of (e1.trans e2), hs.mono (e1.trans e2), e2 _ _ l1, e2 _ _ f1, .nil, hstt, rfl, fun _ h => h⟩) (fun _ _ _ _ => trivial) (fun i x σ' H' H2 hi hwv e3 hx => ?_) (fun σ' H' hwv => ?_)
    · obtain ⟨y4, y5, y6, y7, y8, vs, cs, D, rfl, ex, sx, hL, hF, hal, hst, hcl, hnt⟩ := hwv
      subst hx
      have hk : n - 2 - i = (n - 2 - (i + 1)) + 1 := by omega
      rw [hk] at hst
      have ex2 := ex.trans (.of e3)
      have hL2 := e3 _ _ hL
      have en := itw_enum (K := K) (σ := [some (.ref st), some (.ref da), some (.ref lp), some (.ref fp), some (iV i), y5, y6, y7, y8, none, none, none]) (H := H2) (ta := tCons (tVar 2) tNil) (ea_cons (ev_var rfl) ea_nil) (sq_of hL2)
      rw [fl_len] at en
      refine q_asgL (el_lc (fun x => decide (D x = 1)) iV en (by omega) (fun H' e => ex_l e (sq_of hL2)) fun x v H3 e4 hx hv R k => ?_) fun p5 H3 hp5 e4 h5 => ?_
      · obtain ⟨T, xc, rfl, hxc, hT⟩ := hv
        rw [fl_at hx] at hxc
        cases hxc
        refine g_two hT (k _ rfl (et_is (et_test (ev_op (ev_var (v := iV (D x)) rfl) (ev_c (v := iV 1)) (rv_eq rfl))) ?_) fun _ => ev_var rfl)
        rw [decide_eq_decide]; exact iV_inj
      have hL3 := e4 _ _ hL2
      have en2 := itw_enum (K := K) (σ := [some (.ref st), some (.ref da), some (.ref lp), some (.ref fp), some (iV i), some (.ref p5), y6, y7, y8, none, none, none]) (H := H3) (ta := tCons (tVar 2) tNil) (ea_cons (ev_var rfl) ea_nil) (sq_of hL3)
      rw [fl_len] at en2
      refine q_asgL (el_lc (fun x => decide (1 < D x)) iV en2 (by omega) (fun H' e => ex_l e (sq_of hL3)) fun x v H4 e5 hx hv R k => ?_) fun p6 H4 hp6 e5 h6 => ?_
      · obtain ⟨T, xc, rfl, hxc, hT⟩ := hv
        rw [fl_at hx] at hxc
        cases hxc
        refine g_two hT (k _ rfl (et_is (et_test (ev_op (ev_var (v := iV (D x)) rfl) ev_c rv_I0)) ?_) fun _ => ev_var rfl)
        rw [decide_eq_decide]; omega
      have s2 := sx.mono e3
      have p5st := ne_st s2 hp5
      have p6st := ne_st (s2.mono e4) hp6
      have h5' : H3 p5 = some (.lst (((List.range n).filter fun x => decide (D x = 1)).map iV)) := h5
      have h6' : H4 p6 = some (.lst (((List.range n).filter fun x => decide (1 < D x)).map iV)) := h6
      obtain ⟨v0, hv0, dv0⟩ := hst.ones
      obtain ⟨u0, hu0, du0⟩ := stt_inner hst
      have memE : v0 ∈ (List.range n).filter (fun x => decide (D x = 1)) := List.mem_filter.mpr ⟨List.mem_range.mpr hv0, decide_eq_true dv0⟩
      have memI : u0 ∈ (List.range n).filter (fun x => decide (1 < D x)) := List.mem_filter.mpr ⟨List.mem_range.mpr hu0, decide_eq_true du0⟩
      have allE : ∀ x ∈ (List.range n).filter (fun x => decide (D x = 1)), x < n ∧ D x = 1 := fun x hx => ⟨List.mem_range.mp (List.mem_filter.mp hx).1, of_decide_eq_true (List.mem_filter.mp hx).2⟩
      have allI : ∀ x ∈ (List.range n).filter (fun x => decide (1 < D x)), x < n ∧ 1 < D x := fun x hx => ⟨List.mem_range.mp (List.mem_filter.mp hx).1, of_decide_eq_true (List.mem_filter.mp hx).2⟩
      have lenE := List.length_filter_le (fun x => decide (D x = 1)) (List.range n)
      have lenI := List.length_filter_le (fun x => decide (1 < D x)) (List.range n)
      rw [List.length_range] at lenE lenI
      generalize (List.range n).filter (fun x => decide (D x = 1)) = es at h5' memE allE lenE
      generalize (List.range n).filter (fun x => decide (1 < D x)) = is at h6' memI allI lenI
      have e14 := e4.trans e5
      have h54 := e5 _ _ h5'
      have h5d : del H4 st p5 = some (.lst (es.map iV)) := by rw [del_ne p5st]; exact h54
      refine ⟨.ref p5, rfl, ?_⟩
      refine cm_pick (st := st) (n := es.length) (N := N + 2 * i) (ea_cons (ev_var rfl) (ea_cons (ev_is (ev_len0 (K := K) (ev_var rfl) (sq_of h5d)) (by rw [List.length_map]; rfl)) ea_nil)) (List.length_pos_of_mem memE) (by omega) (s2.mono e14) (by omega) fun r1 H5 hr1 e6 s5 => ?_
      refine rv_ixL (K := K) (sq_of (es_at e6 p5st h54)) (atI_nat (by rw [List.getElem?_map, List.getElem?_eq_getElem hr1]; rfl)) H5 (Ex.refl _) _ fun H6 e7 => ?_
      have s6 := s5.mono e7
      have h6H : H6 p6 = some (.lst (is.map iV)) := e7 _ _ (es_at e6 p6st h6')
      have h6d : del H6 st p6 = some (.lst (is.map iV)) := by rw [del_ne p6st]; exact h6H
      refine ⟨.ref p6, rfl, ?_⟩
      refine cm_pick (st := st) (n := is.length) (N := N + 2 * i + 1) (ea_cons (ev_var rfl) (ea_cons (ev_is (ev_len0 (K := K) (ev_var rfl) (sq_of h6d)) (by rw [List.length_map]; rfl)) ea_nil)) (List.length_pos_of_mem memI) (by omega) s6 (by omega) fun r2 H7 hr2 e8 s7 => ?_
      refine rv_ixL (K := K) (sq_of (es_at e8 p6st h6H)) (atI_nat (by rw [List.getElem?_map, List.getElem?_eq_getElem hr2]; rfl)) H7 (Ex.refl _) _ fun H8 e9 => ⟨_, _, rfl, ?_⟩
      obtain ⟨hv, dv⟩ := allE _ (List.getElem_mem hr1)
      obtain ⟨hu, du⟩ := allI _ (List.getElem_mem hr2)
      generalize hee : es[r1] = v at hv dv
      generalize hii : is[r2] = u at hu du
      have s8 := s7.mono e9
      have e48 : Es st H4 H8 := (e6.trans (.of e7)).trans (e8.trans (.of e9))
      have e28 : Es st H2 H8 := (Es.of e14).trans e48
      have e08 : Es st H' H8 := (Es.of e3).trans e28
      have ex8 := ex.trans e08
      have hL8 := es_at e08 lst' hL
      have hF8 := es_at e08 fst hF
      have hal8 := hal.mono (newfr_mono hso e08) (mem_map_mono (fun _ => mono_CB) _)
      have hpl : vs.length ≤ 60 := by rw [hal.length, List.length_map]; omega
      have hne2 : u ≠ v := fun e => by rw [e] at du; omega
      dsimp only
      refine q_appU hF8 (ev_var rfl) (eu_tup (ea_cons (ev_minN (ev_var (v := iV v) rfl) (ev_var (v := iV u) rfl)) (ea_cons (ev_maxN (ev_var (v := iV v) rfl) (ev_var (v := iV u) rfl)) ea_nil)) (by show 2 ≤ 100000; decide)) (by omega) fun p H9 hp e10 h9 => ?_
      have pl : p ≠ lp := fun e => by rw [e, hL8] at hp; cases hp
      have pf : p ≠ fp := fun e => by rw [e, hF8] at hp; cases hp
      have hL10 : (upd H9 fp (.lst (vs ++ [V.ref p]))) lp = some (.lst (fl n D)) := by rw [upd_ne hne]; exact e10 _ _ hL8
      have exf := es_mut (o := .lst (vs ++ [V.ref p])) (ex8.trans (.of e10)) f0
      have sf := sto_mut (o := .lst (vs ++ [V.ref p])) (s8.mono e10) fst
      refine q_setL (j := v) hL10 (ev_c (v := iV 0)) (ev_var rfl) (ev_var (v := iV v) rfl) (by rw [fl_len]; exact hv) fun H11 e12 => ?_
      rw [fl_set hv]
      have exl := es_mut (o := .lst (fl n (up D v 0))) (exf.trans (.of e12)) l0
      have sl := sto_mut (o := .lst (fl n (up D v 0))) (sf.mono e12) lst'
      have hL12 : (upd H11 lp (.lst (fl n (up D v 0)))) lp = some (.lst (fl n (up D v 0))) := upd_same
      have hF12 : (upd H11 lp (.lst (fl n (up D v 0)))) fp = some (.lst (vs ++ [V.ref p])) := by
        rw [upd_ne (Ne.symm hne)]; exact e12 _ _ upd_same
      have eu : up D v 0 u = D u := up_ne hne2
      refine s_setL (j := u) hL12 (ev_subN (b := 1) (ev_fl (K := K) (ev_var rfl) (ev_var (v := iV u) rfl) (sq_of hL12) hu) ev_c (by rw [eu]; omega)) (ev_var rfl) (ev_var (v := iV u) rfl) (by rw [fl_len]; exact hu) fun H13 e14' => ?_
      rw [fl_set hu, eu]
      refine ⟨some (iV i), some (.ref p5), some (.ref p6), some (iV v), some (iV u), vs ++ [.ref p], cs ++ [cab v u], hang D v u, rfl, es_mut (exl.trans (.of e14')) l0, (sto_mut (sl.mono e14') lst').le (by omega), upd_same, by rw [upd_ne (Ne.symm hne)]; exact e14' _ _ hF12, ?_, hst.hang hv hu dv (by omega), by rw [List.length_append, hcl]; rfl, fun N' h => ?_⟩
      · rw [List.map_append]
        have fm : Ex (fr2 lp fp H9) (fr2 lp fp (upd H13 lp (.lst (fl n (up (up D v 0) u (D u - 1)))))) := by
          rw [fr2_a]
          have := fr2_mono (a := lp) (b := fp) e14'
          rw [fr2_a] at this
          have t2 := fr2_mono (a := lp) (b := fp) e12
          rw [fr2_b] at t2
          exact t2.trans this
        refine (hal8.mono (newp_mono (Ex.refl _) ((fr2_mono e10).trans fm)) (mem_map_mono (fun _ => mono_CB) _)).append (.cons ⟨p, rfl, newp_of (es_back s8 ex8 hp) (fm _ _ ?_)⟩ .nil)
        rw [fr2_at pl pf]; exact h9
      · rw [List.append_assoc]
        exact hnt _ (.step hv hu dv (by omega) h)
    · obtain ⟨y4, y5, y6, y7, y8, vs, cs, D, rfl, ex, sx, hL, hF, hal, hst, hcl, hnt⟩ := hwv
      rw [Nat.sub_self] at hst
      obtain ⟨v1, v2, v3⟩ := hst.fsp
      obtain ⟨t1, t2, t3, t4, t5⟩ := hst.two
      have t6 := hst.two_min
      refine q_asg (ev_idx1 (K := K) (ev_var rfl) (sq_of hL) (ev_c (v := iV 1)) v1 v2 v3) fun H3 e4 => ?_
      refine sorted_net (K := K) (H0 := H) (fp := fp) (fun p hp => es_back (sx.mono e4) (ex.trans (.of e4)) hp) rfl (e4 _ _ hF) (hal.mono (newp_mono (Ex.refl _) (fr2_ex.trans e4)) (mem_map_mono (fun _ => mono_CB) _)) (by rw [hal.length, List.length_map]; omega) (eu_tup (ea_cons (ev_var rfl) (ea_cons (ev_idx2 (K := K) (ev_var rfl) (sq_of (e4 _ _ hL)) (ev_c (v := iV 1)) (ev_addN (ev_var (v := iV (fi n D)) rfl) (ev_c (v := iV 1))) t2 (by omega) t4 t6) ea_nil)) (by show 2 ≤ 100000; decide)) fun v H4 e5 hv => q v H4 (ex.trans (.of (e4.trans e5))) ((sx.mono (e4.trans e5)).le (by omega)) ⟨_, hnt _ (.base t1 t2 t3 t4 t5), hv⟩
end
end Ly
end
section
set_option Elab.async false
set_option linter.all false
set_option maxRecDepth 100000
set_option maxHeartbeats 2000000
/-! repr of data; defs that run where nothing is being shown. -/
namespace Ly
open PySem PySem.Spec PyProof.Rows L2 Evl Hd Pn
/-! ### repr -/
def rReprD (K : PySem.W.Frag) : List V → Hp → VK → Prop := fun vs H Q => ∃ (a : Addr) (d : PyData), vs = [V.ref a] ∧ Dp K H (.ref a) d ∧ d.showable = true ∧ d.canLay0 = true ∧ d.depth ≤ 64 ∧ d.shown.length ≤ sizeLine ∧ Q (.str d.shown) H
section
variable {X : Cx}
theorem cr_repr (hg : X.A.guards = some []) (hu : X.A.units + 65 < cLine) : CallR X (.builtin "repr") (rReprD X.K) := by
  intro pins s σ H vs us Q I r h
  obtain ⟨a, d, rfl, hd, h1, h2, h3, h4, q⟩ := h
  rw [Vals.ref1 r]
  obtain ⟨as, hr⟩ := Dp.reads I d _ _ hd rfl
  exact PySem.repr_of_reads' hr h1 (PyData.noDict_hsm (PyData.hasDict_of_canLay d h2)) hg (by omega) (fun _ _ e => e) (fun h' u tk hk => ⟨.str d.shown, H, I.kept hk, ⟨_, rfl⟩, q⟩) h4
end
section
variable {K : PySem.W.Frag} {σ : L2.St} {H : Hp} {te : TE} {d : PyData}
theorem ev_repr (h : EvD K te σ H d) (hr : ∀ H1 v, Dp K H1 v d → ∃ a, v = .ref a) (h1 : d.showable = true) (h2 : d.canLay0 = true) (h3 : d.depth ≤ 64) (h4 : d.shown.length ≤ sizeLine) : Ev (tCB (rReprD K) (tCons te tNil)) σ H (.str d.shown) := fun H1 e1 Q q =>
  h H1 e1 _ fun v H2 e2 k => by
    have hd := k H2 (Ex.refl _)
    obtain ⟨a, rfl⟩ := hr H2 v hd
    exact ⟨a, d, rfl, hd, h1, h2, h3, h4, q H2 e2⟩
theorem dp_ref {ds : List PyData} {H1 : Hp} {v : V} (h : Dp K H1 v (.list ds)) : ∃ a, v = .ref a := by
  cases h with
  | lst h1 h2 => exact ⟨_, rfl⟩
end
/-! what is shown is not too long -/
theorem shown_nat {n k : Nat} (hk : 0 < k) (h : n < 2 ^ k) : (natD n).shown.length ≤ k := by
  have h1 := PySem.nat_repr_length_le hk h
  show (Str.ofString (toString (n : Int))).length ≤ k
  rw [PySem.ofString_length]
  exact h1
theorem textFrom_le : ∀ (ts : List Str) (k B : Nat) (acc : Str), (∀ t ∈ ts, t.length ≤ B) → (textFrom k acc ts).length ≤ acc.length + ts.length * (B + 2)
  | [], k, B, acc, _ => by simp [textFrom]
  | t :: r, k, B, acc, h => by
    have ih := textFrom_le r (k + 1) B (acc ++ (if k > 0 then ", " else "" : String) ++ t) fun u hu => h u (by simp [hu])
    have e : (acc ++ (if k > 0 then ", " else "" : String) ++ t).length ≤ acc.length + 2 + t.length := by
      rw [strLen_append, strLen_append]
      have : ((if k > 0 then ", " else "" : String) : Str).length ≤ 2 := by split <;> decide
      omega
    have ht := h t (by simp)
    rw [List.length_cons, Nat.succ_mul]
    show (textFrom (k + 1) _ r).length ≤ _
    omega
theorem shownAll_map {α : Type} {f : α → PyData} : ∀ l : List α, PyData.shownAll (l.map f) = l.map fun a => (f a).shown
  | [] => rfl
  | a :: l => by
    show (f a).shown :: PyData.shownAll (l.map f) = _
    rw [shownAll_map l]; rfl
theorem shown_list {α : Type} {f : α → PyData} {l : List α} {B M : Nat} (h : ∀ a ∈ l, (f a).shown.length ≤ B) (hl : l.length ≤ M) : (listD f l).shown.length ≤ 2 + M * (B + 2) := by
  show (listText (PyData.shownAll (l.map f))).length ≤ _
  rw [shownAll_map]
  unfold listText
  rw [strLen_append]
  have := textFrom_le (l.map fun a => (f a).shown) 0 B "[" fun t ht => by
    obtain ⟨a, ha, rfl⟩ := List.mem_map.mp ht
    exact h a ha
  rw [List.length_map] at this
  have e1 : (("[" : String) : Str).length = 1 := rfl
  have e2 : (("]" : String) : Str).length = 1 := rfl
  have e3 : l.length * (B + 2) ≤ M * (B + 2) := Nat.mul_le_mul_right _ hl
  omega
theorem shown_cab {c : Cab} {k : Nat} (hk : 0 < k) (h1 : c.1 < 2 ^ k) (h2 : c.2 < 2 ^ k) : (cabD c).shown.length ≤ 2 * k + 4 := by
  have a := shown_nat hk h1
  have b := shown_nat hk h2
  show (("(" : Str) ++ Str.join ", " [(natD c.1).shown, (natD c.2).shown] ++ (")" : String)).length ≤ _
  show (("(" : Str) ++ ((natD c.1).shown ++ ", " ++ (natD c.2).shown) ++ (")" : String)).length ≤ _
  rw [strLen_append, strLen_append, strLen_append, strLen_append]
  have e1 : (("(" : String) : Str).length = 1 := rfl
  have e2 : ((")" : String) : Str).length = 1 := rfl
  have e3 : ((", " : String) : Str).length = 2 := rfl
  omega
theorem shown_tri {t : Nat × Nat × Nat} {k : Nat} (hk : 0 < k) (h1 : t.1 < 2 ^ k) (h2 : t.2.1 < 2 ^ k) (h3 : t.2.2 < 2 ^ k) : (triD t).shown.length ≤ 3 * k + 6 := by
  have a := shown_nat hk h1
  have b := shown_nat hk h2
  have c := shown_nat hk h3
  show (("(" : Str) ++ ((natD t.1).shown ++ ", " ++ ((natD t.2.1).shown ++ ", " ++ (natD t.2.2).shown)) ++ (")" : String)).length ≤ _
  rw [strLen_append, strLen_append, strLen_append, strLen_append, strLen_append, strLen_append]
  have e1 : (("(" : String) : Str).length = 1 := rfl
  have e2 : ((")" : String) : Str).length = 1 := rfl
  have e3 : ((", " : String) : Str).length = 2 := rfl
  omega
/-! .. and can be shown -/
theorem showable_nat {n : Nat} (h : n < 2 ^ 1000) : (natD n).showable = true := by
  show decide (((n : Int)).natAbs.log2 < 1920) = true
  rw [Int.natAbs_natCast]
  refine decide_eq_true ?_
  by_cases h0 : n = 0
  · rw [h0]; decide
  · exact Nat.lt_trans ((Nat.log2_lt h0).mpr h) (by decide)
theorem showable_map {α : Type} {f : α → PyData} : ∀ {l : List α}, (∀ a ∈ l, (f a).showable = true) → PyData.showableAll (l.map f) = true
  | [], _ => rfl
  | a :: l, h => by
    show ((f a).showable && PyData.showableAll (l.map f)) = true
    rw [h a (by simp), showable_map fun b hb => h b (by simp [hb])]; rfl
theorem showable_list {α : Type} {f : α → PyData} {l : List α} (h : ∀ a ∈ l, (f a).showable = true) : (listD f l).showable = true := showable_map h
theorem showable_cab {c : Cab} (h1 : c.1 < 2 ^ 1000) (h2 : c.2 < 2 ^ 1000) : (cabD c).showable = true := by
  show ((natD c.1).showable && ((natD c.2).showable && true)) = true
  rw [showable_nat h1, showable_nat h2]; rfl
theorem showable_tri {t : Nat × Nat × Nat} (h1 : t.1 < 2 ^ 1000) (h2 : t.2.1 < 2 ^ 1000) (h3 : t.2.2 < 2 ^ 1000) : (triD t).showable = true := by
  show ((natD t.1).showable && ((natD t.2.1).showable && ((natD t.2.2).showable && true))) = true
  rw [showable_nat h1, showable_nat h2, showable_nat h3]; rfl
/-! ### defs that run where nothing is being shown -/
structure FnG (P : Program) (w : World) (K : PySem.W.Frag) (mg : Str → Option Value) (base : Heap) (k : Nat) (f : Addr) (fd : FuncData) (ps : List Str) (sp : Sp) : Prop where
  cnt : ∀ vs H Q E, sp vs H Q E → vs.length = ps.length
  go : ∀ (A : Around) (outer : List Env) (s : Shared) (H : Hp) (args : Args) (us : List Value) (vs : List V) (Q : VK) (E : XK), Room k A → A.guards = some [] → Env0 P w K mg base A outer s H → BindsTo s fd args (ps.zip us) → Vals vs us → sp vs H Q E →
    codeAny (model P w) A (.call (.ref f) args) (CR CX0 outer P w H s Q E) s
def CalG (P : Program) (w : World) (K : PySem.W.Frag) (mg : Str → Option Value) (base : Heap) (k : Nat) (x : Str) (ps : List Str) (sp : Sp) : Prop :=
  ∃ f fd, FnG P w K mg base k f fd ps sp ∧ mg x = some (.ref f) ∧ PySem.W.keepIn K (.ref f) = true ∧ Binds K fd ps []
theorem pe_calG {X : Cx} {k j : Nat} {x : Str} {ps : List Str} {sp : Sp} {p pos : Pos} {e : Expr} {es : List Expr} {t : TA} (c : CalG X.prog X.w X.K X.mg X.base k x ps sp) (hr : Room j X.A) (gd : X.A.guards = some []) (ha : PA X (e :: es) t) (hg : Gl X x := by rfl) (hk : k ≤ j := by decide)
    (hdb : (x == ("__debug__" : Str)) = false := by decide) (he : starEach (e :: es) X.env = (false, eval e X.env) :: starEach es X.env := by rfl) (hpl : (backTo pos (starEach es X.env)).any (·.1) = false := by rfl) :
    PE X (.Call (.Name x p) (e :: es) [] pos) (tCall sp [] E0 t) := by
  obtain ⟨f, fd, F, nm, kp, bd⟩ := c
  constructor
  intro pins s σ H Q I start
  refine wpAny_Call_Name_kw (ld_glob I hg nm ?_ hdb)
  refine PySem.W.callWith_K (h₀ := X.base) I.ok.mod.kin kp (thn (ha.run pos pins s σ H _ I start) ?_) he hpl
  rintro us s1 ⟨vs, H1, I1, rel, promise⟩
  refine ⟨I1.kIn, ?_⟩
  have rel' : Vals (vs ++ []) (us ++ []) := rel.append .nil
  have count : (us ++ []).length = ps.length := rel'.length.symm.trans (F.cnt _ _ _ _ promise)
  have run := F.go X.A X.stack s1 H1 ⟨us, []⟩ (us ++ []) (vs ++ []) Q E0 (hr.mono hk) gd I1.env0 (bd s1 us I1.kIn count) rel' promise
  refine wpAny_call (codeAny_mono run ?_)
  intro res s2 told
  match res, told with
  | .error ex, told => exact (pass0 : Passes CX0 X E0) pins σ H1 s1 ex s2 I1 told
  | .ok (.ret u), told => exact I1.after told
section
variable {P : Program} {w : World} {K : PySem.W.Frag} {mg : Str → Option Value} {base : Heap}
theorem mk_calG {x : Str} {st : Stmt} {N ps : List Str} {k : Nat} {sp : Sp} (F : Df K mg x st) (S : FnScope N ps (defScope st)) (len : ∀ vs H Q E, sp vs H Q E → vs.length = ps.length)
    (hb : ∀ (kV doc pm : Value) (an : Option Addr) (cdv ct : Value) (us : List Value), us.length = ps.length → bindArgs (PySem.W.fnOf x x (defArgs st) (defBody st) (defScope st) .none kV doc pm an cdv ct) ⟨us, []⟩ = pure (ps.zip us))
    (hbody : ∀ (f : Addr) (cdv : Value) (A : Around) (outer : List Env) (s : Shared) (H : Hp) (vs : List V) (Q : VK) (E : XK), Room k (A.deeper (envOfC x (defScope st) s.heap.objs.size f cdv)) → A.guards = some [] → sp vs H Q E →
      ∃ t, PSs (cxOf CX0 P w K mg base N x (defScope st) f cdv A outer s H E).nox (defBody st) t ∧ t { nx := fun _ H' => Q .non H', rt := Q } (start N vs) H) : CalG P w K mg base (k + 1) x ps sp := by
  obtain ⟨f, fd, FD, nm⟩ := F
  have bd := FunD.bindsN FD hb
  refine ⟨f, fd, ?_, nm, FD.kp, bd⟩
  obtain ⟨_, _, _, _, _, _, _, cdv, _, _, rfl, found, code, _, _⟩ := FD.ex
  constructor
  · exact len
  intro A outer s H args us vs Q E room gd env bind rel promise
  have count := len vs H Q E promise
  have here : K.In s.heap := env.mod.kin.keeps fun b o q => (env.bs b o q).1
  have free : s.heap.NoLimit := env.mod.nolimit.keeps fun b o q => (env.bs b o q).1
  refine codeAny_call_function room.depth (here _ _ found) rfl S.co S.gen rfl (PySem.W.codeRec_of here code) (bind _ _ _ _ ?_)
  refine wpAny_newFunctionEnv_cells S.kind ?_ ?_
  · rintro ⟨n, v⟩ hm
    exact (S.par n (List.of_mem_zip hm).1).imp id fun cell => ⟨cell, PySem.W.cellsFrom_some _ _ _ (.inl cell)⟩
  intro env' e1 s1 entered
  subst e1
  refine ⟨free.keeps entered.toInCall.keep, codeAny_func ?_⟩
  obtain ⟨t, hold, told⟩ := hbody f cdv A outer s H vs Q E (room.deeper _) gd promise
  have I := inv_start (CX := CX0) (E := E) S room.hd env count rel entered
  refine wpAny_mono (hold.nox.run [] s1 (start N vs) H _ I told) ?_ fun _ _ q => q
  intro fl s2 fin
  match fl, fin with
  | .ret u, ⟨v, _, H', J, rv, q⟩ => exact ⟨v, H', J.os, J.bare, J.base, J.hok, rv, q⟩
  | .next, ⟨_, H', J, q⟩ => exact ⟨V.non, H', J.os, J.bare, J.base, J.hok, rfl, q⟩
  | .brk, ⟨_, _, _, q⟩ => exact q.elim
  | .cont, ⟨_, _, _, q⟩ => exact q.elim
end
end Ly
end
section
/-! Nets hang on the plugs below n alone; there is always one. -/
set_option linter.all false
set_option maxHeartbeats 1000000
namespace Pn
theorem lst_congr {p q : Nat → Bool} : ∀ (f lo : Nat), (∀ x, lo ≤ x → x < lo + f → p x = q x) → lst p lo f = lst q lo f
  | 0, lo, _ => rfl
  | f + 1, lo, h => by
    unfold lst
    rw [h lo (by omega) (by omega), lst_congr f (lo + 1) fun x h1 h2 => h x (by omega) (by omega)]
section
variable {n : Nat} {d e : Nat → Nat}
theorem fi_congr (h : ∀ x, x < n → d x = e x) : fi n d = fi n e := lst_congr _ _ fun x _ hx => by
  have := h x (by omega)
  simp only [this]
theorem se_congr (h : ∀ x, x < n → d x = e x) : se n d = se n e := by
  unfold se
  rw [fi_congr h]
  exact lst_congr _ _ fun x h1 h2 => by
    have := h x (by omega)
    simp only [this]
theorem nets_congr : ∀ (k : Nat) {d e : Nat → Nat}, (∀ x, x < n → d x = e x) → nets n k d = nets n k e
  | 0, d, e, h => by
    show [[(fi n d, se n d)]] = [[(fi n e, se n e)]]
    rw [fi_congr h, se_congr h]
  | k + 1, d, e, h => by
    show List.flatMap _ _ = List.flatMap _ _
    have e1 : (List.range n).filter (fun u => decide (2 ≤ d u)) = (List.range n).filter (fun u => decide (2 ≤ e u)) := List.filter_congr fun x hx => by rw [h x (List.mem_range.mp hx)]
    rw [e1, fi_congr h]
    refine flat_congr2 fun u hu => ?_
    have hun := List.mem_range.mp (List.mem_filter.mp hu).1
    rw [nets_congr k (d := Pn.hang d (fi n e) u) (e := Pn.hang e (fi n e) u) fun x hx => ?_]
    unfold Pn.hang up
    rw [h x hx, h u hun]
where
  flat_congr2 {α β : Type} {l : List α} {f g : α → List β} (h : ∀ a ∈ l, f a = g a) : l.flatMap f = l.flatMap g := by
    induction l with
    | nil => rfl
    | cons a l ih => simp only [List.flatMap_cons]; rw [h a (by simp), ih fun b hb => h b (by simp [hb])]
theorem Stt.inner {k : Nat} (h : Stt n (k + 1) d) : ∃ u, u < n ∧ 2 ≤ d u := by
  apply Classical.byContradiction
  intro hc
  have : S n d ≤ S n (al d) := S_le fun i hi => by
    by_cases e : d i = 0
    · rw [e]; exact Nat.zero_le _
    · rw [al_one e]
      exact Nat.le_of_not_lt fun q => hc ⟨i, hi, q⟩
  rw [h.sum, h.alive] at this
  omega
theorem nets_ne : ∀ (k : Nat) {d : Nat → Nat}, Stt n k d → nets n k d ≠ []
  | 0, d, _ => by simp [nets]
  | k + 1, d, h => by
    obtain ⟨u, hu, du⟩ := h.inner
    obtain ⟨v1, v2, _⟩ := h.fsp
    have ih := nets_ne k (h.hang v1 hu v2 du)
    intro e
    obtain ⟨N, hN⟩ := List.exists_mem_of_ne_nil _ ih
    have : cab (fi n d) u :: N ∈ nets n (k + 1) d := List.mem_flatMap.mpr ⟨u, List.mem_filter.mpr ⟨List.mem_range.mpr hu, decide_eq_true du⟩, List.mem_map.mpr ⟨N, hN, rfl⟩⟩
    rw [e] at this
    cases this
theorem Stt.congr {k : Nat} (h : Stt n k d) (hde : ∀ x, x < n → d x = e x) : Stt n k e := by
  refine ⟨?_, ?_⟩
  · rw [← h.alive]
    exact S_congr fun x hx => by unfold al; rw [hde x hx]
  · rw [← h.sum]
    exact S_congr fun x hx => (hde x hx).symm
end
end Pn
end
section
set_option Elab.async false
set_option linter.all false
set_option maxRecDepth 100000
set_option maxHeartbeats 2000000
/-! Comprehensions over lists of data, loops over new lists, data of new lists. -/
namespace Ly
open PySem PySem.Spec PyProof.Rows L2 Evl Hd Pn
section
variable {K : PySem.W.Frag} {σ : L2.St} {H : Hp} {tl te : TE} {tt : TT} {α : Type} {g : α → Ph}
/-- [p for p in xs if ..] -/
theorem el_keepG {i : Nat} {a : Addr} {l : List α} {vs : List V} [Inhabited α] (m : ∀ a, Mono (g a)) (q : α → Bool) (h : Ev tl σ H (.ref a)) (ha : H a = some (.lst vs)) (hal : Al (l.map g) vs H) (hn : vs.length ≤ 40000) (hw : ∀ x : V, wipe ((wipe σ [i]).set i (some x)) [i] = wipe σ [i]) (hr : ∀ x : V, ((wipe σ [i]).set i (some x))[i]? = some (some x))
    (turn : ∀ b x, b ∈ l → ∀ H1, Ex H H1 → g b x H1 → EvT tt ((wipe σ [i]).set i (some x)) H1 (q b)) : EvL (tLc (iList K tl) (gName i) tt (tVar i) [i]) σ H (((l.zip vs).filter fun z => q z.1).map (·.2)) := by
  have hS : SqL K H a vs := sq_of ha
  have hl : vs.length = l.length := by rw [hal.length, List.length_map]
  rw [← given_zip l vs hl (fun k => q (l.getD k default)) q fun k b e => by rw [List.getD_eq_getElem?_getD, e]; rfl]
  refine el_lc (fun k => q (l.getD k default)) (fun k => vs.getD k .non) (itw_list (K := K) h hS) hn (fun H' e => ex_l e hS) fun k x H1 e1 hk hx R kk => ?_
  obtain ⟨b, e2, hb⟩ := al_item (hal.mono e1 (mem_map_mono m _)) hx
  have g1 : l.getD k default = b := by rw [List.getD_eq_getElem?_getD, e2]; rfl
  have g2 : vs.getD k .non = x := by rw [List.getD_eq_getElem?_getD, hx]; rfl
  rw [g1, g2] at kk
  exact kk _ (hw _) (turn b x (List.mem_of_getElem? e2) H1 e1 hb) fun _ => ev_var (hr _)
/-- [e for p in xs], numbers -/
theorem el_mapG {i : Nat} {a : Addr} {l : List α} {vs : List V} [Inhabited α] (m : ∀ a, Mono (g a)) (F : α → Nat) (h : Ev tl σ H (.ref a)) (ha : H a = some (.lst vs)) (hal : Al (l.map g) vs H) (hn : vs.length ≤ 40000) (hw : ∀ x : V, wipe ((wipe σ [i]).set i (some x)) [i] = wipe σ [i])
    (turn : ∀ b x, b ∈ l → ∀ H1, Ex H H1 → g b x H1 → Ev te ((wipe σ [i]).set i (some x)) H1 (iV (F b))) : EvL (tLc (iList K tl) (gName i) tYes te [i]) σ H ((l.map F).map iV) := by
  have hS : SqL K H a vs := sq_of ha
  have hl : vs.length = l.length := by rw [hal.length, List.length_map]
  have e : (l.map F).map iV = given vs.length (fun _ => true) fun j => iV (F (l.getD j default)) := by
    unfold given
    rw [hl, range_map l _ (fun y => iV (F y)) fun i a h => by rw [List.getD_eq_getElem?_getD, h]; rfl, List.map_map]; rfl
  rw [e]
  refine el_lc (fun _ => true) (fun j => iV (F (l.getD j default))) (itw_list (K := K) h hS) hn (fun H' e => ex_l e hS) fun k x H1 e1 hk hx R kk => ?_
  obtain ⟨b, e2, hb⟩ := al_item (hal.mono e1 (mem_map_mono m _)) hx
  have g1 : l.getD k default = b := by rw [List.getD_eq_getElem?_getD, e2]; rfl
  rw [g1] at kk
  exact kk _ (hw _) et_yes fun _ => turn b x (List.mem_of_getElem? e2) H1 e1 hb
/-- data of a new list of things that are known -/
theorem evd_al {f : α → PyData} {l : List α} {xs : List V} (m : ∀ a, Mono (g a)) (hd : ∀ a v G, g a v G → Dp K G v (f a)) (h : EvL te σ H xs) (hal : Al (l.map g) xs H) : EvD K te σ H (listD f l) := fun H1 e1 Q q =>
  h H1 e1 Q fun p H2 _ e2 h2 => q _ H2 e2 fun H3 e3 => dp_list (Φ := g) (fun a v k => hd a v _ k) ⟨p, xs, rfl, e3 _ _ h2, hal.mono ((e1.trans e2).trans e3) (mem_map_mono m _)⟩
theorem evd_lst {ds : List PyData} {xs : List V} (h : EvL te σ H xs) (hd : ∀ H1, Ex H H1 → DpAll K H1 xs ds) : EvD K te σ H (.list ds) := fun H1 e1 Q q =>
  h H1 e1 Q fun p H2 _ e2 h2 => q _ H2 e2 fun H3 e3 => .lst (sq_of (e3 _ _ h2)) (hd H3 ((e1.trans e2).trans e3))
/-- a loop over a new list -/
theorem q_forNew {gg : TG} {tb tz : TS} {D : Ends} {xs : List V} (h : EvL te σ H xs) (Pv : Addr → Nat → L2.St → Hp → Prop) (h0 : ∀ p H1, Ex H H1 → H p = none → H1 p = some (.lst xs) → Pv p 0 σ H1) (hk : ∀ p i σ' H', Pv p i σ' H' → SqL K H' p xs)
    (turn : ∀ p i x σ' H', i < xs.length → Pv p i σ' H' → xs[i]? = some x → gg x σ' H' fun σ2 H2 => tb { D with nx := Pv p (i + 1), ct := Pv p (i + 1), bk := tz D } σ2 H2) (hd : ∀ p σ' H', Pv p xs.length σ' H' → tz D σ' H') : tSeq (tFor (iList K te) gg tb) tz D σ H := by
  refine h H (Ex.refl _) _ fun p H1 hp e1 h1 => ⟨p, rfl, ⟨xs, sq_of h1⟩, ?_⟩
  refine ⟨fun i k σ' H' => i + k = xs.length ∧ Pv p i σ' H', ⟨xs.length, by omega, h0 p H1 e1 hp h1⟩, fun i k σ' H' hW => ?_⟩
  obtain ⟨hik, hpv⟩ := hW
  have hs := hk _ _ _ _ hpv
  by_cases hi : i < xs.length
  · refine .inr ⟨⟨xs, xs[i], hs, List.getElem?_eq_getElem hi⟩, Pv p (i + 1), fun σ'' H'' hN => ⟨k - 1, by omega, by omega, hN⟩, fun x H3 y => ?_⟩
    obtain ⟨rfl, y2⟩ := y
    exact turn p i x σ' _ hi hpv (y2 xs hs)
  · have hin : i = xs.length := by omega
    subst hin
    exact .inl ⟨⟨xs, hs, Nat.le_refl _⟩, hd p σ' H' hpv⟩
end
/-- triples -/
theorem dp_TR {K : PySem.W.Frag} {t : Nat × Nat × Nat} {v : V} {G : Hp} (h : TR t v G) : Dp K G v (triD t) := by
  obtain ⟨p, rfl, hp⟩ := h
  exact .tup (st_of hp) (.cons (dp_iV _) (.cons (dp_iV _) (.cons (dp_iV _) .nil)))
theorem shaped_T (l : List (Nat × Nat × Nat)) : SeqAt.shaped (listD triD l) = true := shaped_listD triD_lay (fun a => Nat.le_trans (triD_depth a) (by decide)) l
theorem shaped_C (l : List Cab) : SeqAt.shaped (listD cabD l) = true := shaped_listD cabD_lay (fun a => Nat.le_trans (cabD_depth a) (by decide)) l
theorem shaped_c (c : Cab) : SeqAt.shaped (cabD c) = true := shaped_of (k := 1) (cabD_lay c) (cabD_depth c) (by decide)
theorem eqv_T (a b : List (Nat × Nat × Nat)) : PyData.eqv (listD triD a) (listD triD b) = true ↔ a = b := listD_eqv triD_eqv a b
theorem eqv_C (a b : List Cab) : PyData.eqv (listD cabD a) (listD cabD b) = true ↔ a = b := listD_eqv cabD_eqv a b
/-! what is told can be shown -/
theorem ch_lt60 {n k : Nat} (h : n ≤ 60) : ch n k < 2 ^ 64 := Nat.lt_of_le_of_lt (ch_le n k) (Nat.pow_lt_pow_right (by decide) (by omega))
theorem rows_lt {a ao b : Nat} (h : a + ao ≤ 60) {r : Nat × Nat} (hr : r ∈ rows a ao b) : r.1 < 2 ^ 128 ∧ r.2 < 2 ^ 128 := by
  unfold rows at hr
  split at hr
  · rw [List.mem_singleton.mp hr]
    exact ⟨Nat.lt_of_le_of_lt (show a - 1 ≤ 60 by omega) (by decide), by show 1 < 2 ^ 128; decide⟩
  · obtain ⟨h1, _⟩ := List.mem_filter.mp hr
    obtain ⟨x, hx, rfl⟩ := List.mem_map.mp h1
    have hxa := List.mem_range.mp hx
    refine ⟨Nat.lt_of_le_of_lt (show x ≤ 60 by omega) (by decide), ?_⟩
    have p1 := ch_lt60 (n := a - 1) (k := x) (by omega)
    have p2 := ch_lt60 (n := ao - 1) (k := b - x) (by omega)
    show ch (a - 1) x * (if x ≤ b then ch (ao - 1) (b - x) else 0) < 2 ^ 128
    split
    · have : ch (a - 1) x * ch (ao - 1) (b - x) < 2 ^ 64 * 2 ^ 64 := Nat.mul_lt_mul'' p1 p2
      exact Nat.lt_of_lt_of_le this (by decide)
    · rw [Nat.mul_zero]; decide
theorem low_le (t b : Nat) : (low t b).1 ≤ t ∧ (low t b).2 ≤ b := by
  unfold low
  exact ⟨Nat.div_le_self _ _, Nat.div_le_self _ _⟩
theorem tld_lt {kn a ao b : Nat} (h : a + ao ≤ 60) (hk : kn ≤ 60) {t : Nat × Nat × Nat} (ht : t ∈ tld kn a ao b) : t.1 < 2 ^ 129 ∧ t.2.1 < 2 ^ 129 ∧ t.2.2 < 2 ^ 129 := by
  unfold tld at ht
  obtain ⟨r, hr, rfl⟩ := List.mem_map.mp ht
  obtain ⟨r1, r2⟩ := rows_lt h hr
  obtain ⟨l1, l2⟩ := low_le r.2 (bot a ao b)
  have hb : bot a ao b < 2 ^ 129 := by
    unfold bot
    split
    · decide
    · exact Nat.lt_of_le_of_lt (ch_le _ _) (Nat.pow_lt_pow_right (by decide) (by omega))
  have e : (2 : Nat) ^ 129 = 2 ^ 128 + 2 ^ 128 := by decide
  have e2 : (60 : Nat) < 2 ^ 128 := by decide
  simp only
  exact ⟨by omega, by omega, by omega⟩
theorem tld_len {kn a ao b : Nat} (h : a + ao ≤ 60) : (tld kn a ao b).length ≤ 61 := by
  unfold tld rows
  rw [List.length_map]
  split
  · show 1 ≤ 61; decide
  · refine Nat.le_trans (List.length_filter_le _ _) ?_
    rw [List.length_map, List.length_range]; omega
/-- data that repr tells -/
structure Showy (d : PyData) : Prop where
  sh : d.showable = true
  lay : d.canLay0 = true
  dep : d.depth ≤ 64
  len : d.shown.length ≤ sizeLine
theorem showy_tris {l : List (Nat × Nat × Nat)} (h : ∀ t ∈ l, t.1 < 2 ^ 129 ∧ t.2.1 < 2 ^ 129 ∧ t.2.2 < 2 ^ 129) (hl : l.length ≤ 61) : Showy (listD triD l) := by
  have big : (2 : Nat) ^ 129 ≤ 2 ^ 1000 := Nat.pow_le_pow_right (by decide) (by decide)
  refine ⟨showable_list fun t ht => ?_, listD_lay triD_lay, Nat.le_trans (listD_depth (k := 1) triD_depth) (by decide), ?_⟩
  · obtain ⟨a, b, c⟩ := h t ht
    exact showable_tri (Nat.lt_of_lt_of_le a big) (Nat.lt_of_lt_of_le b big) (Nat.lt_of_lt_of_le c big)
  · refine Nat.le_trans (shown_list (B := 3 * 129 + 6) (M := 61) (fun t ht => ?_) hl) (by rw [sizeLine_eq]; decide)
    obtain ⟨a, b, c⟩ := h t ht
    exact shown_tri (by decide) a b c
theorem showy_args {ds gs : List Nat} {L : List Cab} (h1 : ∀ d ∈ ds, d ≤ 10 ^ 30) (h2 : ds.length ≤ 60) (h3 : ∀ d ∈ gs, d ≤ 60) (h4 : gs.length ≤ 60) (h5 : ∀ c ∈ L, c.1 ≤ 60 ∧ c.2 ≤ 60) (h6 : L.length ≤ 60) : Showy (.list [listD natD ds, listD cabD L, listD natD gs]) := by
  have b1 : (10 : Nat) ^ 30 < 2 ^ 129 := by decide
  have b2 : (60 : Nat) < 2 ^ 129 := by decide
  have big : (2 : Nat) ^ 129 ≤ 2 ^ 1000 := Nat.pow_le_pow_right (by decide) (by decide)
  have s1 : (listD natD ds).showable = true := showable_list fun d hd => showable_nat (Nat.lt_of_lt_of_le (Nat.lt_of_le_of_lt (h1 d hd) b1) big)
  have s2 : (listD cabD L).showable = true := showable_list fun c hc => showable_cab (Nat.lt_of_lt_of_le (Nat.lt_of_le_of_lt (h5 c hc).1 b2) big) (Nat.lt_of_lt_of_le (Nat.lt_of_le_of_lt (h5 c hc).2 b2) big)
  have s3 : (listD natD gs).showable = true := showable_list fun d hd => showable_nat (Nat.lt_of_lt_of_le (Nat.lt_of_le_of_lt (h3 d hd) b2) big)
  have l1 := shown_list (f := natD) (l := ds) (B := 129) (M := 60) (fun d hd => shown_nat (by decide) (Nat.lt_of_le_of_lt (h1 d hd) b1)) h2
  have l2 := shown_list (f := cabD) (l := L) (B := 2 * 129 + 4) (M := 60) (fun c hc => shown_cab (by decide) (Nat.lt_of_le_of_lt (h5 c hc).1 b2) (Nat.lt_of_le_of_lt (h5 c hc).2 b2)) h6
  have l3 := shown_list (f := natD) (l := gs) (B := 129) (M := 60) (fun d hd => shown_nat (by decide) (Nat.lt_of_le_of_lt (h3 d hd) b2)) h4
  refine ⟨?_, ?_, ?_, ?_⟩
  · show ((listD natD ds).showable && ((listD cabD L).showable && ((listD natD gs).showable && true))) = true
    rw [s1, s2, s3]; rfl
  · show ((listD natD ds).canLay0 && ((listD cabD L).canLay0 && ((listD natD gs).canLay0 && true))) = true
    rw [listD_lay natD_lay, listD_lay cabD_lay, listD_lay natD_lay]; rfl
  · have a := listD_depth (f := natD) (l := ds) natD_depth
    have b := listD_depth (f := cabD) (l := L) cabD_depth
    have c := listD_depth (f := natD) (l := gs) natD_depth
    simp only [PyData.depth, PyData.depthAll]
    omega
  · have := textFrom_le [(listD natD ds).shown, (listD cabD L).shown, (listD natD gs).shown] 0 20000 "[" fun t ht => by
      simp only [List.mem_cons, List.not_mem_nil, or_false] at ht
      rcases ht with rfl | rfl | rfl <;> omega
    show (listText [(listD natD ds).shown, (listD cabD L).shown, (listD natD gs).shown]).length ≤ _
    unfold listText
    rw [strLen_append, sizeLine_eq]
    have e1 : (("[" : String) : Str).length = 1 := rfl
    have e2 : (("]" : String) : Str).length = 1 := rfl
    simp only [List.length_cons, List.length_nil] at this
    omega
end Ly
end
section
set_option Elab.async false
set_option linter.all false
set_option maxRecDepth 100000
set_option maxHeartbeats 4000000
/-! The walk: small nets. -/
namespace Ly
open PySem PySem.Spec PyProof.Rows L2 Evl Hd Pn
theorem dd_range {n : Nat} {d : Nat → Nat} {x : Nat} (h : x < n) : dd ((List.range n).map d) x = d x := by
  unfold dd
  rw [List.getD_eq_getElem?_getD, List.getElem?_map, List.getElem?_range h]; rfl
/-- the plugs of a word -/
def deal (wd : List Nat) : List Nat := (List.range (wd.length + 2)).map (pw wd)
theorem deal_len (wd : List Nat) : (deal wd).length = wd.length + 2 := by unfold deal; rw [List.length_map, List.length_range]
theorem deal_dd {wd : List Nat} {x : Nat} (h : x < wd.length + 2) : dd (deal wd) x = pw wd x := dd_range h
theorem deal_nets (wd : List Nat) : pyNets wd = (nets (deal wd).length ((deal wd).length - 2) (dd (deal wd))).map srt := by
  unfold pyNets
  rw [deal_len, Nat.add_sub_cancel, nets_congr (n := wd.length + 2) wd.length (d := pw wd) (e := dd (deal wd)) fun x hx => (deal_dd hx).symm]
theorem deal_stt {wd : List Nat} (h : ∀ s ∈ wd, s < wd.length + 2) : Stt (deal wd).length ((deal wd).length - 2) (dd (deal wd)) := by
  have := (beg_nil h).st
  rw [List.length_nil, Nat.sub_zero] at this
  rw [deal_len, Nat.add_sub_cancel]
  exact this.congr fun x hx => (deal_dd hx).symm
theorem deal_pos {wd : List Nat} : ∀ x, x < (deal wd).length → 1 ≤ dd (deal wd) x := fun x hx => by
  rw [deal_len] at hx
  rw [deal_dd hx]
  unfold pw; omega
/-- cables of a net of the word -/
theorem some_sub {wd : List Nat} (h : ∀ s ∈ wd, s < wd.length + 2) {Nn : List Cab} (hN : Nn ∈ pyNets wd) {Lk sub : List Cab} (hp : Lk.Perm sub) (hs : sub.Sublist Nn) : Sub (deal wd).length (dd (deal wd)) Lk ∧ has Lk Nn = true := by
  rw [deal_nets] at hN
  obtain ⟨N0, h0, rfl⟩ := List.mem_map.mp hN
  have nt := nets_nt _ (deal_stt h) N0 h0
  have nd : Lk.Nodup := hp.nodup_iff.mpr (((srt_perm N0).nodup_iff.mpr nt.nodup).sublist hs)
  have mem : ∀ c ∈ Lk, c ∈ srt N0 := fun c hc => hs.subset (hp.mem_iff.mp hc)
  refine ⟨Sub.of_net nt deal_pos nd fun c hc => (srt_perm N0).mem_iff.mp (mem c hc), has_iff.mpr mem⟩
theorem some_net {wd : List Nat} (h : ∀ s ∈ wd, s < wd.length + 2) {Nn : List Cab} (hN : Nn ∈ pyNets wd) (h5 : wd.length ≤ 5) : Nn.length ≤ 60 := by
  rw [deal_nets] at hN
  obtain ⟨N0, h0, rfl⟩ := List.mem_map.mp hN
  have nt := nets_nt _ (deal_stt h) N0 h0
  rw [(srt_perm N0).length_eq]
  have mem := nt.mem
  have nd := nt.nodup
  have e : ∀ c ∈ N0, c ∈ (List.range 7).flatMap fun a => (List.range 7).map fun b => (a, b) := fun c hc => by
    obtain ⟨h1, h2, _⟩ := mem c hc
    rw [deal_len] at h2
    exact List.mem_flatMap.mpr ⟨c.1, List.mem_range.mpr (by omega), List.mem_map.mpr ⟨c.2, List.mem_range.mpr (by omega), rfl⟩⟩
  exact Nat.le_trans (nd_len nd e) (by decide)
theorem pyNets_ne {wd : List Nat} (h : ∀ s ∈ wd, s < wd.length + 2) : 1 ≤ (pyNets wd).length := by
  rw [deal_nets, List.length_map]
  exact List.length_pos_iff.mpr (nets_ne _ (deal_stt h))
theorem pyNets_len {wd : List Nat} (h : ∀ s ∈ wd, s < wd.length + 2) (h5 : wd.length ≤ 5) : (pyNets wd).length ≤ 3125 := by
  rw [pyNets_words h, List.length_map]
  exact words_len wd h5
section
variable {P : Program} {w : World} {K : PySem.W.Frag} {mg : Str → Option Value} {base : Heap}
abbrev N_l_small_right : List Str := ["_law_store_here", "_law_word_here", "_law_deal", "_law_nets_here", "_law_turn", "_law_links", "_law_some", "_law_fit", "_law_due", "_law_numbers_here", "_law_many_here", "_law_part", "_law_kept", "_law_told", "_law_net_here", "_law_pair"]
theorem sc_l_small_right : FnScope N_l_small_right ["_law_store_here"] (defScope s_l_small_right) := ⟨rfl, rfl, rfl, by decide +kernel, rfl, by decide +kernel, by decide +kernel⟩
def limS : Nat := 301 + 4 * 182
def sp_l_small_right : Sp := spS (fun (_ : Unit) st vs _ => vs = [.ref st]) limS fun _ => Is (.bl true)
theorem ok_l_small_right (M : Ms mg) (F : Df K mg "_law_small_right" s_l_small_right) (c_l_pick : Cal P w K mg base 1 "_law_pick" ["_law_store_here", "_law_many_here"] sp_l_pick) (c_l_small : Cal P w K mg base 3 "_law_small" ["_law_store_here", "_law_most"] sp_l_small)
    (c_l_plugs : Cal P w K mg base 1 "_law_plugs" ["_law_word_here"] sp_l_plugs) (c_l_nets : Cal P w K mg base 3 "_law_nets" ["_law_word_here"] sp_l_nets) (c_l_some_cables : Cal P w K mg base 2 "_law_some_cables" ["_law_store_here", "_law_net_here", "_law_wide"] sp_l_some_cables)
    (c_l_some_parts : Cal P w K mg base 2 "_law_some_parts" ["_law_store_here", "_law_parts_here"] sp_l_some_parts) (c_l_parts : Cal P w K mg base 1 "_law_parts" ["_law_many_here", "_law_links"] sp_parts_in) (c_l_fraction : Cal P w K mg base 1 "_law_fraction" ["_law_top", "_law_bottom"] sp_lowest)
    (c_within_shares_with : Cal P w K mg base 7 "within_shares_with" ["plugs", "cables", "group"] sp_within) : CalG P w K mg base 8 "_law_small_right" ["_law_store_here"] sp_l_small_right := by
  refine mk_calG F sc_l_small_right (fun vs H Q E h => ?_)
      (fun _ _ _ _ _ _ us hl => match us, hl with | [_], _ => rfl)
    (fun f cdv A outer s H vs Q E hr gd h => ⟨_,
      (pss_cons (ps_set (i := 1) sc_l_small_right.nd rfl (by first | exact Or.inl rfl | exact Or.inr rfl) (pe_cal c_l_small hr (pa_cons (pv 0) (pa_cons pe_int pa_nil))))
        (pss_cons (ps_par (i := 2) (j := 3) (by rfl) sc_l_small_right.nd rfl rfl (by decide) rfl rfl (pa_cons (pe_cal c_l_plugs hr (pa_cons (pv 1) pa_nil)) (pa_cons (pe_cal c_l_nets hr (pa_cons (pv 1) pa_nil)) pa_nil)) (by rfl))
        (pss_cons (ps_for PassesOwn.never rfl (pi_range1 rfl M.range (pa_cons pe_int pa_nil)) (pg_name (i := 4) sc_l_small_right.nd rfl (by first | exact Or.inl rfl | exact Or.inr rfl))
          (pss_cons (ps_set (i := 5) sc_l_small_right.nd rfl (by first | exact Or.inl rfl | exact Or.inr rfl) (pe_cal c_l_some_cables hr (pa_cons (pv 0) (pa_cons (pe_ix ix_list (pv 3) (pe_cal c_l_pick hr (pa_cons (pv 0) (pa_cons (pe_callB call_len_seq (by rfl) M.len PySem.boot_len (pa_cons (pv 3) pa_nil)) pa_nil))) (fun _ _ => rfl)) (pa_cons (pe_op op_add pe_int (pv 4)) pa_nil)))))
        (pss_cons (ps_set (i := 6) sc_l_small_right.nd rfl (by first | exact Or.inl rfl | exact Or.inr rfl) (pe_cal c_l_some_parts hr (pa_cons (pv 0) (pa_cons (pe_cal c_l_parts hr (pa_cons (pe_callB call_len_seq (by rfl) M.len PySem.boot_len (pa_cons (pv 2) pa_nil)) (pa_cons (pv 5) pa_nil))) pa_nil))))
        (pss_cons (ps_par (i := 7) (j := 8) (by rfl) sc_l_small_right.nd rfl rfl (by decide) rfl rfl (pa_cons (pe_lc (own := [("_law_net_here", 14)]) rfl sc_l_small_right.nd (pi_list (pv 3)) (blkOk_by (own := [("_law_net_here", 14)]) (N := N_l_small_right) (sc := defScope s_l_small_right) (by decide +kernel)) (fun _ _ _ _ _ => (pg_name (i := 14) sc_l_small_right.nd rfl (by first | exact Or.inl rfl | exact Or.inr rfl))) (fun _ _ _ _ _ => pts_one (pt_cmpR (show OpR _ _ (rEqD K) from (op_eqD hr.units)) (pe_lc (own := [("_law_pair", 15)]) rfl sc_l_small_right.nd (show PI _ _ _ (iList K _) from pi_list (pv 5)) (blkOk_by (by kernel_rfl)) (fun _ _ _ _ _ => (pg_name (i := 15) sc_l_small_right.nd rfl (by first | exact Or.inl rfl | exact Or.inr rfl))) (fun _ _ _ _ _ => pts_one (pt_cmpR (show OpR _ _ (rNotInD K) from (op_notInD (hr2 hr))) (pv 15) (pv 14) (by rfl))) (fun _ _ _ _ _ => (pv 15))) (pe_lst pa_nil) (nomark _))) (fun _ _ _ _ _ => (pv 14))) (pa_cons (pe_lst pa_nil) pa_nil)) (by rfl))
        (pss_cons (ps_setLc (i := 9) (own := [("_law_net_here", 14)]) (tt := tYes) rfl sc_l_small_right.nd rfl rfl (sw_true rfl rfl rfl (by decide +kernel)) (pi_list (pv 7)) (blkOk_by (own := [("_law_net_here", 14)]) (N := N_l_small_right) (sc := defScope s_l_small_right) (by decide +kernel)) (fun _ _ _ _ _ => (pg_name (i := 14) sc_l_small_right.nd rfl (by first | exact Or.inl rfl | exact Or.inr rfl))) (fun _ _ _ _ _ => pts_nil) (fun _ _ _ _ _ => (pe_callB (show CallR _ _ (rLenS K) from call_len_seq) (by rfl) M.len PySem.boot_len (pa_cons (pe_lc (own := [("_law_pair", 15)]) rfl sc_l_small_right.nd (show PI _ _ _ (iList K _) from pi_list (pv 14)) (blkOk_by (by kernel_rfl)) (fun _ _ _ _ _ => (pg_name (i := 15) sc_l_small_right.nd rfl (by first | exact Or.inl rfl | exact Or.inr rfl))) (fun _ _ _ _ _ => pts_one (PW.pt (pw_and (pt_cmpR (show OpR _ _ (rIn K false) from op_in_seq) (pe_ix (show IxR _ (rIxT K) from ix_tup) (pv 15) pe_int (fun _ _ => rfl)) (pv 6) (by rfl)) (pw_and1 (pt_cmpR (show OpR _ _ (rIn K false) from op_in_seq) (pe_ix (show IxR _ (rIxT K) from ix_tup) (pv 15) pe_int (fun _ _ => rfl)) (pv 6) (by rfl)))))) (fun _ _ _ _ _ => (pv 15))) pa_nil))))
        (pss_cons (ps_for PassesOwn.never rfl (pi_list (pe_callB (cr_sortedSet rfl) (by rfl) M.sorted (by decide +kernel) (pa_cons (pe_callTy (cr_setL2 rfl) (by rfl) M.set (by decide +kernel) (pa_cons (pv 9) pa_nil)) pa_nil))) (pg_name (i := 10) sc_l_small_right.nd rfl (by first | exact Or.inl rfl | exact Or.inr rfl))
          (pss_cons (ps_set (i := 11) sc_l_small_right.nd rfl (by first | exact Or.inl rfl | exact Or.inr rfl) (pe_cal c_l_fraction hr (pa_cons (pe_bm PySem.F.plainAttrs_list PySem.F.slot_list_count PySem.F.type_list_count mt_lcount (pv 9) (pa_cons (pv 10) pa_nil)) (pa_cons (pe_callB call_len_seq (by rfl) M.len PySem.boot_len (pa_cons (pv 7) pa_nil)) pa_nil))))
        (pss_one (ps_expr (pe_bm PySem.F.plainAttrs_list PySem.F.slot_list_append PySem.F.type_list_append mt_append (pv 8) (pa_cons (pe_tup (pa_cons (pv 10) (pa_cons (pe_ix ix_tup (pv 11) pe_int (fun _ _ => rfl)) (pa_cons (pe_ix ix_tup (pv 11) pe_int (fun _ _ => rfl)) pa_nil)))) pa_nil))))))
        (pss_cons (ps_set (i := 12) sc_l_small_right.nd rfl (by first | exact Or.inl rfl | exact Or.inr rfl) (pe_callB (cr_repr gd (hr2 hr)) (by rfl) M.repr (by decide +kernel) (pa_cons (pe_lst (pa_cons (pv 2) (pa_cons (pv 5) (pa_cons (pv 6) pa_nil)))) pa_nil)))
        (pss_cons (ps_set (i := 13) sc_l_small_right.nd rfl (by first | exact Or.inl rfl | exact Or.inr rfl) (pe_cal c_within_shares_with hr (pa_cons (pv 2) (pa_cons (pv 5) (pa_cons (pv 6) pa_nil)))))
        (pss_cons (ps_if (PW.pt (pw_or (pt_cmpR op_ne (pe_callB (cr_repr gd (hr2 hr)) (by rfl) M.repr (by decide +kernel) (pa_cons (pv 13) pa_nil)) (pe_callB (cr_repr gd (hr2 hr)) (by rfl) M.repr (by decide +kernel) (pa_cons (pv 8) pa_nil)) (nomark _)) (pw_or1 (pt_cmpR op_ne (pe_callB (cr_repr gd (hr2 hr)) (by rfl) M.repr (by decide +kernel) (pa_cons (pe_lst (pa_cons (pv 2) (pa_cons (pv 5) (pa_cons (pv 6) pa_nil)))) pa_nil)) (pv 12) (nomark _)))))
          (pss_one (ps_ret pe_bl))
          pss_nil)
        (pss_cons (ps_expr (pe_bm PySem.F.plainAttrs_list PySem.F.slot_list_append PySem.F.type_list_append mt_append (pv 13) (pa_cons pe_non pa_nil)))
        (pss_one (ps_if (pt_cmpR (op_neD hr.units) (pe_cal c_within_shares_with hr (pa_cons (pv 2) (pa_cons (pv 5) (pa_cons (pv 6) pa_nil)))) (pv 8) (nomark _))
          (pss_one (ps_ret pe_bl))
          pss_nil))))))))))))
        (pss_one (ps_ret pe_bl)))))
    , ?_⟩)
  · obtain ⟨_, _, _, rfl, _⟩ := h; rfl
  · obtain ⟨_, st, N, rfl, hs, hN, q⟩ := h
    simp only at q
    unfold limS at hN q
    refine cm_call (st := st) (lim := 301) (Φ := fun _ => SmW) () (fun v G G' e ⟨w, a, b, c⟩ => ⟨w, a, b, mono_NL _ _ _ e c⟩) (ea_cons (ev_var rfl) (ea_cons (ev_c (v := iV 60)) ea_nil)) (fun _ _ => rfl) hs (by omega) fun v H1 e1 s1 hv => ?_
    obtain ⟨wd, hw5, hwn, wa, rfl, hwa⟩ := hv
    have hwa2 := newp_is hwa
    dsimp only [gName]
    refine q_parP (Φ := IsL (fl (wd.length + 2) (pw wd))) (Ψ := CLs (pyNets wd)) (epa_cons mono_L (mono1 (mono_LL (mem_map_mono (fun _ => mono_CL) _))) (evp_call (wa, wd) mono_L (ea_cons (ev_var rfl) ea_nil) fun H2 e => ⟨rfl, e _ _ hwa2.2, by show wd.length ≤ 60; omega⟩)
      (epa_cons (mono_LL (mem_map_mono (fun _ => mono_CL) _)) (fun _ h => nomatch h) (evp_call (wa, wd) (mono_LL (mem_map_mono (fun _ => mono_CL) _)) (ea_cons (ev_var rfl) ea_nil) fun H2 e => ⟨rfl, e _ _ hwa2.2, hw5, hwn⟩) epa_nil)) fun x y H2 e2 hx hy => ?_
    obtain ⟨da, rfl, hda⟩ := hx
    obtain ⟨na, nv, rfl, hna, hnal⟩ := hy
    obtain ⟨so, hso⟩ := s1.some
    have s2 := s1.mono e2
    have e02 := e1.trans (.of e2)
    have hda2 : del H2 st da = some (.lst ((deal wd).map iV)) := by
      have := new_dd hso _ _ hda
      rw [this]; unfold deal; rw [fl_map]
    have hna2 := new_dd hso _ _ hna
    have hnal2 := hnal.mono (new_dd hso) (mem_map_mono (fun _ => mono_CL) _)
    have hnl := hnal.length
    rw [List.length_map] at hnl
    have hN1 := pyNets_ne hwn
    have hN5 := pyNets_len hwn hw5
    have hdl := deal_len wd
    generalize hdd : deal wd = ds at *
    generalize hpy : pyNets wd = Ns at *
    have frame : ∀ {H'}, Es st H2 H' → Ex (del H2 st) (del H' st) := fun e => e.dd
    refine q_for (itw_range1 (n := 4) (ea_cons (ev_c (v := .int 4)) ea_nil) (by decide))
      (fun i σ' H' => ∃ y4 y5 y6 y7 y8 y9 y10 y11 y12 y13 : Option V, σ' = [some (.ref st), some (.ref wa), some (.ref da), some (.ref na), y4, y5, y6, y7, y8, y9, y10, y11, y12, y13, none, none] ∧ Es st H2 H' ∧ Sto H' st (N + 301 + 182 * i))
      (fun H3 e3 => ⟨none, none, none, none, none, none, none, none, none, none, rfl, .of e3, s2.mono e3⟩) (fun _ _ _ _ => trivial) (fun i x σ' H' H3 hi hwv e3 hx => ?_) (fun σ' H' hwv => ?_)
    · obtain ⟨y4, y5, y6, y7, y8, y9, y10, y11, y12, y13, rfl, ex, sx⟩ := hwv
      subst hx
      have ex3 := ex.trans (.of e3)
      have s3 := sx.mono e3
      -- known cables
      refine ⟨.ref st, rfl, .ref na, rfl, ?_⟩
      refine cm_pick (st := st) (n := Ns.length) (ea_cons (ev_var rfl) (ea_cons (ev_is (ev_len0 (K := K) (ev_var rfl) (sq_of (frame ex3 _ _ hna2))) (by rw [hnl]; rfl)) ea_nil)) hN1 (by omega) s3 (by omega) fun r H4 hr e4 s4 => ?_
      have ex4 := ex3.trans e4
      have hrv : nv[r]? = some (nv[r]'(by omega)) := List.getElem?_eq_getElem (by omega)
      obtain ⟨Nn, hNr, hNv⟩ := al_item hnal2 hrv
      have hNm : Nn ∈ Ns := List.mem_of_getElem? hNr
      refine rv_ixL (K := K) (sq_of (del_ex _ _ (frame ex4 _ _ hna2))) (atI_nat hrv) H4 (Ex.refl _) _ fun H5 e5 => ?_
      refine (ea_cons (ev_addN (ev_c (v := iV 1)) (ev_var (v := iV i) rfl)) ea_nil) H5 (Ex.refl _) _ fun H6 e6 => ?_
      have ex6 := ex4.trans (.of (e5.trans e6))
      have s6 := s4.mono (e5.trans e6)
      obtain ⟨nr, hnr⟩ := LL.ref hNv
      rw [hnr] at hNv ⊢
      have hNlen : Nn.length ≤ 60 := some_net hwn (by rw [hpy]; exact hNm) hw5
      refine ⟨(nr, Nn, 1 + i), st, N + 301 + 182 * i + 1, ⟨rfl, mono_CL _ _ _ (frame ex6) hNv, hNlen, by show 1 ≤ 1 + i; omega, by show 1 + i ≤ 100; omega⟩, s6, by omega, fun v H7 e7 s7 hv => ?_⟩
      obtain ⟨Lk, sub, hLk, hperm, hsubl⟩ := hv
      obtain ⟨la, rfl⟩ := LL.ref hLk
      have ex7 := ex6.trans e7
      obtain ⟨hSub, hhas⟩ := some_sub hwn (by rw [hpy]; exact hNm) hperm hsubl
      rw [hdd] at hSub
      dsimp only [gName]
      simp only at hsubl hhas hperm
      have n60 : ds.length ≤ 60 := by omega
      have hda7 : H7 da = some (.lst (ds.map iV)) := del_ex _ _ (frame ex7 _ _ hda2)
      -- the group
      refine ⟨.ref st, rfl, ?_⟩
      refine (evp_call (E := E0) (α := Nat × Addr × List Cab) (ar := fun z vs H => vs = [iV z.1, .ref z.2.1] ∧ z.1 ≤ 60 ∧ CL z.2.2 (.ref z.2.1) H ∧ InN z.1 z.2.2) (Φ := fun z => NLs (cls (lab z.2.2) z.1)) (ds.length, la, Lk) mono_NLs (ea_cons (ev_is (ev_len0 (K := K) (ev_var rfl) (sq_of hda7)) (by rw [List.length_map]; rfl)) (ea_cons (ev_var rfl) ea_nil)) fun H8 e => ⟨rfl, n60, mono_CL _ _ _ (del_ex.trans e) hLk, hSub.mem⟩) H7 (Ex.refl _) _ fun v H8 e8 hv => ?_
      obtain ⟨pa, rfl⟩ := LL.ref hv
      obtain ⟨so7, hso7⟩ := s7.some
      refine ⟨(pa, ds.length, Lk), st, N + 301 + 182 * i + 1 + 120, ⟨rfl, mono_NLs _ _ _ (new_dd hso7) hv, by show 1 ≤ ds.length; omega, n60⟩, s7.mono e8, by omega, fun v G e9 s9 hv => ?_⟩
      obtain ⟨sel, ⟨rr, hrr1, hrr2, hrr3⟩, sa, rfl, hsa⟩ := hv
      have e7G : Es st H7 G := (Es.of e8).trans e9
      have exG : Es st H2 G := ex7.trans e7G
      dsimp only [gName]
      have hDa : G da = some (.lst (ds.map iV)) := del_ex _ _ (frame exG _ _ hda2)
      have hNa : G na = some (.lst nv) := del_ex _ _ (frame exG _ _ hna2)
      have hNal : Al (Ns.map CL) nv G := hnal2.mono ((frame exG).trans del_ex) (mem_map_mono (fun _ => mono_CL) _)
      obtain ⟨lv, hLa⟩ := CLa.of (mono_CL _ _ _ (e7G.dd.trans del_ex) hLk)
      have hLv := hLa.len
      have hLkl : Lk.length ≤ 60 := by have := hSub.len; omega
      have hSa : G sa = some (.lst ((gr ds.length Lk sel).map iV)) := (newp_is hsa).2
      have hcA : 1 ≤ cA ds.length (dd ds) (lab Lk) sel := by
        rw [hSub.cA]
        refine Nat.le_trans ?_ (S_ge hrr1)
        rw [hrr2, hrr3]; simp
      have hArg : ∀ G', Ex G G' → Arg G' da la ds Lk := fun G' e => ⟨⟨e _ _ hDa, by omega, n60, fun d hd => by
        rw [← hdd] at hd
        unfold deal at hd
        obtain ⟨x, _, rfl⟩ := List.mem_map.mp hd
        unfold pw
        have : wd.count x ≤ wd.length := List.count_le_length
        have : (60 : Nat) ≤ 10 ^ 30 := by decide
        omega⟩, (hLa.mono e).back, hSub⟩
      have hGrp : ∀ G', Ex G G' → Grp G' sa ds Lk sel := fun G' e => ⟨e _ _ hSa, hcA⟩
      have grl : (gr ds.length Lk sel).length ≤ 60 := ((hGrp G (Ex.refl _)).isGr hSub n60).len
      have fitC := el_keepG (K := K) (g := CL) (l := Ns) (tl := tVar 3) (i := 14) (σ := [some (.ref st), some (.ref wa), some (.ref da), some (.ref na), some (iV i), some (.ref la), some (.ref sa), y7, y8, y9, y10, y11, y12, y13, none, none]) (H := G) (tt := tTest (tOp (rEqD K) (tLc (iList K (tVar 5)) (gName 15) (tTest (tOp (rNotInD K) (tVar 15) (tVar 14))) (tVar 15) [15]) (tLst tNil))) (fun _ => mono_CL) (has Lk) (ev_var rfl) hNa hNal (by omega) (fun _ => rfl) (fun _ => rfl) fun Nm x hNm' G1 e hx => by
        obtain ⟨pm, rfl⟩ := LL.ref hx
        have hL1 := hLa.mono e
        have inner := el_keepG (K := K) (g := CB) (l := Lk) (tl := tVar 5) (i := 15) (σ := [some (.ref st), some (.ref wa), some (.ref da), some (.ref na), some (iV i), some (.ref la), some (.ref sa), y7, y8, y9, y10, y11, y12, y13, some (.ref pm), none]) (H := G1) (tt := tTest (tOp (rNotInD K) (tVar 15) (tVar 14))) (fun _ => mono_CB) (fun c => !decide (c ∈ Nm)) (ev_var rfl) hL1.1 hL1.2 (by omega) (fun _ => rfl) (fun _ => rfl) fun c y hc G2 e2 hy => et_is (et_test (ev_notInD (ds := Nm.map cabD) (evd_val (d := cabD c) (ev_var rfl) fun G3 e3 => dp_CB (mono_CB _ _ _ e3 hy)) (evd_val (d := listD cabD Nm) (ev_var rfl) fun G3 e3 => dp_CL (mono_CL _ _ _ (e2.trans e3) hx)) (shaped_c c) (shaped_C Nm))) (by
          congr 1
          rw [Bool.eq_iff_iff, any_iff cabD_eqv, decide_eq_true_eq])
        refine et_is (et_test (ev_eqD (evd_al (f := cabD) (g := CB) (l := Lk.filter fun c => !decide (c ∈ Nm)) (fun _ => mono_CB) (fun a v G' h => dp_CB h) inner (al_filter _ hL1.2)) evd_nil (shaped_C _) rfl)) ?_
        rw [show (PyData.list []) = listD cabD [] from rfl, eqv_dec eqv_C, Bool.eq_iff_iff, decide_eq_true_eq, List.filter_eq_nil_iff, has_iff]
        constructor
        · intro h c hc
          have := h c hc
          simpa using this
        · intro h c hc
          have := h c hc
          simpa using this
      have hfal := al_filter (g := CL) (has Lk) hNal
      generalize hfv : ((Ns.zip nv).filter fun z => has Lk z.1).map (·.2) = fv at fitC hfal
      refine q_parP (Φ := IsL fv) (Ψ := LL []) (epa_cons mono_L (mono1 (mono_LL fun _ h => nomatch h)) (evp_ofL fitC) (epa_cons (mono_LL fun _ h => nomatch h) (fun _ h => nomatch h) (evp_lst (fun _ h => nomatch h) epa_nil (Nat.zero_le _)) epa_nil)) fun x y G2 g2 hx hy => ?_
      obtain ⟨fa, rfl, hfa⟩ := hx
      obtain ⟨dp, dv0, rfl, hdp, hdal⟩ := hy
      cases hdal
      have hfa2 := newp_is hfa
      have hdp2 := newp_is hdp
      have hfit : ∃ fits, fits = Ns.filter (has Lk) := ⟨_, rfl⟩
      obtain ⟨fits, hfits⟩ := hfit
      rw [← hfits] at hfal
      have hfl := hfal.length
      rw [List.length_map] at hfl
      have hfne : fits ≠ [] := by
        have : Nn ∈ fits := by rw [hfits]; exact List.mem_filter.mpr ⟨hNm, hhas⟩
        intro e
        rw [e] at this; cases this
      have hfle : fits.length ≤ 3125 := by rw [hfits]; exact Nat.le_trans (List.length_filter_le _ _) hN5
      have hfm : ∀ M ∈ fits, M.length ≤ 60 := fun M hM => by
        rw [hfits] at hM
        exact some_net hwn (by rw [hpy]; exact (List.mem_filter.mp hM).1) hw5
      have hfal2 := hfal.mono g2 (mem_map_mono (fun _ => mono_CL) _)
      have hSa2 : SqL K G2 sa ((gr ds.length Lk sel).map iV) := sq_of (g2 _ _ hSa)
      -- the numbers
      refine q_asgL (el_mapG (K := K) (g := CL) (l := fits) (fun _ => mono_CL) (within ds.length Lk sel) (ev_var rfl) hfa2.2 hfal2 (by omega) (fun _ => rfl) fun M x hM G3 g3 hx => ?_) fun ba G3 hba g3 h3 => ?_
      · obtain ⟨pm, mv, rfl, hpm, hmal⟩ := hx
        have hml := hmal.length
        rw [List.length_map] at hml
        have hM60 := hfm M hM
        refine ev_is (ev_lenL (K := K) (el_keepG (K := K) (g := CB) (l := M) (fun _ => mono_CB) (fun c => (gr ds.length Lk sel).contains c.1 && (gr ds.length Lk sel).contains c.2) (ev_var rfl) hpm hmal (by omega) (fun _ => rfl) (fun _ => rfl) fun c x hc G4 g4 hx => ?_)) ?_
        · obtain ⟨t, rfl, ht⟩ := hx
          exact et_and (et_is (et_test (ev_op (ev_op (ev_var rfl) ev_c (rv_ixT (K := K) (st_of ht) (atI_nat (j := 0) rfl))) (ev_var rfl) (rv_isL (K := K) (ex_l (g3.trans g4) hSa2) rfl (flat_iV _)))) (by rw [List.contains_eq_mem]; exact inV_dec)) fun _ => et_is (et_test (ev_op (ev_op (ev_var rfl) ev_c (rv_ixT (K := K) (st_of ht) (atI_nat (j := 1) rfl))) (ev_var rfl) (rv_isL (K := K) (ex_l (g3.trans g4) hSa2) rfl (flat_iV _)))) (by rw [List.contains_eq_mem]; exact inV_dec)
        · have := (al_filter (g := CB) (fun c : Cab => (gr ds.length Lk sel).contains c.1 && (gr ds.length Lk sel).contains c.2) hmal).length
          rw [this, List.length_map]; rfl
      have h0 : G dp = none := hdp2.1
      have g02 := g2
      have g03 := g2.trans g3
      generalize hnums : fits.map (within ds.length Lk sel) = nums at h3
      have hnl60 : ∀ k ∈ nums, k < 61 := fun k hk => by
        rw [← hnums] at hk
        obtain ⟨M, hM, rfl⟩ := List.mem_map.mp hk
        have := hfm M hM
        unfold within
        have := List.length_filter_le (fun c : Cab => (gr ds.length Lk sel).contains c.1 && (gr ds.length Lk sel).contains c.2) M
        omega
      have hnumsl : nums.length = fits.length := by rw [← hnums, List.length_map]
      have husm : ∀ j, j ∈ (List.range 61).filter (fun j => decide (j ∈ nums)) ↔ j ∈ nums := fun j => by
        rw [List.mem_filter, List.mem_range, decide_eq_true_eq]
        exact ⟨fun h => h.2, fun h => ⟨hnl60 j h, h⟩⟩
      have husa : ((List.range 61).filter (fun j => decide (j ∈ nums))).Pairwise (· < ·) := range_asc _ _
      have husl := List.length_filter_le (fun j => decide (j ∈ nums)) (List.range 61)
      rw [List.length_range] at husl
      generalize (List.range 61).filter (fun j => decide (j ∈ nums)) = us at husm husa husl
      have tris := sub_small hSub hcA (py := Ns) (fit := fits) (by rw [← hpy, ← hdd]; exact deal_nets wd) hfits hfne hnums.symm husa husm
      have hba3 : G3 ba = some (.lst (nums.map iV)) := h3
      have fane : fa ≠ dp := fun e => by
        have h1 := hfa2.2
        rw [e, hdp2.2] at h1
        have := congrArg List.length (HO.lst.inj (Option.some.inj h1))
        rw [hfl] at this
        exact hfne (List.length_eq_zero_iff.mp this.symm)
      have bane : ba ≠ dp := fun e => by rw [e, hdp2.2] at hba; cases hba
      have hdp3 : G3 dp = some (.lst []) := g3 _ _ hdp2.2
      refine q_forNew (K := K) (el_sortedSet2 (K := K) (ks := nums) (us := us) (m := List.range 61) (ev_var rfl) (sq_of hba3) husa husm (by omega) (fun k hk => List.mem_range.mpr (hnl60 k hk)) (by rw [List.length_range]; decide))
        (fun p j σ' G' => ∃ (z10 z11 : Option V) (dvs : List V), σ' = [some (.ref st), some (.ref wa), some (.ref da), some (.ref na), some (iV i), some (.ref la), some (.ref sa), some (.ref fa), some (.ref dp), some (.ref ba), z10, z11, y12, y13, none, none] ∧ Es dp G3 G' ∧ G' p = some (.lst (us.map iV)) ∧ p ≠ dp ∧ G' dp = some (.lst dvs) ∧ Al (((us.take j).map fun u => (u, low (nums.count u) fits.length)).map TR) dvs (del G' dp))
        (fun p G4 g4 hp hp4 => ⟨y10, y11, [], rfl, .of g4, hp4, (fun e => by rw [e, hdp3] at hp; cases hp), g4 _ _ hdp3, .nil⟩) (fun p j σ' G' ⟨_, _, _, _, _, h, _⟩ => sq_of h) (fun p j x σ' G' hj hwv hx => ?_) (fun p σ' G4 hwv => ?_)
      · obtain ⟨z10, z11, dvs, rfl, es, hp, pne, hD, hal⟩ := hwv
        rw [List.length_map] at hj
        rw [List.getElem?_map, List.getElem?_eq_getElem hj] at hx
        cases hx
        have ba' : G' ba = some (.lst (nums.map iV)) := es_at es bane hba3
        have fa' : G' fa = some (.lst fv) := es_at es fane (g3 _ _ hfa2.2)
        refine q_asgP (evp_call (nums.count us[j], fits.length) mono_U (ea_cons (ev_countN (K := K) (ev_var rfl) (sq_of ba') (ev_var (v := iV us[j]) rfl)) (ea_cons (ev_is (ev_len0 (K := K) (ev_var rfl) (sq_of fa')) (by rw [hfl]; rfl)) ea_nil)) fun G5 g5 => ⟨rfl, List.length_pos_iff.mpr hfne, Nat.lt_of_le_of_lt hfle (by decide)⟩) fun v G5 g5 hv => ?_
        obtain ⟨pp, rfl, hpp⟩ := hv
        have hpp2 := newp_is hpp
        have hD5 := g5 _ _ hD
        have dl : dvs.length ≤ 61 := by
          rw [hal.length, List.length_map, List.length_map, List.length_take]; omega
        refine s_appU hD5 (ev_var rfl) (eu_tup (ea_cons (ev_var (v := iV us[j]) rfl) (ea_cons (ev_op (ev_var rfl) ev_c (rv_ixT (K := K) (st_of hpp2.2) (atI_nat (j := 0) rfl))) (ea_cons (ev_op (ev_var rfl) ev_c (rv_ixT (K := K) (st_of hpp2.2) (atI_nat (j := 1) rfl))) ea_nil))) (by show 3 ≤ 100000; decide)) (by omega) fun t G6 ht g6 h6 => ?_
        have g56 := g5.trans g6
        have tne : t ≠ dp := fun e => by rw [e, hD5] at ht; cases ht
        refine ⟨some (iV us[j]), some (.ref pp), dvs ++ [.ref t], rfl, es.trans (es_upd g56), by rw [upd_ne pne]; exact g56 _ _ hp, pne, upd_same, ?_⟩
        rw [List.take_add_one, List.getElem?_eq_getElem hj, List.map_append, List.map_append, del_upd]
        exact (hal.mono (del_mono g56) (mem_map_mono (fun _ => mono_TR) _)).append (.cons ⟨t, rfl, by rw [del_ne tne]; exact h6⟩ .nil)
      · obtain ⟨z10, z11, dvs, rfl, es, hp, pne, hD, hal⟩ := hwv
        rw [List.length_map, List.take_length, tris] at hal
        have gG4 : Ex G G4 := (ex_del g03 h0).trans es
        have eG4 : Es st H2 G4 := exG.trans (.of gG4)
        have s4' := s9.mono gG4
        have hal' : Al ((told ds Lk sel).map TR) dvs G4 := hal.mono del_ex (mem_map_mono (fun _ => mono_TR) _)
        have two := hSub.parts_two (s := sel)
        have cle := hSub.cls_le
        have hkn : known ds.length Lk sel ≤ 60 := by
          unfold known
          exact Nat.le_trans (List.length_filter_le _ _) hLkl
        have showT : Showy (listD triD (told ds Lk sel)) := showy_tris (fun t ht => tld_lt (by omega) hkn ht) (tld_len (by omega))
        have showA : Showy (.list [listD natD ds, listD cabD Lk, listD natD (gr ds.length Lk sel)]) := showy_args (fun d hd => (hArg G (Ex.refl _)).pl.2.2.2 d hd) n60 (fun d hd => by have := (gr_mem.mp hd).1; omega) grl (fun c hc => by have := hSub.mem c hc; omega) hLkl
        have argsD : ∀ (σ : L2.St) (G5 : Hp), Ex G G5 → σ[2]? = some (some (.ref da)) → σ[5]? = some (some (.ref la)) → σ[6]? = some (some (.ref sa)) → EvD K (tLst (tCons (tVar 2) (tCons (tVar 5) (tCons (tVar 6) tNil)))) σ G5 (.list [listD natD ds, listD cabD Lk, listD natD (gr ds.length Lk sel)]) := fun σ G5 e a1 a2 a3 =>
          evd_lst (el_lst (ea_cons (ev_var a1) (ea_cons (ev_var a2) (ea_cons (ev_var a3) ea_nil))) (by show 3 ≤ 100000; decide)) fun G6 e6 => .cons (dp_NL ⟨da, rfl, (e.trans e6) _ _ hDa⟩) (.cons (dp_CL (hLa.mono (e.trans e6)).back) (.cons (dp_NL ⟨sa, rfl, (e.trans e6) _ _ hSa⟩) .nil))
        refine q_asg (ev_repr (K := K) (argsD _ G4 gG4 rfl rfl rfl) (fun _ _ h => dp_ref h) showA.sh showA.lay showA.dep showA.len) fun G5 g5 => ?_
        have gG5 := gG4.trans g5
        refine q_asgP (evp_call (da, la, sa, ds, Lk, sel) (mono_LL (mem_map_mono (fun _ => mono_TR) _)) (ea_cons (ev_var rfl) (ea_cons (ev_var rfl) (ea_cons (ev_var rfl) ea_nil))) fun G6 e => ⟨rfl, hArg _ (gG5.trans e), hGrp _ (gG5.trans e)⟩) fun v G6 g6 hv => ?_
        obtain ⟨ta, tv, rfl, hta, htal⟩ := hv
        have hta2 := newp_is hta
        simp only at htal
        have htal2 := htal.mono newp_ex (mem_map_mono (fun _ => mono_TR) _)
        have gG6 := gG5.trans g6
        have g46 := g5.trans g6
        have toldD : ∀ (σ : L2.St) (G7 : Hp), Ex G6 G7 → σ[13]? = some (some (.ref ta)) → EvD K (tVar 13) σ G7 (listD triD (told ds Lk sel)) := fun σ G7 e a => evd_val (ev_var a) fun G8 e8 => dp_list (Φ := TR) (fun _ _ h => dp_TR h) ⟨ta, tv, rfl, (e.trans e8) _ _ hta2.2, htal2.mono (e.trans e8) (mem_map_mono (fun _ => mono_TR) _)⟩
        have againD : ∀ (σ : L2.St) (G7 : Hp), Ex G G7 → σ[2]? = some (some (.ref da)) → σ[5]? = some (some (.ref la)) → σ[6]? = some (some (.ref sa)) → EvD K (tCall sp_within [] E0 (tCons (tVar 2) (tCons (tVar 5) (tCons (tVar 6) tNil)))) σ G7 (listD triD (told ds Lk sel)) := fun σ G7 e a1 a2 a3 =>
          evd_new (Φ := LL ((told ds Lk sel).map TR)) (mono_LL (mem_map_mono (fun _ => mono_TR) _)) (evp_call (da, la, sa, ds, Lk, sel) (mono_LL (mem_map_mono (fun _ => mono_TR) _)) (ea_cons (ev_var a1) (ea_cons (ev_var a2) (ea_cons (ev_var a3) ea_nil))) fun G9 e9 => ⟨rfl, hArg _ (e.trans e9), hGrp _ (e.trans e9)⟩) fun v G' h => dp_list (Φ := TR) (fun _ _ h => dp_TR h) h
        have dueD : ∀ (σ : L2.St) (G7 : Hp), Ex G4 G7 → σ[8]? = some (some (.ref dp)) → EvD K (tVar 8) σ G7 (listD triD (told ds Lk sel)) := fun σ G7 e a => evd_val (ev_var a) fun G8 e8 => dp_list (Φ := TR) (fun _ _ h => dp_TR h) ⟨dp, dvs, rfl, (e.trans e8) _ _ hD, hal'.mono (e.trans e8) (mem_map_mono (fun _ => mono_TR) _)⟩
        refine q_when (b := false) (et_is (et_or (et_test (ev_op (ev_repr (K := K) (toldD _ G6 (Ex.refl _) rfl) (fun _ _ h => dp_ref h) showT.sh showT.lay showT.dep showT.len) (ev_repr (K := K) (dueD _ G6 g46 rfl) (fun _ _ h => dp_ref h) showT.sh showT.lay showT.dep showT.len) (rv_ne rfl))) fun _ => et_test (ev_op (ev_repr (K := K) (argsD _ G6 gG6 rfl rfl rfl) (fun _ _ h => dp_ref h) showA.sh showA.lay showA.dep showA.len) (ev_var rfl) (rv_ne rfl))) (by rw [decide_eq_true rfl, decide_eq_true rfl]; rfl)) (fun z => Bool.noConfusion z) fun _ G7 g7 => ?_
        refine q_app (g7 _ _ hta2.2) (ev_var rfl) ev_c (by
          rw [htal.length, List.length_map]
          have := tld_len (kn := known ds.length Lk sel) (a := cA ds.length (dd ds) (lab Lk) sel) (ao := cA ds.length (dd ds) (lab Lk) fun r => !sel r) (b := bA ds.length (dd ds) Lk (lab Lk) sel) (by omega)
          show (told ds Lk sel).length < 100000
          unfold told
          omega) fun G8 g8 => ?_
        have gX : Ex G4 (upd G8 ta (.lst (tv ++ [V.non]))) := Ex.mut ((g46.trans g7).trans g8) (fresh_back g5 hta2.1)
        have gGX := gG4.trans gX
        refine s_when (b := false) (et_is (et_test (ev_neD (againD _ _ gGX rfl rfl rfl) (dueD _ _ gX rfl) (shaped_T _) (shaped_T _))) (by rw [eqv_dec eqv_T, decide_eq_true rfl]; rfl)) (fun z => Bool.noConfusion z) fun _ G9 g9 => ?_
        exact ⟨some (iV i), some (.ref la), some (.ref sa), some (.ref fa), some (.ref dp), some (.ref ba), z10, z11, _, some (.ref ta), rfl, exG.trans (.of (gGX.trans g9)), (s9.mono (gGX.trans g9)).le (by omega)⟩
    · obtain ⟨y4, y5, y6, y7, y8, y9, y10, y11, y12, y13, rfl, ex, sx⟩ := hwv
      exact s_ret ev_c fun H3 e3 => q _ H3 (e02.trans (ex.trans (.of e3))) ((sx.mono e3).le (by omega)) rfl
end
end Ly
end
section
set_option Elab.async false
set_option linter.all false
set_option maxRecDepth 100000
set_option maxHeartbeats 4000000
/-! The walk: great nets. -/
namespace Ly
open PySem PySem.Spec PyProof.Rows L2 Evl Hd Pn
def topG (a ao b x : Nat) : Nat := if ao = 0 then (if x + 1 = a then 1 else 0) else ch (a - 1) x * (if x ≤ b then ch (ao - 1) (b - x) else 0)
theorem topG_row {a ao b x : Nat} (hx : x < a) (h : 0 < topG a ao b x) : (x, topG a ao b x) ∈ rows a ao b := by
  unfold topG rows at *
  split
  · rename_i z
    rw [if_pos z] at h
    have e : x + 1 = a := by
      by_cases e : x + 1 = a
      · exact e
      · rw [if_neg e] at h; omega
    rw [if_pos e, show a - 1 = x by omega]
    exact List.mem_singleton.mpr rfl
  · rename_i z
    rw [if_neg z] at h
    exact List.mem_filter.mpr ⟨List.mem_map.mpr ⟨x, List.mem_range.mpr hx, rfl⟩, decide_eq_true h⟩
theorem due_tld {kn a ao b : Nat} (ha : 1 ≤ a) : ((List.range a).filter fun x => decide (0 < topG a ao b x)).map (fun x => (kn + x, low (topG a ao b x) (bot a ao b))) = tld kn a ao b := by
  by_cases z : ao = 0
  · have e : (List.range a).filter (fun x => decide (0 < topG a ao b x)) = [a - 1] := by
      refine asc_unique (range_asc _ _) (List.pairwise_singleton _ _) fun x => ?_
      rw [List.mem_filter, List.mem_range, List.mem_singleton, decide_eq_true_eq]
      unfold topG
      rw [if_pos z]
      constructor
      · rintro ⟨h1, h2⟩
        by_cases q : x + 1 = a
        · omega
        · rw [if_neg q] at h2; omega
      · intro h
        refine ⟨by omega, ?_⟩
        rw [if_pos (by omega)]; decide
    rw [e]
    unfold tld rows topG
    rw [if_pos z]
    simp only [List.map_cons, List.map_nil, z, if_true]
    rw [if_pos (by omega)]
  · unfold tld rows
    rw [if_neg z, List.filter_map, List.map_map]
    have e : ∀ x, topG a ao b x = ch (a - 1) x * (if x ≤ b then ch (ao - 1) (b - x) else 0) := fun x => by unfold topG; rw [if_neg z]
    have e2 : (fun x => decide (0 < topG a ao b x)) = ((fun r : Nat × Nat => decide (0 < r.2)) ∘ fun x => (x, ch (a - 1) x * (if x ≤ b then ch (ao - 1) (b - x) else 0))) := by funext x; rw [e]; rfl
    rw [e2]
    refine List.map_congr_left fun x _ => ?_
    rw [e]; rfl
section
variable {K : PySem.W.Frag} {σ : L2.St} {H : Hp}
/-- a loop over a tuple that stands -/
theorem for_tup {gg : TG} {tb : TS} {D : Ends} {a : Addr} {xs : List V} (Pv : Nat → L2.St → Hp → Prop) (h0 : Pv 0 σ H) (hk : ∀ i σ' H', Pv i σ' H' → H' a = some (.tup xs))
    (turn : ∀ i x σ' H', i < xs.length → Pv i σ' H' → xs[i]? = some x → gg x σ' H' fun σ2 H2 => tb { D with nx := Pv (i + 1), ct := Pv (i + 1), bk := D.nx } σ2 H2) (hd : ∀ σ' H', Pv xs.length σ' H' → D.nx σ' H') :
    ∃ W : Nat → Nat → L2.St → Hp → Prop, (∃ m, W 0 m σ H) ∧ ∀ i m σ H, W i m σ H →
      ((Itt K a).stop i H ∧ D.nx σ H) ∨ ((Itt K a).go i H ∧ ∃ N : L2.St → Hp → Prop, (∀ σ' H', N σ' H' → ∃ m', m' < m ∧ W (i + 1) m' σ' H') ∧ ∀ x H', (Itt K a).yld i H x H' → gg x σ H' fun σ2 H2 => tb { D with nx := N, ct := N, bk := D.nx } σ2 H2) := by
  refine ⟨fun i k σ' H' => i + k = xs.length ∧ Pv i σ' H', ⟨xs.length, by omega, h0⟩, fun i k σ' H' hW => ?_⟩
  obtain ⟨hik, hpv⟩ := hW
  have hs : SqT K H' a xs := st_of (hk _ _ _ hpv)
  by_cases hi : i < xs.length
  · refine .inr ⟨⟨xs, xs[i], hs, List.getElem?_eq_getElem hi⟩, Pv (i + 1), fun σ'' H'' hN => ⟨k - 1, by omega, by omega, hN⟩, fun x H3 y => ?_⟩
    obtain ⟨rfl, y2⟩ := y
    exact turn i x σ' _ hi hpv (y2 xs hs)
  · have hin : i = xs.length := by omega
    subst hin
    exact .inl ⟨⟨xs, hs, Nat.le_refl _⟩, hd σ' H' hpv⟩
end
section
variable {P : Program} {w : World} {K : PySem.W.Frag} {mg : Str → Option Value} {base : Heap}
abbrev N_l_great_right : List Str := ["_law_store_here", "_law_most", "_law_deal", "_law_net_here", "_law_wide", "_law_links", "_law_parts_here", "_law_some", "_law_part", "_law_inner", "_law_known", "_law_total", "_law_due", "_law_many_here", "_law_top", "_law_bottom", "_law_pair", "_law_who"]
theorem sc_l_great_right : FnScope N_l_great_right ["_law_store_here", "_law_most"] (defScope s_l_great_right) := ⟨rfl, rfl, rfl, by decide +kernel, rfl, by decide +kernel, by decide +kernel⟩
def limG : Nat := 305 + 130 + 1 + 2 * 182
def sp_l_great_right : Sp := spS (fun (m : Nat) st vs _ => vs = [.ref st, iV m] ∧ (m = 60 ∨ m = 24)) limG fun _ => Is (.bl true)
theorem ok_l_great_right (M : Ms mg) (F : Df K mg "_law_great_right" s_l_great_right) (c_l_pick : Cal P w K mg base 1 "_law_pick" ["_law_store_here", "_law_many_here"] sp_l_pick) (c_l_great : Cal P w K mg base 3 "_law_great" ["_law_store_here", "_law_most"] sp_l_great)
    (c_l_drawn_net : Cal P w K mg base 2 "_law_drawn_net" ["_law_store_here", "_law_deal"] sp_l_drawn_net) (c_l_some_cables : Cal P w K mg base 2 "_law_some_cables" ["_law_store_here", "_law_net_here", "_law_wide"] sp_l_some_cables)
    (c_l_some_parts : Cal P w K mg base 2 "_law_some_parts" ["_law_store_here", "_law_parts_here"] sp_l_some_parts) (c_l_parts : Cal P w K mg base 1 "_law_parts" ["_law_many_here", "_law_links"] sp_parts_in) (c_l_binomial : Cal P w K mg base 1 "_law_binomial" ["_law_many_here", "_law_taken"] sp_choices) (c_l_fraction : Cal P w K mg base 1 "_law_fraction" ["_law_top", "_law_bottom"] sp_lowest)
    (c_within_shares_with : Cal P w K mg base 7 "within_shares_with" ["plugs", "cables", "group"] sp_within) : CalG P w K mg base 8 "_law_great_right" ["_law_store_here", "_law_most"] sp_l_great_right := by
  refine mk_calG F sc_l_great_right (fun vs H Q E h => ?_)
      (fun _ _ _ _ _ _ us hl => match us, hl with | [_, _], _ => rfl)
    (fun f cdv A outer s H vs Q E hr gd h => ⟨_,
      (pss_cons (ps_set (i := 2) sc_l_great_right.nd rfl (by first | exact Or.inl rfl | exact Or.inr rfl) (pe_cal c_l_great hr (pa_cons (pv 0) (pa_cons (pv 1) pa_nil))))
        (pss_cons (ps_set (i := 3) sc_l_great_right.nd rfl (by first | exact Or.inl rfl | exact Or.inr rfl) (pe_cal c_l_drawn_net hr (pa_cons (pv 0) (pa_cons (pv 2) pa_nil))))
        (pss_cons (ps_for PassesOwn.never rfl (pi_tup (pe_tup (pa_cons pe_int (pa_cons (pe_op op_add pe_int (pe_cal c_l_pick hr (pa_cons (pv 0) (pa_cons pe_int pa_nil)))) pa_nil)))) (pg_name (i := 4) sc_l_great_right.nd rfl (by first | exact Or.inl rfl | exact Or.inr rfl))
          (pss_cons (ps_set (i := 5) sc_l_great_right.nd rfl (by first | exact Or.inl rfl | exact Or.inr rfl) (pe_cal c_l_some_cables hr (pa_cons (pv 0) (pa_cons (pv 3) (pa_cons (pv 4) pa_nil)))))
        (pss_cons (ps_set (i := 6) sc_l_great_right.nd rfl (by first | exact Or.inl rfl | exact Or.inr rfl) (pe_cal c_l_parts hr (pa_cons (pe_callB call_len_seq (by rfl) M.len PySem.boot_len (pa_cons (pv 2) pa_nil)) (pa_cons (pv 5) pa_nil))))
        (pss_cons (ps_set (i := 7) sc_l_great_right.nd rfl (by first | exact Or.inl rfl | exact Or.inr rfl) (pe_cal c_l_some_parts hr (pa_cons (pv 0) (pa_cons (pv 6) pa_nil))))
        (pss_cons (ps_setLc (i := 9) (own := [("_law_part", 8)]) rfl sc_l_great_right.nd rfl rfl (sw_true rfl rfl rfl (by decide +kernel)) (pi_list (pv 6)) (blkOk_by (own := [("_law_part", 8)]) (N := N_l_great_right) (sc := defScope s_l_great_right) (by decide +kernel)) (fun _ _ _ _ _ => (pg_name (i := 8) sc_l_great_right.nd rfl (by first | exact Or.inl rfl | exact Or.inr rfl))) (fun _ _ _ _ _ => pts_one (pt_cmpR (show OpR _ _ (rIn K false) from op_in_seq) (pe_ix (show IxR _ (rIxL K) from ix_list) (pv 8) pe_int (fun _ _ => rfl)) (pv 7) (by rfl))) (fun _ _ _ _ _ => (pv 8)))
        (pss_cons (ps_set (i := 10) sc_l_great_right.nd rfl (by first | exact Or.inl rfl | exact Or.inr rfl) (pe_callB call_len_seq (by rfl) M.len PySem.boot_len (pa_cons (pe_lc (own := [("_law_pair", 16)]) rfl sc_l_great_right.nd (pi_list (pv 5)) (blkOk_by (own := [("_law_pair", 16)]) (N := N_l_great_right) (sc := defScope s_l_great_right) (by decide +kernel)) (fun _ _ _ _ _ => (pg_name (i := 16) sc_l_great_right.nd rfl (by first | exact Or.inl rfl | exact Or.inr rfl))) (fun _ _ _ _ _ => pts_one (pt_cmpR (show OpR _ _ (rIn K false) from op_in_seq) (pe_ix (show IxR _ (rIxT K) from ix_tup) (pv 16) pe_int (fun _ _ => rfl)) (pv 7) (by rfl))) (fun _ _ _ _ _ => (pv 16))) pa_nil)))
        (pss_cons (ps_par (i := 11) (j := 12) (by rfl) sc_l_great_right.nd rfl rfl (by decide) rfl rfl (pa_cons (pe_op op_sub (pe_callB (cr_sum rfl) (by rfl) M.sum (by decide +kernel) (pa_cons (pe_lc (own := [("_law_who", 17)]) (tt := tYes) rfl sc_l_great_right.nd (pi_list (pv 7)) (blkOk_by (own := [("_law_who", 17)]) (N := N_l_great_right) (sc := defScope s_l_great_right) (by decide +kernel)) (fun _ _ _ _ _ => (pg_name (i := 17) sc_l_great_right.nd rfl (by first | exact Or.inl rfl | exact Or.inr rfl))) (fun _ _ _ _ _ => pts_nil) (fun _ _ _ _ _ => (pe_ix (show IxR _ (rIxL K) from ix_list) (pv 2) (pv 17) (fun _ _ => rfl)))) pa_nil)) (pe_op op_mul pe_int (pv 10))) (pa_cons (pe_lst pa_nil) pa_nil)) (by rfl))
        (pss_cons (ps_for PassesOwn.never rfl (pi_range1 rfl M.range (pa_cons (pe_callB call_len_seq (by rfl) M.len PySem.boot_len (pa_cons (pv 9) pa_nil)) pa_nil)) (pg_name (i := 13) sc_l_great_right.nd rfl (by first | exact Or.inl rfl | exact Or.inr rfl))
          (pss_cons (ps_set (i := 14) sc_l_great_right.nd rfl (by first | exact Or.inl rfl | exact Or.inr rfl) (pe_callTy call_int1 (by rfl) M.int (by decide +kernel) (pa_cons (pe_cmpR op_eq (pv 13) (pe_op op_sub (pe_callB call_len_seq (by rfl) M.len PySem.boot_len (pa_cons (pv 9) pa_nil)) pe_int) (nomark _)) pa_nil)))
        (pss_cons (ps_if (pt_cmpR op_lt (pe_callB call_len_seq (by rfl) M.len PySem.boot_len (pa_cons (pv 9) pa_nil)) (pe_callB call_len_seq (by rfl) M.len PySem.boot_len (pa_cons (pv 6) pa_nil)) (nomark _))
          (pss_cons (ps_set (i := 14) sc_l_great_right.nd rfl (by first | exact Or.inl rfl | exact Or.inr rfl) (pe_cal c_l_binomial hr (pa_cons (pe_op op_sub (pe_callB call_len_seq (by rfl) M.len PySem.boot_len (pa_cons (pv 9) pa_nil)) pe_int) (pa_cons (pv 13) pa_nil))))
        (pss_one (ps_set (i := 14) sc_l_great_right.nd rfl (by first | exact Or.inl rfl | exact Or.inr rfl) (pe_op op_mul (pv 14) (pe_cal c_l_binomial hr (pa_cons (pe_op op_sub (pe_op op_sub (pe_callB call_len_seq (by rfl) M.len PySem.boot_len (pa_cons (pv 6) pa_nil)) (pe_callB call_len_seq (by rfl) M.len PySem.boot_len (pa_cons (pv 9) pa_nil))) pe_int) (pa_cons (pe_op op_sub (pe_op op_sub (pv 11) (pe_callB call_len_seq (by rfl) M.len PySem.boot_len (pa_cons (pv 9) pa_nil))) (pv 13)) pa_nil)))))))
          pss_nil)
        (pss_cons (ps_set (i := 15) sc_l_great_right.nd rfl (by first | exact Or.inl rfl | exact Or.inr rfl) (pe_ifExp (pt_cmpR op_lt (pe_callB call_len_seq (by rfl) M.len PySem.boot_len (pa_cons (pv 9) pa_nil)) (pe_callB call_len_seq (by rfl) M.len PySem.boot_len (pa_cons (pv 6) pa_nil)) (nomark _)) (pe_cal c_l_binomial hr (pa_cons (pe_op op_sub (pe_callB call_len_seq (by rfl) M.len PySem.boot_len (pa_cons (pv 6) pa_nil)) pe_int) (pa_cons (pe_op op_sub (pv 11) (pe_callB call_len_seq (by rfl) M.len PySem.boot_len (pa_cons (pv 9) pa_nil))) pa_nil))) pe_int))
        (pss_one (ps_if (pt_cmpR op_gt (pv 14) pe_int (nomark _))
          (pss_cons (ps_set (i := 8) sc_l_great_right.nd rfl (by first | exact Or.inl rfl | exact Or.inr rfl) (pe_cal c_l_fraction hr (pa_cons (pv 14) (pa_cons (pv 15) pa_nil))))
        (pss_one (ps_expr (pe_bm PySem.F.plainAttrs_list PySem.F.slot_list_append PySem.F.type_list_append mt_append (pv 12) (pa_cons (pe_tup (pa_cons (pe_op op_add (pv 10) (pv 13)) (pa_cons (pe_ix ix_tup (pv 8) pe_int (fun _ _ => rfl)) (pa_cons (pe_ix ix_tup (pv 8) pe_int (fun _ _ => rfl)) pa_nil)))) pa_nil)))))
          pss_nil))))))
        (pss_one (ps_if (pt_cmpR op_ne (pe_callB (cr_repr gd (hr2 hr)) (by rfl) M.repr (by decide +kernel) (pa_cons (pe_cal c_within_shares_with hr (pa_cons (pv 2) (pa_cons (pv 5) (pa_cons (pv 7) pa_nil)))) pa_nil)) (pe_callB (cr_repr gd (hr2 hr)) (by rfl) M.repr (by decide +kernel) (pa_cons (pv 12) pa_nil)) (nomark _))
          (pss_one (ps_ret pe_bl))
          pss_nil))))))))))
        (pss_one (ps_ret pe_bl)))))
    , ?_⟩)
  · obtain ⟨_, _, _, ⟨rfl, _⟩, _⟩ := h; rfl
  · obtain ⟨mo, st, N, ⟨rfl, hmo⟩, hs, hN, q⟩ := h
    simp only at q hmo
    unfold limG at hN q
    refine cm_call (st := st) (lim := 305) (Φ := fun _ => GrtL) mo (fun v G G' e ⟨ds, a, b⟩ => ⟨ds, a, mono_NL _ _ _ e b⟩) (ea_cons (ev_var rfl) (ea_cons (ev_var rfl) ea_nil)) (fun _ _ => ⟨rfl, hmo⟩) hs (by omega) fun v H1 e1 s1 hv => ?_
    obtain ⟨ds, hgrt, da, rfl, hda⟩ := hv
    obtain ⟨so0, hso0⟩ := hs.some
    have hda1 : del H1 st da = some (.lst (ds.map iV)) := new_dd hso0 _ _ hda
    dsimp only [gName]
    refine cm_call (st := st) (N := N + 305) (lim := 130) (Φ := fun z : Addr × List Nat => NetL z.2.length (dd z.2)) (da, ds) (fun v G G' e ⟨Nn, a, b⟩ => ⟨Nn, a, mono_CL _ _ _ e b⟩) (ea_cons (ev_var rfl) (ea_cons (ev_var rfl) ea_nil)) (fun G e => ⟨rfl, e _ _ hda1, hgrt⟩) s1 (by omega) fun v H2 e2 s2 hv => ?_
    obtain ⟨N0, hnt, hN0⟩ := hv
    obtain ⟨na, rfl⟩ := LL.ref hN0
    obtain ⟨so1, hso1⟩ := s1.some
    have hna2 : CL (srt N0) (.ref na) (del H2 st) := mono_CL _ _ _ (new_dd hso1) hN0
    have hda2 : del H2 st da = some (.lst (ds.map iV)) := e2.dd _ _ hda1
    dsimp only [gName]
    have hgrt' := hgrt
    obtain ⟨h8, n60, hd1, hd2⟩ := hgrt'
    simp only at hnt
    have hpos : ∀ x, x < ds.length → 1 ≤ dd ds x := fun x hx => by
      rw [← dd_at hx]; exact (hd1 _ (List.getElem_mem hx)).1
    have hN0len : (srt N0).length ≤ 60 := by
      rw [(srt_perm N0).length_eq]
      have h1 := hnt.len
      have h2 : S ds.length (al (dd ds)) ≤ ds.length := by
        have := S_le (n := ds.length) (f := al (dd ds)) (g := fun _ => 1) fun i _ => by unfold al; split <;> omega
        have o : ∀ m, S m (fun _ => 1) = m := fun m => by
          induction m with
          | zero => rfl
          | succ m ih => show S m _ + 1 = _; rw [ih]
        rw [o] at this; exact this
      omega
    refine cm_pick (st := st) (n := 9) (N := N + 305 + 130) (ea_cons (ev_var rfl) (ea_cons (ev_c (v := iV 9)) ea_nil)) (by decide) (by decide) s2 (by omega) fun r H3 hr9 e3 s3 => ?_
    refine (rv_I0 (i := 1) (j := (r : Int)) : RV (rI0 fun i j => V.int (i + j)) _ _ _ _) H3 (Ex.refl _) _ fun H4 e4 => ?_
    show _ ∧ _
    refine ⟨sz_of (n := 2) (by decide), fun ta hta => ⟨ta, rfl, ⟨[V.int 2, V.int (1 + (r : Int))], st_of upd_same⟩, ?_⟩⟩
    have s4 := s3.mono e4
    have tast := ne_st s4 hta
    have e5 : Ex H4 (upd H4 ta (.tup [V.int 2, V.int (1 + (r : Int))])) := Ex.new hta
    have hta5 : upd H4 ta (.tup [V.int 2, V.int (1 + (r : Int))]) ta = some (.tup [V.int 2, V.int (1 + (r : Int))]) := upd_same
    have e25 : Es st H2 (upd H4 ta (.tup [V.int 2, V.int (1 + (r : Int))])) := (e3.trans (.of e4)).trans (.of e5)
    have s5 := s4.mono e5
    generalize upd H4 ta (.tup [V.int 2, V.int (1 + (r : Int))]) = H5 at e5 hta5 e25 s5
    have frame : ∀ {H'}, Es st H2 H' → Ex (del H2 st) (del H' st) := fun e => e.dd
    refine for_tup (K := K) (fun i σ' H' => ∃ y4 y5 y6 y7 y8 y9 y10 y11 y12 y13 y14 y15 : Option V, σ' = [some (.ref st), some (iV mo), some (.ref da), some (.ref na), y4, y5, y6, y7, y8, y9, y10, y11, y12, y13, y14, y15, none, none] ∧ Es st H2 H' ∧ Sto H' st (N + 305 + 130 + 1 + 182 * i) ∧ H' ta = some (.tup [V.int 2, V.int (1 + (r : Int))]))
      ⟨none, none, none, none, none, none, none, none, none, none, none, none, rfl, e25, s5, hta5⟩ (fun i σ' H' ⟨_, _, _, _, _, _, _, _, _, _, _, _, _, _, _, h⟩ => h) (fun i x σ' H' hi hwv hx => ?_) (fun σ' H' hwv => ?_)
    · obtain ⟨y4, y5, y6, y7, y8, y9, y10, y11, y12, y13, y14, y15, rfl, ex, sx, hta'⟩ := hwv
      have hi2 : i < 2 := hi
      have hwide : ∃ wide : Nat, 1 ≤ wide ∧ wide ≤ 100 ∧ x = iV wide := by
        match i, hi2, hx with
        | 0, _, hx => cases hx; exact ⟨2, by decide, by decide, rfl⟩
        | 1, _, hx => cases hx; exact ⟨1 + r, by omega, by omega, by show V.int _ = V.int _; rw [Int.natCast_add]; rfl⟩
      obtain ⟨wide, hw1, hw2, rfl⟩ := hwide
      dsimp only [gName]
      refine cm_callF (st := st) (N := N + 305 + 130 + 1 + 182 * i) (lim := 120) (Φ := fun z : Addr × List Cab × Nat => SomeC z.2.1) (na, srt N0, wide) (ea_cons (ev_var rfl) (ea_cons (ev_var rfl) (ea_cons (ev_var rfl) ea_nil))) (fun G e => ⟨rfl, mono_CL _ _ _ ((frame ex).trans e) hna2, hN0len, hw1, hw2⟩) sx (by omega) fun v H7 e7 s7 hv => ?_
      obtain ⟨Lk, sub, hLk, hperm, hsubl⟩ := hv
      obtain ⟨la, rfl⟩ := LL.ref hLk
      simp only at hperm hsubl
      have ex7 := ex.trans e7
      have hSub : Sub ds.length (dd ds) Lk := Sub.of_net hnt hpos (hperm.nodup_iff.mpr (((srt_perm N0).nodup_iff.mpr hnt.nodup).sublist hsubl)) fun c hc => (srt_perm N0).mem_iff.mp (hsubl.subset (hperm.mem_iff.mp hc))
      have hda7 : H7 da = some (.lst (ds.map iV)) := del_ex _ _ (frame ex7 _ _ hda2)
      dsimp only [gName]
      refine q_asgP (evp_call (ds.length, la, Lk) mono_NLs (ea_cons (ev_is (ev_len0 (K := K) (ev_var rfl) (sq_of hda7)) (by rw [List.length_map]; rfl)) (ea_cons (ev_var rfl) ea_nil)) fun H8 e => ⟨rfl, n60, mono_CL _ _ _ (del_ex.trans e) hLk, hSub.mem⟩) fun v H8 e8 hv => ?_
      obtain ⟨pa, rfl⟩ := LL.ref hv
      obtain ⟨so7, hso7⟩ := s7.some
      have hpa8 : NLs (cls (lab Lk) ds.length) (.ref pa) (del H8 st) := mono_NLs _ _ _ (new_dd hso7) hv
      refine cm_call (st := st) (N := N + 305 + 130 + 1 + 182 * i + 120) (lim := 61) (Φ := fun z : Addr × Nat × List Cab => SomeP z.2.1 z.2.2) (pa, ds.length, Lk) (fun v G G' e ⟨s, a, b⟩ => ⟨s, a, mono_NL _ _ _ e b⟩) (ea_cons (ev_var rfl) (ea_cons (ev_var rfl) ea_nil)) (fun G e => ⟨rfl, mono_NLs _ _ _ e hpa8, by show 1 ≤ ds.length; omega, n60⟩) (s7.mono e8) (by omega) fun v G e9 s9 hv => ?_
      obtain ⟨sel, ⟨rr, hrr1, hrr2, hrr3⟩, sa, rfl, hsa⟩ := hv
      simp only at hrr1 hrr2 hsa
      have e7G : Es st H7 G := (Es.of e8).trans e9
      have exG : Es st H2 G := ex7.trans e7G
      dsimp only [gName]
      have hDa : G da = some (.lst (ds.map iV)) := del_ex _ _ (frame exG _ _ hda2)
      have htaG : G ta = some (.tup [V.int 2, V.int (1 + (r : Int))]) := es_at (e7.trans e7G) tast hta'
      obtain ⟨lv, hLa⟩ := CLa.of (mono_CL _ _ _ (e7G.dd.trans del_ex) hLk)
      obtain ⟨pv, hPa⟩ := NLa.of (mono_NLs _ _ _ (e9.dd.trans del_ex) hpa8)
      have hLv := hLa.len
      have hPv := hPa.len
      have hLkl : Lk.length ≤ 60 := by have := hSub.len; omega
      have hSa : G sa = some (.lst ((gr ds.length Lk sel).map iV)) := (newp_is hsa).2
      have hcA : 1 ≤ cA ds.length (dd ds) (lab Lk) sel := by
        rw [hSub.cA]
        refine Nat.le_trans ?_ (S_ge hrr1)
        rw [hrr2, hrr3]; simp
      have hArg : ∀ G', Ex G G' → Arg G' da la ds Lk := fun G' e => ⟨⟨e _ _ hDa, by omega, n60, fun d hd => (hd1 d hd).2⟩, (hLa.mono e).back, hSub⟩
      have hGrp : ∀ G', Ex G G' → Grp G' sa ds Lk sel := fun G' e => ⟨e _ _ hSa, hcA⟩
      have grl : (gr ds.length Lk sel).length ≤ 60 := ((hGrp G (Ex.refl _)).isGr hSub n60).len
      have cle := hSub.cls_le
      have hSaG : SqL K G sa ((gr ds.length Lk sel).map iV) := sq_of hSa
      -- the parts in the group
      refine q_asgL (el_keepG (K := K) (g := NL) (l := cls (lab Lk) ds.length) (fun _ => mono_NL) (fun ps => (gr ds.length Lk sel).contains (ps.headD 0)) (ev_var rfl) hPa.1 hPa.2 (by omega) (fun _ => rfl) (fun _ => rfl) fun ps y hps G1 e hy => ?_) fun ia G2 hia g2 h2 => ?_
      · obtain ⟨t, rfl, ht⟩ := hy
        obtain ⟨r', tl', q1, q2, q3, q4⟩ := cls_mem hps
        have hT : SqL K G1 t (ps.map iV) := sq_of ht
        rw [q4] at hT
        refine et_is (et_test (ev_op (ev_op (ev_var rfl) ev_c (rv_ixL hT (atI_nat (j := 0) rfl))) (ev_var rfl) (rv_isL (K := K) (ex_l e hSaG) rfl (flat_iV _)))) ?_
        rw [q4, List.headD_cons, List.contains_eq_mem]
        exact inV_dec
      have hial := al_filter (g := NL) (fun ps : List Nat => (gr ds.length Lk sel).contains (ps.headD 0)) hPa.2
      generalize (((cls (lab Lk) ds.length).zip pv).filter fun z => (gr ds.length Lk sel).contains (z.1.headD 0)).map (·.2) = iv at h2 hial
      have hil : iv.length = cA ds.length (dd ds) (lab Lk) sel := by
        rw [hial.length, List.length_map]
        exact hSub.inn_len
      have two := hSub.parts_two (s := sel)
      rw [two] at hPv
      -- the known ones within
      refine q_asg (v := iV (known ds.length Lk sel)) (ev_is (ev_lenL (K := K) (el_keepG (K := K) (g := CB) (l := Lk) (fun _ => mono_CB) (fun c => (gr ds.length Lk sel).contains c.1) (ev_var rfl) ((hLa.mono g2).1) ((hLa.mono g2).2) (by omega) (fun _ => rfl) (fun _ => rfl) fun c y hc G3 g3 hy => ?_)) ?_) fun G3 g3 => ?_
      · obtain ⟨t, rfl, ht⟩ := hy
        exact et_is (et_test (ev_op (ev_op (ev_var rfl) ev_c (rv_ixT (K := K) (st_of ht) (atI_nat (j := 0) rfl))) (ev_var rfl) (rv_isL (K := K) (ex_l (g2.trans g3) hSaG) rfl (flat_iV _)))) (by rw [List.contains_eq_mem]; exact inV_dec)
      · have := (al_filter (g := CB) (fun c : Cab => (gr ds.length Lk sel).contains c.1) (hLa.mono g2).2).length
        rw [this, List.length_map]; rfl
      have g03 := g2.trans g3
      have gtot := hSub.gr_total (s := sel)
      have gopen := hSub.gr_open (s := sel) hcA
      have hD3 : SqL K G3 da (fl ds.length (dd ds)) := by rw [← fl_dd]; exact sq_of (g03 _ _ hDa)
      have hkn : known ds.length Lk sel ≤ 60 := by
        unfold known
        exact Nat.le_trans (List.length_filter_le _ _) hLkl
      have showT : Showy (listD triD (told ds Lk sel)) := showy_tris (fun t ht => tld_lt (by omega) hkn ht) (tld_len (by omega))
      have toldE : told ds Lk sel = tld (known ds.length Lk sel) (cA ds.length (dd ds) (lab Lk) sel) (cA ds.length (dd ds) (lab Lk) fun r => !sel r) (bA ds.length (dd ds) Lk (lab Lk) sel) := rfl
      have hbot : bot (cA ds.length (dd ds) (lab Lk) sel) (cA ds.length (dd ds) (lab Lk) fun r => !sel r) (bA ds.length (dd ds) Lk (lab Lk) sel) < 2 ^ 200 := bot_lt (by omega)
      have ia3 : G3 ia = some (.lst iv) := g3 _ _ h2
      have pa3 : G3 pa = some (.lst pv) := g03 _ _ hPa.1
      generalize hknE : known ds.length Lk sel = kn at *
      generalize haE : cA ds.length (dd ds) (lab Lk) sel = a at *
      generalize haoE : (cA ds.length (dd ds) (lab Lk) fun r => !sel r) = ao at *
      generalize hbE : bA ds.length (dd ds) Lk (lab Lk) sel = b at *
      generalize htotE : ((gr ds.length Lk sel).map (op (dd ds) Lk)).sum = tot at *
      have htot : 1 ≤ ao → tot = a + b := gopen
      have total : Ev (tOp (rI0 fun i j => V.int (i - j)) (tCB (rSum K) (tCons (tLc (iList K (tVar 7)) (gName 17) tYes (tOp (rIxL K) (tVar 2) (tVar 17)) [17]) tNil)) (tOp (rI CMul fun i j => V.int (i * j)) (tC (V.int 2)) (tVar 10))) [some (.ref st), some (iV mo), some (.ref da), some (.ref na), some (iV wide), some (.ref la), some (.ref pa), some (.ref sa), y8, some (.ref ia), some (iV kn), y11, y12, y13, y14, y15, none, none] G3 (iV tot) := by
        refine ev_is (ev_subN (a := ((gr ds.length Lk sel).map (dd ds)).sum) (ev_is (ev_sumN (K := K) (ns := ((gr ds.length Lk sel).map (dd ds)).map Int.ofNat) ?_) (by rw [sum_iV]; rfl)) (ev_mulN' (ev_c (v := iV 2)) (ev_var (v := iV kn) rfl) (by decide)) (by omega)) (by rw [gtot, Nat.add_sub_cancel])
        rw [← map_iV]
        exact el_map (ev_var rfl) (ex_l g03 hSaG) (by omega) (fun _ => rfl) fun y hy G4 g4 => ev_fl (ev_var rfl) (ev_var rfl) (ex_l g4 hD3) (gr_mem.mp hy).1
      refine q_parP (Φ := Is (iV tot)) (Ψ := LL []) (epa_cons mono_is (mono1 (mono_LL fun _ h => nomatch h)) (evp_of total) (epa_cons (mono_LL fun _ h => nomatch h) (fun _ h => nomatch h) (evp_lst (fun _ h => nomatch h) epa_nil (Nat.zero_le _)) epa_nil)) fun x y G4 g4 hx hy => ?_
      have hx' : x = iV tot := hx
      subst hx'
      obtain ⟨dp, dv0, rfl, hdp, hdal⟩ := hy
      cases hdal
      have hdp2 := newp_is hdp
      have lenI : ∀ (σ : L2.St) (G' : Hp), Ex G3 G' → σ[9]? = some (some (.ref ia)) → Ev (tCB (rLenS K) (tCons (tVar 9) tNil)) σ G' (iV a) := fun σ G' e z => ev_is (ev_len0 (K := K) (ev_var z) (sq_of (e _ _ ia3))) (by rw [hil]; rfl)
      have lenP : ∀ (σ : L2.St) (G' : Hp), Ex G3 G' → σ[6]? = some (some (.ref pa)) → Ev (tCB (rLenS K) (tCons (tVar 6) tNil)) σ G' (iV (a + ao)) := fun σ G' e z => ev_is (ev_len0 (K := K) (ev_var z) (sq_of (e _ _ pa3))) (by rw [hPv]; rfl)
      have aao : a + ao ≤ 60 := by omega
      generalize hbt : bot a ao b = bt at hbot
      have hbtlt := hbot
      refine q_for (itw_range1 (n := a) (ea_cons (lenI _ G4 g4 rfl) ea_nil) (by omega))
        (fun j σ' G' => ∃ (z8 z13 z14 z15 : Option V) (dvs : List V), σ' = [some (.ref st), some (iV mo), some (.ref da), some (.ref na), some (iV wide), some (.ref la), some (.ref pa), some (.ref sa), z8, some (.ref ia), some (iV kn), some (iV tot), some (.ref dp), z13, z14, z15, none, none] ∧ Es dp G4 G' ∧ G' dp = some (.lst dvs) ∧ Al ((((List.range j).filter fun x => decide (0 < topG a ao b x)).map fun x => (kn + x, low (topG a ao b x) bt)).map TR) dvs (del G' dp))
        (fun G5 g5 => ⟨y8, y13, y14, y15, [], rfl, .of g5, g5 _ _ hdp2.2, .nil⟩) (fun _ _ _ _ => trivial) (fun x v σ' G' G5 hx hwv g5 hv => ?_) (fun σ' G5 hwv => ?_)
      · obtain ⟨z8, z13, z14, z15, dvs, rfl, es, hD, hal⟩ := hwv
        subst hv
        have e35 : Ex G3 G5 := ((ex_del g4 hdp2.1).trans es).trans g5
        refine q_asg (ev_intB (ev_op (ev_var (v := iV x) rfl) (ev_subN (lenI _ G5 e35 rfl) (ev_c (v := iV 1)) hcA) (rv_eq rfl))) fun G6 g6 => ?_
        have e36 := e35.trans g6
        refine q_when (b := decide (a < a + ao)) (et_is (et_test (ev_op (lenI _ G6 e36 rfl) (lenP _ G6 e36 rfl) rv_I0)) (by rw [decide_eq_decide]; omega)) (fun hb G7 g7 => ?_) (fun hb GG g7 => ?_)
        · have hb' := of_decide_eq_true hb
          have e37 := e36.trans g7
          refine q_asg (ev_is (ev_call1 (a - 1, (x : Int)) (ea_cons (ev_subN (lenI _ G7 e37 rfl) (ev_c (v := iV 1)) hcA) (ea_cons (ev_var rfl) ea_nil)) fun _ _ => ⟨rfl, by show a - 1 ≤ 100; omega⟩) (by rw [chI_eq])) fun G7b g7b => ?_
          have e37b := e37.trans g7b
          refine s_asg (v := iV (topG a ao b x)) (ev_is (ev_mulN (a := ch (a - 1) x) (b := if x ≤ b then ch (ao - 1) (b - x) else 0) (ev_var rfl) (ev_is (ev_call1 (a + ao - a - 1, (tot : Int) - a - x) (ea_cons (ev_subN (ev_subN (lenP _ G7b e37b rfl) (lenI _ G7b e37b rfl) (by omega)) (ev_c (v := iV 1)) (by omega)) (ea_cons (ev_op (ev_op (ev_var (v := .int (tot : Int)) rfl) (lenI _ G7b e37b rfl) rv_I0) (ev_var (v := .int (x : Int)) rfl) rv_I0) ea_nil)) fun _ _ => ⟨rfl, by show a + ao - a - 1 ≤ 100; omega⟩) ?_) ?_) ?_) fun GG g7c => ?_
          · show iV (chI (a + ao - a - 1) ((tot : Int) - a - x)) = _
            have := htot (by omega)
            rw [show a + ao - a - 1 = ao - 1 by omega]
            by_cases z : x ≤ b
            · rw [if_pos z, show (tot : Int) - a - x = ((b - x : Nat) : Int) by omega, chI_eq]
            · rw [if_neg z, chI_neg (by omega)]
          · have := ch_lt60 (n := ao - 1) (k := b - x) (by omega)
            split <;> omega
          · have hao : ¬ ao = 0 := by omega
            show iV (ch (a - 1) x * (if x ≤ b then ch (ao - 1) (b - x) else 0)) = iV (topG a ao b x)
            unfold topG
            rw [if_neg hao]
          have eGG := e37b.trans g7c
          have gDel := ((g5.trans g6).trans (g7.trans g7b)).trans g7c
          have esGG := es.trans (.of gDel)
          have hDG := gDel _ _ hD
          refine q_asg (v := iV bt) (ev_if (b := decide (a < a + ao)) (et_is (et_test (ev_op (lenI _ GG eGG rfl) (lenP _ GG eGG rfl) rv_I0)) (by rw [decide_eq_decide]; omega)) (fun z => ?_) (fun z => ?_)) fun G8 g8 => ?_
          · have hz := of_decide_eq_true z
            exact ev_is (ev_call1 (a + ao - 2, (tot : Int) - a) (ea_cons (ev_subN (lenP _ GG eGG rfl) (ev_c (v := iV 2)) (by omega)) (ea_cons (ev_op (ev_var (v := .int (tot : Int)) rfl) (lenI _ GG eGG rfl) rv_I0) ea_nil)) fun _ _ => ⟨rfl, by show a + ao - 2 ≤ 100; omega⟩) (by
              show iV (chI (a + ao - 2) ((tot : Int) - a)) = _
              have := htot (by omega)
              rw [show (tot : Int) - a = ((b : Nat) : Int) by omega, chI_eq, ← hbt]
              unfold bot
              rw [if_neg (by omega)])
          · have hz := of_decide_eq_false z
            have : bt = 1 := by rw [← hbt]; unfold bot; rw [if_pos (by omega)]
            rw [this]
            exact ev_c
          have eG8 := eGG.trans g8
          have esG8 := esGG.trans (.of g8)
          by_cases hpos : 0 < topG a ao b x
          · refine s_when (b := true) (et_is (et_test (ev_op (ev_var (v := iV (topG a ao b x)) rfl) ev_c rv_I0)) (decide_eq_true (by omega))) (fun _ G9 g9 => ?_) (fun z => Bool.noConfusion z)
            have hbp := bot_pos (topG_row hx hpos)
            rw [hbt] at hbp
            refine q_asgP (evp_call (topG a ao b x, bt) mono_U (ea_cons (ev_var rfl) (ea_cons (ev_var rfl) ea_nil)) fun _ _ => ⟨rfl, hbp, hbtlt⟩) fun v G10 g10 hv => ?_
            obtain ⟨pp, rfl, hpp⟩ := hv
            have hpp2 := newp_is hpp
            have esD := esG8.trans (.of (g9.trans g10))
            have hD10 : G10 dp = some (.lst dvs) := (g8.trans (g9.trans g10)) _ _ hDG
            have dl : dvs.length ≤ 61 := by
              rw [hal.length, List.length_map, List.length_map]
              have := List.length_filter_le (fun x => decide (0 < topG a ao b x)) (List.range x)
              rw [List.length_range] at this
              omega
            refine s_appU hD10 (ev_var rfl) (eu_tup (ea_cons (ev_addN (ev_var (v := iV kn) rfl) (ev_var (v := iV x) rfl)) (ea_cons (ev_op (ev_var rfl) ev_c (rv_ixT (K := K) (st_of hpp2.2) (atI_nat (j := 0) rfl))) (ea_cons (ev_op (ev_var rfl) ev_c (rv_ixT (K := K) (st_of hpp2.2) (atI_nat (j := 1) rfl))) ea_nil))) (by show 3 ≤ 100000; decide)) (by omega) fun t G11 ht g11 h11 => ?_
            have tne : t ≠ dp := fun e => by rw [e, hD10] at ht; cases ht
            refine ⟨some (.ref pp), some (iV x), some (iV (topG a ao b x)), some (iV bt), dvs ++ [.ref t], rfl, esD.trans (es_upd g11), upd_same, ?_⟩
            rw [List.range_succ, List.filter_append, List.filter_cons, List.filter_nil, if_pos (decide_eq_true hpos), List.map_append, List.map_append, del_upd]
            exact (hal.mono (del_mono ((g8.trans (g9.trans g10)).trans g11 |> fun z => gDel.trans z)) (mem_map_mono (fun _ => mono_TR) _)).append (.cons ⟨t, rfl, by rw [del_ne tne]; exact h11⟩ .nil)
          · refine s_when (b := false) (et_is (et_test (ev_op (ev_var (v := iV (topG a ao b x)) rfl) ev_c rv_I0)) (decide_eq_false (by omega))) (fun z => Bool.noConfusion z) fun _ G9 g9 => ?_
            refine ⟨z8, some (iV x), some (iV (topG a ao b x)), some (iV bt), dvs, rfl, esG8.trans (.of g9), (g8.trans g9) _ _ hDG, ?_⟩
            rw [List.range_succ, List.filter_append, List.filter_cons, List.filter_nil, if_neg (by rw [decide_eq_false hpos]; exact Bool.false_ne_true), List.append_nil]
            exact hal.mono (del_mono (gDel.trans (g8.trans g9))) (mem_map_mono (fun _ => mono_TR) _)
        · have hb' := of_decide_eq_false hb
          have eGG := e36.trans g7
          have gDel := (g5.trans g6).trans g7
          have esGG := es.trans (.of gDel)
          have hDG := gDel _ _ hD
          have htop : (if decide (iV x = iV (a - 1)) = true then 1 else 0) = topG a ao b x := by
            have hao : ao = 0 := by omega
            have e0 : topG a ao b x = if x + 1 = a then 1 else 0 := by unfold topG; rw [if_pos hao]
            rw [e0]
            by_cases z : x + 1 = a
            · rw [if_pos z, decide_eq_true (show iV x = iV (a - 1) by rw [show a - 1 = x by omega])]; rfl
            · rw [if_neg z, decide_eq_false (fun q => z (by have := iV_inj.mp q; omega))]; rfl
          rw [htop]
          refine q_asg (v := iV bt) (ev_if (b := decide (a < a + ao)) (et_is (et_test (ev_op (lenI _ GG eGG rfl) (lenP _ GG eGG rfl) rv_I0)) (by rw [decide_eq_decide]; omega)) (fun z => ?_) (fun z => ?_)) fun G8 g8 => ?_
          · have hz := of_decide_eq_true z
            exact ev_is (ev_call1 (a + ao - 2, (tot : Int) - a) (ea_cons (ev_subN (lenP _ GG eGG rfl) (ev_c (v := iV 2)) (by omega)) (ea_cons (ev_op (ev_var (v := .int (tot : Int)) rfl) (lenI _ GG eGG rfl) rv_I0) ea_nil)) fun _ _ => ⟨rfl, by show a + ao - 2 ≤ 100; omega⟩) (by
              show iV (chI (a + ao - 2) ((tot : Int) - a)) = _
              have := htot (by omega)
              rw [show (tot : Int) - a = ((b : Nat) : Int) by omega, chI_eq, ← hbt]
              unfold bot
              rw [if_neg (by omega)])
          · have hz := of_decide_eq_false z
            have : bt = 1 := by rw [← hbt]; unfold bot; rw [if_pos (by omega)]
            rw [this]
            exact ev_c
          have eG8 := eGG.trans g8
          have esG8 := esGG.trans (.of g8)
          by_cases hpos : 0 < topG a ao b x
          · refine s_when (b := true) (et_is (et_test (ev_op (ev_var (v := iV (topG a ao b x)) rfl) ev_c rv_I0)) (decide_eq_true (by omega))) (fun _ G9 g9 => ?_) (fun z => Bool.noConfusion z)
            have hbp := bot_pos (topG_row hx hpos)
            rw [hbt] at hbp
            refine q_asgP (evp_call (topG a ao b x, bt) mono_U (ea_cons (ev_var rfl) (ea_cons (ev_var rfl) ea_nil)) fun _ _ => ⟨rfl, hbp, hbtlt⟩) fun v G10 g10 hv => ?_
            obtain ⟨pp, rfl, hpp⟩ := hv
            have hpp2 := newp_is hpp
            have esD := esG8.trans (.of (g9.trans g10))
            have hD10 : G10 dp = some (.lst dvs) := (g8.trans (g9.trans g10)) _ _ hDG
            have dl : dvs.length ≤ 61 := by
              rw [hal.length, List.length_map, List.length_map]
              have := List.length_filter_le (fun x => decide (0 < topG a ao b x)) (List.range x)
              rw [List.length_range] at this
              omega
            refine s_appU hD10 (ev_var rfl) (eu_tup (ea_cons (ev_addN (ev_var (v := iV kn) rfl) (ev_var (v := iV x) rfl)) (ea_cons (ev_op (ev_var rfl) ev_c (rv_ixT (K := K) (st_of hpp2.2) (atI_nat (j := 0) rfl))) (ea_cons (ev_op (ev_var rfl) ev_c (rv_ixT (K := K) (st_of hpp2.2) (atI_nat (j := 1) rfl))) ea_nil))) (by show 3 ≤ 100000; decide)) (by omega) fun t G11 ht g11 h11 => ?_
            have tne : t ≠ dp := fun e => by rw [e, hD10] at ht; cases ht
            refine ⟨some (.ref pp), some (iV x), some (iV (topG a ao b x)), some (iV bt), dvs ++ [.ref t], rfl, esD.trans (es_upd g11), upd_same, ?_⟩
            rw [List.range_succ, List.filter_append, List.filter_cons, List.filter_nil, if_pos (decide_eq_true hpos), List.map_append, List.map_append, del_upd]
            exact (hal.mono (del_mono ((g8.trans (g9.trans g10)).trans g11 |> fun z => gDel.trans z)) (mem_map_mono (fun _ => mono_TR) _)).append (.cons ⟨t, rfl, by rw [del_ne tne]; exact h11⟩ .nil)
          · refine s_when (b := false) (et_is (et_test (ev_op (ev_var (v := iV (topG a ao b x)) rfl) ev_c rv_I0)) (decide_eq_false (by omega))) (fun z => Bool.noConfusion z) fun _ G9 g9 => ?_
            refine ⟨z8, some (iV x), some (iV (topG a ao b x)), some (iV bt), dvs, rfl, esG8.trans (.of g9), (g8.trans g9) _ _ hDG, ?_⟩
            rw [List.range_succ, List.filter_append, List.filter_cons, List.filter_nil, if_neg (by rw [decide_eq_false hpos]; exact Bool.false_ne_true), List.append_nil]
            exact hal.mono (del_mono (gDel.trans (g8.trans g9))) (mem_map_mono (fun _ => mono_TR) _)
      · obtain ⟨z8, z13, z14, z15, dvs, rfl, es, hD, hal⟩ := hwv
        rw [← hbt, due_tld hcA, ← toldE] at hal
        have gG5 : Ex G G5 := g03.trans ((ex_del g4 hdp2.1).trans es)
        have hal' : Al ((told ds Lk sel).map TR) dvs G5 := hal.mono del_ex (mem_map_mono (fun _ => mono_TR) _)
        have toldD : ∀ (σ : L2.St) (G7 : Hp), Ex G G7 → σ[2]? = some (some (.ref da)) → σ[5]? = some (some (.ref la)) → σ[7]? = some (some (.ref sa)) → EvD K (tCall sp_within [] E0 (tCons (tVar 2) (tCons (tVar 5) (tCons (tVar 7) tNil)))) σ G7 (listD triD (told ds Lk sel)) := fun σ G7 e a1 a2 a3 =>
          evd_new (Φ := LL ((told ds Lk sel).map TR)) (mono_LL (mem_map_mono (fun _ => mono_TR) _)) (evp_call (da, la, sa, ds, Lk, sel) (mono_LL (mem_map_mono (fun _ => mono_TR) _)) (ea_cons (ev_var a1) (ea_cons (ev_var a2) (ea_cons (ev_var a3) ea_nil))) fun G9 e9 => ⟨rfl, hArg _ (e.trans e9), hGrp _ (e.trans e9)⟩) fun v G' h => dp_list (Φ := TR) (fun _ _ h => dp_TR h) h
        have dueD : ∀ (σ : L2.St) (G7 : Hp), Ex G5 G7 → σ[12]? = some (some (.ref dp)) → EvD K (tVar 12) σ G7 (listD triD (told ds Lk sel)) := fun σ G7 e a => evd_val (ev_var a) fun G8 e8 => dp_list (Φ := TR) (fun _ _ h => dp_TR h) ⟨dp, dvs, rfl, (e.trans e8) _ _ hD, hal'.mono (e.trans e8) (mem_map_mono (fun _ => mono_TR) _)⟩
        refine s_when (b := false) (et_is (et_test (ev_op (ev_repr (K := K) (toldD _ G5 gG5 rfl rfl rfl) (fun _ _ h => dp_ref h) showT.sh showT.lay showT.dep showT.len) (ev_repr (K := K) (dueD _ G5 (Ex.refl _) rfl) (fun _ _ h => dp_ref h) showT.sh showT.lay showT.dep showT.len) (rv_ne rfl))) (by rw [decide_eq_true rfl]; rfl)) (fun z => Bool.noConfusion z) fun _ G6 g6 => ?_
        exact ⟨some (iV wide), some (.ref la), some (.ref pa), some (.ref sa), z8, some (.ref ia), some (iV kn), some (iV tot), some (.ref dp), z13, z14, z15, rfl, exG.trans (.of (gG5.trans g6)), (s9.mono (gG5.trans g6)).le (by omega), (gG5.trans g6) _ _ htaG⟩
    · obtain ⟨y4, y5, y6, y7, y8, y9, y10, y11, y12, y13, y14, y15, rfl, ex, sx, _⟩ := hwv
      show Q (V.bl true) H'
      exact q _ H' ((e1.trans e2).trans ex) (sx.le (by show N + 305 + 130 + 1 + 182 * 2 ≤ _; omega)) rfl
end
end Ly
end
section
set_option Elab.async false
set_option linter.all false
set_option maxRecDepth 100000
set_option maxHeartbeats 4000000
/-! The walk: the law. -/
namespace Ly
open PySem PySem.Spec PyProof.Rows L2 Evl Hd Pn
/-! ### a call by keyword -/
def CalK (P : Program) (w : World) (K : PySem.W.Frag) (mg : Str → Option Value) (base : Heap) (k : Nat) (x : Str) (ps : List Str) (sp : Sp) : Prop :=
  ∃ f fd, FnOk P w K mg base CX0 k f fd ps sp ∧ mg x = some (.ref f) ∧ PySem.W.keepIn K (.ref f) = true ∧ ∀ (s : Shared) (ws : List Value), ws.length = ps.length → BindsTo s fd ⟨[], ps.zip ws⟩ (ps.zip ws)
theorem mk_calK {P : Program} {w : World} {K : PySem.W.Frag} {mg : Str → Option Value} {base : Heap} {k : Nat} {x : Str} {ps : List Str} {sp : Sp} {st : Stmt} (F : Df K mg x st) (ok : ∀ {f : Addr} {fd : FuncData}, Hd.FnP K x st f fd → FnOk P w K mg base CX0 k f fd ps sp)
    (hb : ∀ (kV doc pm : Value) (an : Option Addr) (cdv ct : Value) (us : List Value), us.length = ps.length → bindArgs (PySem.W.fnOf x x (defArgs st) (defBody st) (defScope st) .none kV doc pm an cdv ct) ⟨[], ps.zip us⟩ = pure (ps.zip us)) : CalK P w K mg base k x ps sp := by
  obtain ⟨f, fd, FD, g⟩ := F
  have hok := ok FD
  have kp := FD.kp
  obtain ⟨_, _, _, _, _, _, _, _, _, _, rfl, _, _, hD, _⟩ := FD.ex
  rcases hD with ⟨_, rfl⟩ | ⟨z, _⟩
  · exact ⟨f, _, hok, g, kp, fun s ws hl => BindsTo.of_eq (hb _ _ _ _ _ _ ws hl)⟩
  · exact absurd rfl z
theorem pe_calK {X : Cx} {k j : Nat} {x : Str} {ps : List Str} {sp : Sp} {p pos : Pos} {kws : List Keyword} {tk : TA} (c : CalK X.prog X.w X.K X.mg X.base k x ps sp) (hr : Room j X.A) (hkw : PK X kws tk) (hg : Gl X x := by rfl) (hk : k ≤ j := by decide)
    (hall : (backToKw pos (keywordEach kws X.env)).all (·.1.isSome) = true := by rfl) (hks : (backToKw pos (keywordEach kws X.env)).filterMap (·.1) = ps := by rfl) (hdb : (x == ("__debug__" : Str)) = false := by decide)
    (hpl : ((backTo pos (starEach [] X.env)).any (·.1) || (backToKw pos (keywordEach kws X.env)).any (·.1.isNone)) = false := by rfl) : PE X (.Call (.Name x p) [] kws pos) (tCall sp [] E0 tk) := by
  obtain ⟨f, fd, F, nm, kp, bd⟩ := c
  constructor
  intro pins s σ H Q I start
  refine wpAny_Call_Name_kw (ld_glob I hg nm ?_ hdb)
  refine PySem.W.callWith_KW0 (h₀ := X.base) I.ok.mod.kin kp hall (thn (hkw.run pos pins s σ H _ I start) ?_) hpl
  rintro ws s1 ⟨zs, H1, I1, rel, promise⟩
  refine ⟨I1.kIn, ?_⟩
  rw [hks]
  rw [List.append_nil] at promise
  have count : ws.length = ps.length := rel.length.symm.trans (F.len _ _ _ _ promise)
  have run := F.run X.A X.stack s1 H1 ⟨[], ps.zip ws⟩ ws zs Q E0 (hr.mono hk) I1.env0 (bd s1 ws count) rel promise
  refine wpAny_call (codeAny_mono run ?_)
  intro res s2 told
  match res, told with
  | .error ex, told => exact (pass0 : Passes CX0 X E0) pins σ H1 s1 ex s2 I1 told
  | .ok (.ret u), told => exact I1.after told
/-! ### calls with new data -/
theorem evp_callX {α : Type} {ar : α → List V → Hp → Prop} {Φ : α → Ph} {σ : L2.St} {H : Hp} {ta : TA} {E : XK} {Φs : List Ph} {Φ0 : Ph} (m : Mono Φ0) (h : EvPA ta σ H Φs) (ha : ∀ vs H1 H2, Ex H H1 → Ex H1 H2 → Al Φs vs (newp H1 H2) → ∃ a, ar a vs H2 ∧ Φ a = Φ0) : EvP (tCall (spP ar Φ) [] E ta) σ H Φ0 := fun H1 e Q q =>
  h H1 e _ fun vs H2 e2 k => by
    obtain ⟨a, h1, h2⟩ := ha vs H1 H2 e e2 k
    exact ⟨a, by rw [List.append_nil]; exact h1, fun v H3 e3 k' => q v H3 (e2.trans e3) (m _ _ _ (newp_mono e2 (Ex.refl _)) (by rw [← h2]; exact k'))⟩
theorem sub_any {ds : List Nat} {L : List Cab} (h : Stt ds.length (ds.length - 2) (dd ds)) (hp : ∀ x, x < ds.length → 1 ≤ dd ds x) (nd : L.Nodup) (hany : (nets ds.length (ds.length - 2) (dd ds)).any (has L) = true) : Sub ds.length (dd ds) L := by
  obtain ⟨N, hN, hh⟩ := List.any_eq_true.mp hany
  exact Sub.of_net (nets_nt _ h N hN) hp nd (has_iff.mp hh)
theorem ev_chainD {K : PySem.W.Frag} {σ : L2.St} {H : Hp} {ta tb tc : TE} {d e f : PyData} (ha : EvD K ta σ H d) (hb : EvD K tb σ H e) (hc : EvD K tc σ H f) (sd : SeqAt.shaped d = true) (se : SeqAt.shaped e = true) (sf : SeqAt.shaped f = true) :
    Ev (tChain (rEqD K) (rEqD K) ta tb tc) σ H (.bl (PyData.eqv d e && PyData.eqv e f)) := fun H1 e1 Q q =>
  ha H1 e1 _ fun v H2 e2 k => hb H2 (e1.trans e2) _ fun u H3 e3 k2 => ⟨d, e, k H3 e3, k2 H3 (Ex.refl _), sd, se, PyData.eqv d e, rfl, by
    cases hz : PyData.eqv d e with
    | true =>
      show tc σ H3 _
      exact hc H3 ((e1.trans e2).trans e3) _ fun z H4 e4 k3 => ⟨e, f, k2 H4 e4, k3 H4 (Ex.refl _), se, sf, by
        rw [hz] at q
        exact q H4 ((e2.trans e3).trans e4)⟩
    | false =>
      show Q (.bl false) H3
      rw [hz] at q
      exact q H3 (e2.trans e3)⟩
/-- an example: plugs, cables, a group, what is told -/
structure Ex1 (ds : List Nat) (L : List Cab) (s : Nat → Bool) (gs : List Nat) (res : List (Nat × Nat × Nat)) : Prop where
  pl : 2 ≤ ds.length ∧ ds.length ≤ 60 ∧ ∀ d ∈ ds, d ≤ 10 ^ 30
  sub : Sub ds.length (dd ds) L
  gr : gr ds.length L s = gs
  ca : 1 ≤ cA ds.length (dd ds) (lab L) s
  told : told ds L s = res
section
variable {σ : L2.St} {H : Hp} {ta : TA} {ds gs : List Nat} {L : List Cab} {s : Nat → Bool} {res : List (Nat × Nat × Nat)} {E : XK}
theorem ev_within (x : Ex1 ds L s gs res) (h : EvPA ta σ H [NL ds, CL L, NL gs]) : EvP (tCall sp_within [] E ta) σ H (LL (res.map TR)) :=
  evp_callX (mono_LL (mem_map_mono (fun _ => mono_TR) _)) h fun vs H1 H2 e1 e2 k => by
    cases k with
    | cons k1 k2 =>
      cases k2 with
      | cons k2 k3 =>
        cases k3 with
        | cons k3 k4 =>
          cases k4
          obtain ⟨pa, rfl, hpa⟩ := k1
          obtain ⟨ca, rfl⟩ := LL.ref k2
          obtain ⟨ga, rfl, hga⟩ := k3
          exact ⟨(pa, ca, ga, ds, L, s), ⟨rfl, ⟨⟨newp_ex _ _ hpa, x.pl⟩, mono_CL _ _ _ newp_ex k2, x.sub⟩, ⟨by show H2 ga = _; rw [x.gr]; exact newp_ex _ _ hga, x.ca⟩⟩, by show LL ((Ly.told ds L s).map TR) = _; rw [x.told]⟩
theorem ev_withinV {da : Addr} (x : Ex1 ds L s gs res) (hd : H da = some (.lst (ds.map iV))) (h : EvPA ta σ H [Is (.ref da), CL L, NL gs]) : EvP (tCall sp_within [] E ta) σ H (LL (res.map TR)) :=
  evp_callX (mono_LL (mem_map_mono (fun _ => mono_TR) _)) h fun vs H1 H2 e1 e2 k => by
    cases k with
    | cons k1 k2 =>
      cases k2 with
      | cons k2 k3 =>
        cases k3 with
        | cons k3 k4 =>
          cases k4
          have k1' : _ = V.ref da := k1
          subst k1'
          obtain ⟨ca, rfl⟩ := LL.ref k2
          obtain ⟨ga, rfl, hga⟩ := k3
          exact ⟨(da, ca, ga, ds, L, s), ⟨rfl, ⟨⟨(e1.trans e2) _ _ hd, x.pl⟩, mono_CL _ _ _ newp_ex k2, x.sub⟩, ⟨by show H2 ga = _; rw [x.gr]; exact newp_ex _ _ hga, x.ca⟩⟩, by show LL ((Ly.told ds L s).map TR) = _; rw [x.told]⟩
end
theorem ex_a : Ex1 [3, 2, 2, 1, 1, 1] [(0, 2), (0, 1)] (fun r => r == 0 || r == 3) [0, 1, 2, 3] [(3, 1, 1)] := ⟨⟨by decide, by decide, by decide⟩, sub_any ⟨by decide +kernel, by decide +kernel⟩ (by decide +kernel) (by decide +kernel) (by decide +kernel), by decide +kernel, by decide +kernel, by decide +kernel⟩
theorem ex_b : Ex1 [3, 2, 2, 1, 1, 1] [(1, 3)] (fun r => r == 0 || r == 1) [0, 1, 3] [(1, 1, 3), (2, 2, 3)] := ⟨⟨by decide, by decide, by decide⟩, sub_any ⟨by decide +kernel, by decide +kernel⟩ (by decide +kernel) (by decide +kernel) (by decide +kernel), by decide +kernel, by decide +kernel, by decide +kernel⟩
theorem ex_c : Ex1 [1, 1] [(0, 1)] (fun _ => true) [0, 1] [(1, 1, 1)] := ⟨⟨by decide, by decide, by decide⟩, sub_any ⟨by decide +kernel, by decide +kernel⟩ (by decide +kernel) (by decide +kernel) (by decide +kernel), by decide +kernel, by decide +kernel, by decide +kernel⟩
theorem ex_d : Ex1 [1, 1] [] (fun _ => true) [0, 1] [(1, 1, 1)] := ⟨⟨by decide, by decide, by decide⟩, sub_any ⟨by decide +kernel, by decide +kernel⟩ (by decide +kernel) (by decide +kernel) (by decide +kernel), by decide +kernel, by decide +kernel, by decide +kernel⟩
section
variable {P : Program} {w : World} {K : PySem.W.Frag} {mg : Str → Option Value} {base : Heap}
abbrev N_law : List Str := ["_law_script", "_law_k", "_law_store_here", "_law_deal", "_law_told"]
theorem sc_law : FnScope N_law ["_law_script"] (defScope s_law) := ⟨rfl, rfl, rfl, by decide +kernel, rfl, by decide +kernel, by decide +kernel⟩
def sp_law (K : PySem.W.Frag) : Sp := fun vs H Q _ => ∃ (a : Addr) (ns : List Int), vs = [.ref a] ∧ SqL K H a (ns.map V.int) ∧ ∀ H', Q (.bl true) H'
theorem ok_law (M : Ms mg) (F : Df K mg "law" s_law) (c_l_store : Cal P w K mg base 1 "_law_store" ["_law_script", "_law_k"] (sp_l_store K)) (c_l_small_right : CalG P w K mg base 8 "_law_small_right" ["_law_store_here"] sp_l_small_right) (c_l_great_right : CalG P w K mg base 8 "_law_great_right" ["_law_store_here", "_law_most"] sp_l_great_right)
    (c_within_shares_with : Cal P w K mg base 7 "within_shares_with" ["plugs", "cables", "group"] sp_within) (ck_within_shares_with : CalK P w K mg base 7 "within_shares_with" ["plugs", "cables", "group"] sp_within) : CalG P w K mg base 9 "law" ["_law_script"] (sp_law K) := by
  refine mk_calG F sc_law (fun vs H Q E h => ?_)
      (fun _ _ _ _ _ _ us hl => match us, hl with | [_], _ => rfl)
    (fun f cdv A outer s H vs Q E hr gd h => ⟨_,
      (pss_cons (ps_for PassesOwn.never rfl (pi_range1 rfl M.range (pa_cons (pe_callB (call_max2 rfl) (by rfl) M.max (by decide +kernel) (pa_cons pe_int (pa_cons (pe_callB (call_min2 rfl) (by rfl) M.min (by decide +kernel) (pa_cons pe_int (pa_cons (pe_callB call_len_seq (by rfl) M.len PySem.boot_len (pa_cons (pv 0) pa_nil)) pa_nil))) pa_nil))) pa_nil)) (pg_name (i := 1) sc_law.nd rfl (by first | exact Or.inl rfl | exact Or.inr rfl))
          (pss_cons (ps_set (i := 2) sc_law.nd rfl (by first | exact Or.inl rfl | exact Or.inr rfl) (pe_cal c_l_store hr (pa_cons (pv 0) (pa_cons (pv 1) pa_nil))))
        (pss_one (ps_if (PW.pt (pw_or (pt_not (pt_val (pe_calG c_l_small_right hr gd (pa_cons (pv 2) pa_nil)))) (pw_or1 (PW.pt (pw_and (pt_cmpR op_lt (pv 1) pe_int (nomark _)) (pw_and1 (pt_not (pt_val (pe_calG c_l_great_right hr gd (pa_cons (pv 2) (pa_cons (pe_ix ix_list (pe_lst (pa_cons pe_int (pa_cons pe_int pa_nil))) (pv 1) (fun _ _ => rfl)) pa_nil)))))))))))
          (pss_one (ps_ret pe_bl))
          pss_nil))))
        (pss_cons (ps_set (i := 3) sc_law.nd rfl (by first | exact Or.inl rfl | exact Or.inr rfl) (pe_lst (pa_cons pe_int (pa_cons pe_int (pa_cons pe_int (pa_cons pe_int (pa_cons pe_int (pa_cons pe_int pa_nil))))))))
        (pss_cons (ps_set (i := 4) sc_law.nd rfl (by first | exact Or.inl rfl | exact Or.inr rfl) (pe_calK ck_within_shares_with hr (pk_cons (pv 3) (pk_cons (pe_lst (pa_cons (pe_tup (pa_cons pe_int (pa_cons pe_int pa_nil))) (pa_cons (pe_tup (pa_cons pe_int (pa_cons pe_int pa_nil))) pa_nil))) (pk_cons (pe_lst (pa_cons pe_int (pa_cons pe_int (pa_cons pe_int (pa_cons pe_int pa_nil))))) pk_nil)))))
        (pss_cons (ps_if (PW.pt (pw_or (pt_cmpR (op_neD hr.units) (pv 4) (pe_lst (pa_cons (pe_tup (pa_cons pe_int (pa_cons pe_int (pa_cons pe_int pa_nil)))) pa_nil)) (nomark _)) (pw_or1 (pt_cmpR (op_neD hr.units) (pe_cal c_within_shares_with hr (pa_cons (pv 3) (pa_cons (pe_lst (pa_cons (pe_tup (pa_cons pe_int (pa_cons pe_int pa_nil))) pa_nil)) (pa_cons (pe_lst (pa_cons pe_int (pa_cons pe_int (pa_cons pe_int pa_nil)))) pa_nil)))) (pe_lst (pa_cons (pe_tup (pa_cons pe_int (pa_cons pe_int (pa_cons pe_int pa_nil)))) (pa_cons (pe_tup (pa_cons pe_int (pa_cons pe_int (pa_cons pe_int pa_nil)))) pa_nil))) (nomark _)))))
          (pss_one (ps_ret pe_bl))
          pss_nil)
        (pss_one (ps_ret (pe_chain (op_eqD hr.units) (op_eqD hr.units) (pe_cal c_within_shares_with hr (pa_cons (pe_lst (pa_cons pe_int (pa_cons pe_int pa_nil))) (pa_cons (pe_lst (pa_cons (pe_tup (pa_cons pe_int (pa_cons pe_int pa_nil))) pa_nil)) (pa_cons (pe_lst (pa_cons pe_int (pa_cons pe_int pa_nil))) pa_nil)))) (pe_cal c_within_shares_with hr (pa_cons (pe_lst (pa_cons pe_int (pa_cons pe_int pa_nil))) (pa_cons (pe_lst pa_nil) (pa_cons (pe_lst (pa_cons pe_int (pa_cons pe_int pa_nil))) pa_nil)))) (pe_lst (pa_cons (pe_tup (pa_cons pe_int (pa_cons pe_int (pa_cons pe_int pa_nil)))) pa_nil)))))))))
    , ?_⟩)
  · obtain ⟨_, _, rfl, _⟩ := h; rfl
  · obtain ⟨a, ns, rfl, hS, q⟩ := h
    have nn : ∀ (k : Nat), 1 ≤ max 1 (min 4 k) ∧ max 1 (min 4 k) ≤ 4 := fun k => by omega
    obtain ⟨n1, n4⟩ := nn ns.length
    refine q_for (itw_range1 (n := max 1 (min 4 ns.length)) (ea_cons (ev_maxN (ev_c (v := iV 1)) (ev_minN (ev_c (v := iV 4)) (ev_is (ev_len0 (K := K) (ev_var rfl) hS) (by rw [List.length_map]; rfl)))) ea_nil) (by omega))
      (fun i σ' H' => ∃ y1 y2 : Option V, σ' = [some (.ref a), y1, y2, none, none] ∧ Ex H H') (fun H1 e1 => ⟨none, none, rfl, e1⟩) (fun _ _ _ _ => trivial) (fun k x σ' H' H1 hk hwv e1 hx => ?_) (fun σ' H1 hwv => ?_)
    · obtain ⟨y1, y2, rfl, ex⟩ := hwv
      subst hx
      have ex1 := ex.trans e1
      refine q_asgP (evp_call (a, ns, k) (Φ := fun _ => StoN) (fun v G G' e ⟨st, h1, h2⟩ => ⟨st, h1, h2.mono e⟩) (ea_cons (ev_var rfl) (ea_cons (ev_var rfl) ea_nil)) fun H2 e => ⟨rfl, ex_l (ex1.trans e) hS, by show k ≤ 3; omega⟩) fun v H2 e2 hv => ?_
      obtain ⟨st, rfl, hst⟩ := hv
      obtain ⟨x0, y0, c0, hs1, hs2, hs3⟩ := hst
      have hs1' := newp_is hs1
      have s2 : Sto H2 st 0 := ⟨x0, y0, c0, hs1'.2, hs2, hs3⟩
      have keep : ∀ {H3}, Es st H2 H3 → Ex H H3 := fun e => (ex1.trans (ex_del e2 hs1'.1)).trans e
      refine cm_call (st := st) (N := 0) (lim := limS) (Φ := fun _ => Is (.bl true)) () mono_is (ea_cons (ev_var rfl) ea_nil) (fun _ _ => rfl) s2 (by unfold limS; omega) fun v H3 e3 s3 hv => ?_
      have hv' : v = .bl true := hv
      subst hv'
      refine ⟨true, rfl, ?_⟩
      show (if (!true) = true then _ else _)
      rw [if_neg (by decide)]
      refine et_test (ev_op (ev_var (σ := [some (.ref a), some (iV k), some (.ref st), none, none]) (i := 1) (v := iV k) rfl) (ev_c (v := .int 2)) rv_I0) H3 (Ex.refl _) _ fun H4 e4 => ?_
      by_cases hb : decide ((k : Int) < 2) = true
      · show (if decide ((k : Int) < 2) = true then _ else _)
        rw [if_pos hb]
        have hk2 : k < 2 := by have := of_decide_eq_true hb; omega
        have hmo : ∃ m : Nat, (m = 60 ∨ m = 24) ∧ atI [V.int 60, V.int 24] (k : Int) = some (iV m) := by
          match k, hk2 with
          | 0, _ => exact ⟨60, .inl rfl, rfl⟩
          | 1, _ => exact ⟨24, .inr rfl, rfl⟩
        obtain ⟨m, hm, hat⟩ := hmo
        refine cm_call (st := st) (N := 0 + limS) (lim := limG) (Φ := fun _ => Is (.bl true)) m mono_is (ea_cons (ev_var rfl) (ea_cons (ev_ixL (K := K) (el_lst (ea_cons ev_c (ea_cons ev_c ea_nil)) (by show 2 ≤ 100000; decide)) (ev_var rfl) hat) ea_nil)) (fun _ _ => ⟨rfl, hm⟩) (s3.mono e4) (by unfold limS limG; omega) fun v H5 e5 s5 hv => ?_
        have hv' : v = .bl true := hv
        subst hv'
        refine ⟨true, rfl, ?_⟩
        show (if (!true) = true then _ else _)
        rw [if_neg (by decide)]
        exact ⟨some (iV k), some (.ref st), rfl, keep (e3.trans ((Es.of e4).trans e5))⟩
      · show (if decide ((k : Int) < 2) = true then _ else _)
        rw [if_neg hb]
        show (if false = true then _ else _)
        rw [if_neg (by decide)]
        exact ⟨some (iV k), some (.ref st), rfl, keep (e3.trans (.of e4))⟩
    · obtain ⟨y1, y2, rfl, ex⟩ := hwv
      have cab2 : ∀ (σ : L2.St) (G : Hp) (i j : Nat), EvP (tTup (tCons (tC (iV i)) (tCons (tC (iV j)) tNil))) σ G (CB (i, j)) := fun σ G i j => evp_ofU (eu_tup (ea_cons ev_c (ea_cons ev_c ea_nil)) (by show 2 ≤ 100000; decide))
      have tri : ∀ (σ : L2.St) (G : Hp) (t : Nat × Nat × Nat), EvP (tTup (tCons (tC (iV t.1)) (tCons (tC (iV t.2.1)) (tCons (tC (iV t.2.2)) tNil)))) σ G (TR t) := fun σ G t => evp_ofU (eu_tup (ea_cons ev_c (ea_cons ev_c (ea_cons ev_c ea_nil))) (by show 3 ≤ 100000; decide))
      have trisD1 : ∀ (σ : L2.St) (G : Hp) (t : Nat × Nat × Nat), EvD K (tLst (tCons (tTup (tCons (tC (iV t.1)) (tCons (tC (iV t.2.1)) (tCons (tC (iV t.2.2)) tNil)))) tNil)) σ G (listD triD [t]) := fun σ G t => evd_new (Φ := LL ([t].map TR)) (mono_LL (mem_map_mono (fun _ => mono_TR) _)) (evp_lst (mono1 mono_TR) (epa_cons mono_TR (fun _ h => nomatch h) (tri σ G t) epa_nil) (by show 1 ≤ 100000; decide)) fun v G' h => dp_list (Φ := TR) (fun _ _ h => dp_TR h) h
      have trisD2 : ∀ (σ : L2.St) (G : Hp) (t u : Nat × Nat × Nat), EvD K (tLst (tCons (tTup (tCons (tC (iV t.1)) (tCons (tC (iV t.2.1)) (tCons (tC (iV t.2.2)) tNil)))) (tCons (tTup (tCons (tC (iV u.1)) (tCons (tC (iV u.2.1)) (tCons (tC (iV u.2.2)) tNil)))) tNil))) σ G (listD triD [t, u]) := fun σ G t u => evd_new (Φ := LL ([t, u].map TR)) (mono_LL (mem_map_mono (fun _ => mono_TR) _)) (evp_lst (mono2 mono_TR mono_TR) (epa_cons mono_TR (mono1 mono_TR) (tri σ G t) (epa_cons mono_TR (fun _ h => nomatch h) (tri σ G u) epa_nil)) (by show 2 ≤ 100000; decide)) fun v G' h => dp_list (Φ := TR) (fun _ _ h => dp_TR h) h
      have resD : ∀ {te : TE} {σ : L2.St} {G : Hp} {res : List (Nat × Nat × Nat)}, EvP te σ G (LL (res.map TR)) → EvD K te σ G (listD triD res) := fun h => evd_new (mono_LL (mem_map_mono (fun _ => mono_TR) _)) h fun v G' h => dp_list (Φ := TR) (fun _ _ h => dp_TR h) h
      have m3 : ∀ {Φ Ψ : Ph}, Mono Φ → Mono Ψ → ∀ X ∈ [Φ, Ψ], Mono X := mono2
      refine q_asgL (el_lst (ea_cons (ev_c (v := iV 3)) (ea_cons (ev_c (v := iV 2)) (ea_cons (ev_c (v := iV 2)) (ea_cons (ev_c (v := iV 1)) (ea_cons (ev_c (v := iV 1)) (ea_cons (ev_c (v := iV 1)) ea_nil)))))) (by show 6 ≤ 100000; decide)) fun da H2 hda e2 h2 => ?_
      have hD : H2 da = some (.lst (([3, 2, 2, 1, 1, 1] : List Nat).map iV)) := h2
      refine q_asgP (ev_withinV ex_a hD (epa_cons mono_is (m3 mono_CL mono_NL) (evp_of (ev_var rfl)) (epa_cons mono_CL (mono1 mono_NL) (evp_lst (mono2 mono_CB mono_CB) (epa_cons mono_CB (mono1 mono_CB) (cab2 _ _ 0 2) (epa_cons mono_CB (fun _ h => nomatch h) (cab2 _ _ 0 1) epa_nil)) (by show 2 ≤ 100000; decide))
        (epa_cons mono_NL (fun _ h => nomatch h) (evp_ofL (el_lst (ea_cons (ev_c (v := iV 0)) (ea_cons (ev_c (v := iV 1)) (ea_cons (ev_c (v := iV 2)) (ea_cons (ev_c (v := iV 3)) ea_nil)))) (by show 4 ≤ 100000; decide))) epa_nil)))) fun v H3 e3 hv => ?_
      have hv3 := mono_LL (mem_map_mono (fun _ => mono_TR) _) _ _ _ (newp_ex (H1 := H2) (H2 := H3)) hv
      obtain ⟨ta, tv, rfl, hta, htal⟩ := hv3
      have hD3 := e3 _ _ hD
      refine q_when (b := false) (et_is (et_or (et_test (ev_neD (evd_val (d := listD triD [(3, 1, 1)]) (ev_var rfl) fun H4 e4 => dp_list (Φ := TR) (fun _ _ h => dp_TR h) ⟨ta, tv, rfl, e4 _ _ hta, htal.mono e4 (mem_map_mono (fun _ => mono_TR) _)⟩) (trisD1 _ _ (3, 1, 1)) (shaped_T _) (shaped_T _))) fun _ => et_test (ev_neD (resD (ev_withinV ex_b hD3 (epa_cons mono_is (m3 mono_CL mono_NL) (evp_of (ev_var rfl)) (epa_cons mono_CL (mono1 mono_NL) (evp_lst (mono1 mono_CB) (epa_cons mono_CB (fun _ h => nomatch h) (cab2 _ _ 1 3) epa_nil) (by show 1 ≤ 100000; decide))
        (epa_cons mono_NL (fun _ h => nomatch h) (evp_ofL (el_lst (ea_cons (ev_c (v := iV 0)) (ea_cons (ev_c (v := iV 1)) (ea_cons (ev_c (v := iV 3)) ea_nil))) (by show 3 ≤ 100000; decide))) epa_nil))))) (trisD2 _ _ (1, 1, 3) (2, 2, 3)) (shaped_T _) (shaped_T _))) (by rw [eqv_dec eqv_T, eqv_dec eqv_T]; decide)) (fun z => Bool.noConfusion z) fun _ H4 e4 => ?_
      have two : ∀ (σ : L2.St) (G : Hp) (i j : Nat), EvP (tLst (tCons (tC (iV i)) (tCons (tC (iV j)) tNil))) σ G (NL [i, j]) := fun σ G i j => evp_ofL (el_lst (ea_cons ev_c (ea_cons ev_c ea_nil)) (by show 2 ≤ 100000; decide))
      refine s_ret (ev_chainD (K := K) (resD (ev_within ex_c (epa_cons mono_NL (m3 mono_CL mono_NL) (two _ _ 1 1) (epa_cons mono_CL (mono1 mono_NL) (evp_lst (mono1 mono_CB) (epa_cons mono_CB (fun _ h => nomatch h) (cab2 _ _ 0 1) epa_nil) (by show 1 ≤ 100000; decide)) (epa_cons mono_NL (fun _ h => nomatch h) (two _ _ 0 1) epa_nil)))))
        (resD (ev_within ex_d (epa_cons mono_NL (m3 mono_CL mono_NL) (two _ _ 1 1) (epa_cons mono_CL (mono1 mono_NL) (evp_lst (Φs := [].map CB) (fun _ h => nomatch h) epa_nil (Nat.zero_le _)) (epa_cons mono_NL (fun _ h => nomatch h) (two _ _ 0 1) epa_nil))))) (trisD1 _ _ (1, 1, 1)) (shaped_T _) (shaped_T _) (shaped_T _)) fun H5 e5 => ?_
      rw [eqv_dec eqv_T, decide_eq_true rfl]
      exact q H5
end
end Ly
end
set_option Elab.async false
set_option linter.all false
set_option maxRecDepth 100000
set_option maxHeartbeats 4000000
/-! The end: all defs together, the law's call. -/
namespace Ly
open PySem PySem.Spec PyProof.Rows L2 Evl Hd Pn
theorem ms_of {K : PySem.W.Frag} {h : Heap} {mg : Str → Option Value} (X : K.In h) (G : h.Ns mainGlobals mg) (c : He.SaysD Hd.fa Hd.fn K) : Ms mg := by
  refine ⟨He.free_ok X G (c.fact 44 (f := .free "abs") rfl),
    He.free_ok X G (c.fact 45 (f := .free "len") rfl),
    He.free_ok X G (c.fact 46 (f := .free "max") rfl),
    He.free_ok X G (c.fact 47 (f := .free "min") rfl),
    He.free_ok X G (c.fact 48 (f := .free "int") rfl),
    He.free_ok X G (c.fact 49 (f := .free "bool") rfl),
    He.free_ok X G (c.fact 50 (f := .free "list") rfl),
    He.free_ok X G (c.fact 51 (f := .free "tuple") rfl),
    He.free_ok X G (c.fact 52 (f := .free "range") rfl),
    He.free_ok X G (c.fact 53 (f := .free "sorted") rfl),
    He.free_ok X G (c.fact 54 (f := .free "sum") rfl),
    He.free_ok X G (c.fact 55 (f := .free "set") rfl),
    He.free_ok X G (c.fact 56 (f := .free "repr") rfl),
    He.free_ok X G (c.fact 57 (f := .free "isinstance") rfl),
    He.free_ok X G (c.fact 58 (f := .free "all") rfl),
    He.free_ok X G (c.fact 59 (f := .free "zip") rfl),
    He.free_ok X G (c.fact 60 (f := .free "enumerate") rfl),
    He.int_ok X G (c.fact 61 (f := .int "MOST_DEVICES" 60) rfl),
    He.int_ok X G (c.fact 62 (f := .int "MOST_NUMBER" 1000000000000000000000000000000) rfl),
    He.int_ok X G (c.fact 63 (f := .int "MOST_CABLES" 59) rfl)⟩
theorem cal_law {P : Program} {w : World} {K : PySem.W.Frag} {h : Heap} {mg : Str → Option Value} (X : K.In h) (G : h.Ns mainGlobals mg) (c : He.SaysD Hd.fa Hd.fn K) (base : Heap) : CalG P w K mg base 9 "law" ["_law_script"] (sp_law K) := by
  have M := ms_of X G c
  have F_is_integer : Df K mg "is_integer" s_is_integer := by
    obtain ⟨fd, F⟩ := c.def_ 0 (d := d_is_integer) rfl
    exact ⟨_, fd, F, He.glo_ok X G (c.fact 0 (f := .glo "is_integer") rfl)⟩
  have c_is_integer := ok_is_integer (P := P) (w := w) (base := base) M F_is_integer
  have F_is_number : Df K mg "is_number" s_is_number := by
    obtain ⟨fd, F⟩ := c.def_ 1 (d := d_is_number) rfl
    exact ⟨_, fd, F, He.glo_ok X G (c.fact 1 (f := .glo "is_number") rfl)⟩
  have c_is_number := ok_is_number (P := P) (w := w) (base := base) M F_is_number c_is_integer
  have F_is_plugs : Df K mg "is_plugs" s_is_plugs := by
    obtain ⟨fd, F⟩ := c.def_ 2 (d := d_is_plugs) rfl
    exact ⟨_, fd, F, He.glo_ok X G (c.fact 2 (f := .glo "is_plugs") rfl)⟩
  have c_is_plugs := ok_is_plugs (P := P) (w := w) (base := base) M F_is_plugs c_is_number
  have F_need_plugs : Df K mg "need_plugs" s_need_plugs := by
    obtain ⟨fd, F⟩ := c.def_ 3 (d := d_need_plugs) rfl
    exact ⟨_, fd, F, He.glo_ok X G (c.fact 3 (f := .glo "need_plugs") rfl)⟩
  have c_need_plugs := ok_need_plugs (P := P) (w := w) (base := base) F_need_plugs c_is_plugs
  have F_too_many : Df K mg "too_many" s_too_many := by
    obtain ⟨fd, F⟩ := c.def_ 4 (d := d_too_many) rfl
    exact ⟨_, fd, F, He.glo_ok X G (c.fact 4 (f := .glo "too_many") rfl)⟩
  have c_too_many := ok_too_many (P := P) (w := w) (base := base) M F_too_many
  have F_conflict_in : Df K mg "conflict_in" s_conflict_in := by
    obtain ⟨fd, F⟩ := c.def_ 5 (d := d_conflict_in) rfl
    exact ⟨_, fd, F, He.glo_ok X G (c.fact 5 (f := .glo "conflict_in") rfl)⟩
  have c_conflict_in := ok_conflict_in (P := P) (w := w) (base := base) F_conflict_in c_too_many
  have F_need_net : Df K mg "need_net" s_need_net := by
    obtain ⟨fd, F⟩ := c.def_ 6 (d := d_need_net) rfl
    exact ⟨_, fd, F, He.glo_ok X G (c.fact 6 (f := .glo "need_net") rfl)⟩
  have c_need_net := ok_need_net (P := P) (w := w) (base := base) F_need_net c_conflict_in
  have F_is_cable_of : Df K mg "is_cable_of" s_is_cable_of := by
    obtain ⟨fd, F⟩ := c.def_ 7 (d := d_is_cable_of) rfl
    exact ⟨_, fd, F, He.glo_ok X G (c.fact 7 (f := .glo "is_cable_of") rfl)⟩
  have c_is_cable_of := ok_is_cable_of (P := P) (w := w) (base := base) M F_is_cable_of c_is_integer
  have F_joined_parts : Df K mg "joined_parts" s_joined_parts := by
    obtain ⟨fd, F⟩ := c.def_ 8 (d := d_joined_parts) rfl
    exact ⟨_, fd, F, He.glo_ok X G (c.fact 8 (f := .glo "joined_parts") rfl)⟩
  have c_joined_parts := ok_joined_parts (P := P) (w := w) (base := base) M F_joined_parts
  have F_plugs_in : Df K mg "plugs_in" s_plugs_in := by
    obtain ⟨fd, F⟩ := c.def_ 9 (d := d_plugs_in) rfl
    exact ⟨_, fd, F, He.glo_ok X G (c.fact 9 (f := .glo "plugs_in") rfl)⟩
  have c_plugs_in := ok_plugs_in (P := P) (w := w) (base := base) F_plugs_in
  have F_divisor_of : Df K mg "divisor_of" s_divisor_of := by
    obtain ⟨fd, F⟩ := c.def_ 10 (d := d_divisor_of) rfl
    exact ⟨_, fd, F, He.glo_ok X G (c.fact 10 (f := .glo "divisor_of") rfl)⟩
  have c_divisor_of := ok_divisor_of (P := P) (w := w) (base := base) F_divisor_of
  have F_lowest : Df K mg "lowest" s_lowest := by
    obtain ⟨fd, F⟩ := c.def_ 11 (d := d_lowest) rfl
    exact ⟨_, fd, F, He.glo_ok X G (c.fact 11 (f := .glo "lowest") rfl)⟩
  have c_lowest := ok_lowest (P := P) (w := w) (base := base) F_lowest c_divisor_of
  have F_choices : Df K mg "choices" s_choices := by
    obtain ⟨fd, F⟩ := c.def_ 12 (d := d_choices) rfl
    exact ⟨_, fd, F, He.glo_ok X G (c.fact 12 (f := .glo "choices") rfl)⟩
  have c_choices := ok_choices (P := P) (w := w) (base := base) M F_choices
  have F_is_group : Df K mg "is_group" s_is_group := by
    obtain ⟨fd, F⟩ := c.def_ 13 (d := d_is_group) rfl
    exact ⟨_, fd, F, He.glo_ok X G (c.fact 13 (f := .glo "is_group") rfl)⟩
  have c_is_group := ok_is_group (P := P) (w := w) (base := base) M F_is_group c_is_integer
  have F_need_group : Df K mg "need_group" s_need_group := by
    obtain ⟨fd, F⟩ := c.def_ 14 (d := d_need_group) rfl
    exact ⟨_, fd, F, He.glo_ok X G (c.fact 14 (f := .glo "need_group") rfl)⟩
  have c_need_group := ok_need_group (P := P) (w := w) (base := base) F_need_group c_is_group
  have F_is_cable : Df K mg "is_cable" s_is_cable := by
    obtain ⟨fd, F⟩ := c.def_ 15 (d := d_is_cable) rfl
    exact ⟨_, fd, F, He.glo_ok X G (c.fact 15 (f := .glo "is_cable") rfl)⟩
  have c_is_cable := ok_is_cable (P := P) (w := w) (base := base) F_is_cable c_is_cable_of
  have F_need_cables : DfD K mg "need_cables" s_need_cables [.int 59] := by
    obtain ⟨fd, F⟩ := c.def_ 16 (d := d_need_cables) rfl
    exact ⟨_, fd, F, He.glo_ok X G (c.fact 16 (f := .glo "need_cables") rfl)⟩
  have c_need_cables := ok_need_cables (P := P) (w := w) (base := base) M F_need_cables c_is_cable
  have F_parts_in : Df K mg "parts_in" s_parts_in := by
    obtain ⟨fd, F⟩ := c.def_ 17 (d := d_parts_in) rfl
    exact ⟨_, fd, F, He.glo_ok X G (c.fact 17 (f := .glo "parts_in") rfl)⟩
  have c_parts_in := ok_parts_in (P := P) (w := w) (base := base) M F_parts_in c_joined_parts
  have F_open_in : Df K mg "open_in" s_open_in := by
    obtain ⟨fd, F⟩ := c.def_ 18 (d := d_open_in) rfl
    exact ⟨_, fd, F, He.glo_ok X G (c.fact 18 (f := .glo "open_in") rfl)⟩
  have c_open_in := ok_open_in (P := P) (w := w) (base := base) M F_open_in c_plugs_in
  have F_ring_in : Df K mg "ring_in" s_ring_in := by
    obtain ⟨fd, F⟩ := c.def_ 19 (d := d_ring_in) rfl
    exact ⟨_, fd, F, He.glo_ok X G (c.fact 19 (f := .glo "ring_in") rfl)⟩
  have c_ring_in := ok_ring_in (P := P) (w := w) (base := base) M F_ring_in
  have F_paper_in : Df K mg "paper_in" s_paper_in := by
    obtain ⟨fd, F⟩ := c.def_ 20 (d := d_paper_in) rfl
    exact ⟨_, fd, F, He.glo_ok X G (c.fact 20 (f := .glo "paper_in") rfl)⟩
  have c_paper_in := ok_paper_in (P := P) (w := w) (base := base) M F_paper_in c_open_in c_ring_in c_parts_in
  have F_need_known : Df K mg "need_known" s_need_known := by
    obtain ⟨fd, F⟩ := c.def_ 21 (d := d_need_known) rfl
    exact ⟨_, fd, F, He.glo_ok X G (c.fact 21 (f := .glo "need_known") rfl)⟩
  have c_need_known := ok_need_known (P := P) (w := w) (base := base) M F_need_known c_need_plugs c_need_cables c_need_net
  have F_need_held : Df K mg "need_held" s_need_held := by
    obtain ⟨fd, F⟩ := c.def_ 22 (d := d_need_held) rfl
    exact ⟨_, fd, F, He.glo_ok X G (c.fact 22 (f := .glo "need_held") rfl)⟩
  have c_need_held := ok_need_held (P := P) (w := w) (base := base) F_need_held c_need_known c_paper_in
  have F_tops_within : Df K mg "tops_within" s_tops_within := by
    obtain ⟨fd, F⟩ := c.def_ 23 (d := d_tops_within) rfl
    exact ⟨_, fd, F, He.glo_ok X G (c.fact 23 (f := .glo "tops_within") rfl)⟩
  have c_tops_within := ok_tops_within (P := P) (w := w) (base := base) M F_tops_within c_choices
  have F_within_shares_with : Df K mg "within_shares_with" s_within_shares_with := by
    obtain ⟨fd, F⟩ := c.def_ 24 (d := d_within_shares_with) rfl
    exact ⟨_, fd, F, He.glo_ok X G (c.fact 24 (f := .glo "within_shares_with") rfl)⟩
  have c_within_shares_with := ok_within (P := P) (w := w) (base := base) M F_within_shares_with c_need_plugs c_need_cables c_need_group c_need_held c_parts_in c_open_in c_tops_within c_lowest
  have ck_within_shares_with : CalK P w K mg base 7 "within_shares_with" ["plugs", "cables", "group"] sp_within := mk_calK F_within_shares_with (fun FD => fn_within M FD c_need_plugs c_need_cables c_need_group c_need_held c_parts_in c_open_in c_tops_within c_lowest) fun _ _ _ _ _ _ us hl => match us, hl with | [_, _, _], _ => rfl
  have F_l_store : Df K mg "_law_store" s_l_store := by
    obtain ⟨fd, F⟩ := c.def_ 25 (d := d_l_store) rfl
    exact ⟨_, fd, F, He.glo_ok X G (c.fact 25 (f := .glo "_law_store") rfl)⟩
  have c_l_store := ok_l_store (P := P) (w := w) (base := base) M F_l_store
  have F_l_pick : Df K mg "_law_pick" s_l_pick := by
    obtain ⟨fd, F⟩ := c.def_ 26 (d := d_l_pick) rfl
    exact ⟨_, fd, F, He.glo_ok X G (c.fact 26 (f := .glo "_law_pick") rfl)⟩
  have c_l_pick := ok_l_pick (P := P) (w := w) (base := base) M F_l_pick
  have F_l_plugs : Df K mg "_law_plugs" s_l_plugs := by
    obtain ⟨fd, F⟩ := c.def_ 28 (d := d_l_plugs) rfl
    exact ⟨_, fd, F, He.glo_ok X G (c.fact 28 (f := .glo "_law_plugs") rfl)⟩
  have c_l_plugs := ok_l_plugs (P := P) (w := w) (base := base) M F_l_plugs
  have F_l_binomial : Df K mg "_law_binomial" s_l_binomial := by
    obtain ⟨fd, F⟩ := c.def_ 35 (d := d_l_binomial) rfl
    exact ⟨_, fd, F, He.glo_ok X G (c.fact 35 (f := .glo "_law_binomial") rfl)⟩
  have c_l_binomial := ok_l_binomial (P := P) (w := w) (base := base) M F_l_binomial
  have F_l_fraction : Df K mg "_law_fraction" s_l_fraction := by
    obtain ⟨fd, F⟩ := c.def_ 37 (d := d_l_fraction) rfl
    exact ⟨_, fd, F, He.glo_ok X G (c.fact 37 (f := .glo "_law_fraction") rfl)⟩
  have c_l_fraction := ok_l_fraction (P := P) (w := w) (base := base) M F_l_fraction
  have F_l_many : Df K mg "_law_many" s_l_many := by
    obtain ⟨fd, F⟩ := c.def_ 30 (d := d_l_many) rfl
    exact ⟨_, fd, F, He.glo_ok X G (c.fact 30 (f := .glo "_law_many") rfl)⟩
  have c_l_many := ok_l_many (P := P) (w := w) (base := base) M F_l_many
  have F_l_net : Df K mg "_law_net" s_l_net := by
    obtain ⟨fd, F⟩ := c.def_ 29 (d := d_l_net) rfl
    exact ⟨_, fd, F, He.glo_ok X G (c.fact 29 (f := .glo "_law_net") rfl)⟩
  have c_l_net := ok_l_net (P := P) (w := w) (base := base) M F_l_net c_l_plugs
  have F_l_words : Df K mg "_law_words" s_l_words := by
    obtain ⟨fd, F⟩ := c.def_ 32 (d := d_l_words) rfl
    exact ⟨_, fd, F, He.glo_ok X G (c.fact 32 (f := .glo "_law_words") rfl)⟩
  have c_l_words := ok_l_words (P := P) (w := w) (base := base) M F_l_words
  have F_l_nets : Df K mg "_law_nets" s_l_nets := by
    obtain ⟨fd, F⟩ := c.def_ 33 (d := d_l_nets) rfl
    exact ⟨_, fd, F, He.glo_ok X G (c.fact 33 (f := .glo "_law_nets") rfl)⟩
  have c_l_nets := ok_l_nets (P := P) (w := w) (base := base) M F_l_nets c_l_net c_l_words
  have F_l_word : Df K mg "_law_word" s_l_word := by
    obtain ⟨fd, F⟩ := c.def_ 27 (d := d_l_word) rfl
    exact ⟨_, fd, F, He.glo_ok X G (c.fact 27 (f := .glo "_law_word") rfl)⟩
  have c_l_word := ok_l_word (P := P) (w := w) (base := base) M F_l_word c_l_pick
  have F_l_small : Df K mg "_law_small" s_l_small := by
    obtain ⟨fd, F⟩ := c.def_ 31 (d := d_l_small) rfl
    exact ⟨_, fd, F, He.glo_ok X G (c.fact 31 (f := .glo "_law_small") rfl)⟩
  have c_l_small := ok_l_small (P := P) (w := w) (base := base) M F_l_small c_l_pick c_l_word c_l_many
  have F_l_great : Df K mg "_law_great" s_l_great := by
    obtain ⟨fd, F⟩ := c.def_ 34 (d := d_l_great) rfl
    exact ⟨_, fd, F, He.glo_ok X G (c.fact 34 (f := .glo "_law_great") rfl)⟩
  have c_l_great := ok_l_great (P := P) (w := w) (base := base) M F_l_great c_l_pick c_l_word c_l_plugs
  have F_l_parts : Df K mg "_law_parts" s_l_parts := by
    obtain ⟨fd, F⟩ := c.def_ 36 (d := d_l_parts) rfl
    exact ⟨_, fd, F, He.glo_ok X G (c.fact 36 (f := .glo "_law_parts") rfl)⟩
  have c_l_parts := ok_l_parts (P := P) (w := w) (base := base) M F_l_parts
  have F_l_some_cables : Df K mg "_law_some_cables" s_l_some_cables := by
    obtain ⟨fd, F⟩ := c.def_ 38 (d := d_l_some_cables) rfl
    exact ⟨_, fd, F, He.glo_ok X G (c.fact 38 (f := .glo "_law_some_cables") rfl)⟩
  have c_l_some_cables := ok_l_some_cables (P := P) (w := w) (base := base) M F_l_some_cables c_l_pick
  have F_l_some_parts : Df K mg "_law_some_parts" s_l_some_parts := by
    obtain ⟨fd, F⟩ := c.def_ 39 (d := d_l_some_parts) rfl
    exact ⟨_, fd, F, He.glo_ok X G (c.fact 39 (f := .glo "_law_some_parts") rfl)⟩
  have c_l_some_parts := ok_l_some_parts (P := P) (w := w) (base := base) M F_l_some_parts c_l_pick
  have F_l_drawn_net : Df K mg "_law_drawn_net" s_l_drawn_net := by
    obtain ⟨fd, F⟩ := c.def_ 41 (d := d_l_drawn_net) rfl
    exact ⟨_, fd, F, He.glo_ok X G (c.fact 41 (f := .glo "_law_drawn_net") rfl)⟩
  have c_l_drawn_net := ok_l_drawn_net (P := P) (w := w) (base := base) M F_l_drawn_net c_l_pick
  have F_l_small_right : Df K mg "_law_small_right" s_l_small_right := by
    obtain ⟨fd, F⟩ := c.def_ 40 (d := d_l_small_right) rfl
    exact ⟨_, fd, F, He.glo_ok X G (c.fact 40 (f := .glo "_law_small_right") rfl)⟩
  have c_l_small_right := ok_l_small_right (P := P) (w := w) (base := base) M F_l_small_right c_l_pick c_l_small c_l_plugs c_l_nets c_l_some_cables c_l_some_parts c_l_parts c_l_fraction c_within_shares_with
  have F_l_great_right : Df K mg "_law_great_right" s_l_great_right := by
    obtain ⟨fd, F⟩ := c.def_ 42 (d := d_l_great_right) rfl
    exact ⟨_, fd, F, He.glo_ok X G (c.fact 42 (f := .glo "_law_great_right") rfl)⟩
  have c_l_great_right := ok_l_great_right (P := P) (w := w) (base := base) M F_l_great_right c_l_pick c_l_great c_l_drawn_net c_l_some_cables c_l_some_parts c_l_parts c_l_binomial c_l_fraction c_within_shares_with
  have F_law : Df K mg "law" s_law := by
    obtain ⟨fd, F⟩ := c.def_ 43 (d := d_law) rfl
    exact ⟨_, fd, F, He.glo_ok X G (c.fact 43 (f := .glo "law") rfl)⟩
  exact ok_law (P := P) (w := w) (base := base) M F_law c_l_store c_l_small_right c_l_great_right c_within_shares_with ck_within_shares_with
/-- the law's call, from its caller -/
theorem law_run {P : Program} {w : World} {K : PySem.W.Frag} {mg mb : Str → Option Value} {fa a : Addr} {s₁ : Shared} {vs : List Value} {ns : List Int} (inK : K.In s₁.heap) (globals : s₁.heap.Ns mainGlobals mg) (builtins : s₁.heap.Ns builtinsNs mb) (asBoot : ∀ x : Str, x ≠ "__name__" → mb x = bootBuiltins x)
    (noLimit : s₁.heap.NoLimit) (noGens : s₁.gens = #[]) (script : s₁.heap.get? a = some { cls := .type "list", data := .seq vs.toArray }) (whole : IntsAre vs ns) (short : ns.length ≤ sizeLine) (nm : mg "law" = some (.ref fa))
    (C : ∀ base : Heap, CalG P w K mg base 9 "law" ["_law_script"] (sp_law K)) :
    codeAny (model P w) callerA (.call (.ref fa) ⟨[.ref a], []⟩) (fun r s' => r = .ok (.ret (.bool true)) ∧ OldK s₁.heap s'.heap ∧ s'.os = s₁.os ∧ AllBare s'.gens) s₁ := by
  have same : vs.length = ns.length := whole.length
  have rel := vals_ints whole
  -- T: what is tracked, the script at most
  have from_T : ∀ T : Hp, Only T → SqL K T a (ns.map V.int) → HOk P w T s₁.heap → (∀ b, T b ≠ none → b = a ∧ K.lookup a = none) →
      codeAny (model P w) callerA (.call (.ref fa) ⟨[.ref a], []⟩) (fun r s' => r = .ok (.ret (.bool true)) ∧ OldK s₁.heap s'.heap ∧ s'.os = s₁.os ∧ AllBare s'.gens) s₁ := by
    intro T only tracked sound atA
    have free_of : ∀ b o, s₁.heap.get? b = some o → (b ≠ a ∨ (K.lookup b).isSome = true ∨ ∃ es ep, o.data = .dict es ep) → T b = none := by
      intro b o found why
      apply Classical.byContradiction
      intro some_
      obtain ⟨rfl, out⟩ := atA b some_
      rcases why with z | z | ⟨es, ep, z⟩
      · exact z rfl
      · rw [out] at z; cases z
      · rw [script] at found
        cases found
        have z' : Data.seq vs.toArray _ = Data.dict es ep := z
        cases z'
    have space : ∀ {b : Addr} {m : Str → Option Value}, s₁.heap.Ns b m → (hidT s₁.heap T).Ns b m := by
      rintro b m ⟨o, es, ep, found, isDict, rest⟩
      exact ⟨o, es, ep, hidT_get found (free_of b o found (.inr (.inr ⟨es, ep, isDict⟩))), isDict, rest⟩
    have inBase : K.In (hidT s₁.heap T) := by
      intro b o look
      have found := inK b o look
      exact hidT_get found (free_of b o found (.inr (.inl (by rw [look]; rfl))))
    obtain ⟨mc, lim1, lim2⟩ := noLimit
    have env : Env0 P w K mg (hidT s₁.heap T) callerA [] s₁ T := by
      refine ⟨rfl, ⟨inBase, space globals, ⟨mb, space builtins, asBoot⟩, ⟨mc, space lim1, lim2⟩⟩, fun b o look => of_hidT look, Nat.le_of_eq (hidT_size _ _), trivial, ?_, sound, .of_eq noGens⟩
      intro b hb
      cases hb
    obtain ⟨f, fd, def_, nm2, _, bound⟩ := C (hidT s₁.heap T)
    rw [nm] at nm2
    cases nm2
    have went := def_.go callerA [] s₁ T ⟨[.ref a], []⟩ [.ref a] [.ref a] (fun v _ => v = .bl true) (fun _ _ _ => False) ⟨rfl, by decide, by decide⟩ rfl env (bound s₁ [.ref a] inK rfl) (.cons rfl .nil) ⟨a, ns, rfl, tracked, fun _ => rfl⟩
    refine codeAny_mono went ?_
    intro r s' res
    match r, res with
    | .error e, res => exact (show False from res).elim
    | .ok (.ret u), ⟨v, T', os, bare, un, sound', ru, yes_⟩ =>
      have yes2 : v = .bl true := yes_
      subst yes2
      have ru' : u = Value.bool true := ru
      subst ru'
      refine ⟨rfl, OldK.of_keep ?_, os, bare⟩
      intro b o found
      cases known : T b with
      | none =>
        refine un.keep b o found known ?_ ?_
        · intro z; cases z
        · intro z; cases z
      | some u =>
        rcases only b with z | ⟨ob, xs, z⟩
        · rw [known] at z; cases z
        · have z2 := un.frzs b ob _ z
          obtain ⟨was, _⟩ := sound b _ z
          obtain ⟨is_, _⟩ := sound' b _ z2
          rw [found] at was
          cases was
          exact is_
  by_cases out : K.lookup a = none
  · refine from_T (fun b => if b = a then some (.frz { cls := .type "list", data := .seq vs.toArray } (.lst (ns.map V.int))) else none) (fun b => ?_) (.inl (.inr ⟨_, if_pos rfl⟩)) (fun b u z => ?_) (fun b z => ?_)
    · by_cases q : b = a
      · exact .inr ⟨_, _, if_pos q⟩
      · exact .inl (if_neg q)
    · by_cases q : b = a
      · subst q
        dsimp only at z
        rw [if_pos rfl] at z
        cases z
        exact ⟨script, by rw [List.length_map]; exact short, vs, _, rel, script⟩
      · dsimp only at z
        rw [if_neg q] at z; cases z
    · by_cases q : b = a
      · exact ⟨q, out⟩
      · exact absurd (if_neg q) z
  · obtain ⟨o, look⟩ := Option.ne_none_iff_exists'.mp out
    have found := inK a o look
    rw [script] at found
    cases found
    exact from_T (fun _ => none) (fun _ => .inl rfl) (.inr ⟨_, vs.toArray, _, look, rfl, rfl, rfl, by rw [List.size_toArray, same]; exact short, by simpa using rel⟩) (fun b u z => by cases z) (fun b z => absurd rfl z)
end Ly
open PySem PySem.W PySem.Calls PyProof.Rows
theorem PySem.Challenge.cw_plugnets_k31_groups_of_whole_parts_holds : PySem.Challenge.rw_plugnets_k31_groups_of_whole_parts.Holds := by
  w_on; o_law
  refine HandSHeadRun.head_any (r := OpenLaw.row PySem.Challenge.rw_plugnets_k31_groups_of_whole_parts) (q := view (OpenLaw.row PySem.Challenge.rw_plugnets_k31_groups_of_whole_parts).prog [61]) (H := Hd.hk) (ob := Hd.ob) (M := 4000) (loose := Hd.names) (d := HandSHeadRun.topDef (OpenLaw.row PySem.Challenge.rw_plugnets_k31_groups_of_whole_parts).prog 61) (kwd := []) Hd.ob_eq
    (by kernel_rfl) (fun s => by kernel_rfl) Hd.run (by kernel_rfl) (by kernel_rfl) (by kernel_rfl) (by rfl) (by first | assumption | decide +kernel) (by decide +kernel) ⟨rfl, rfl, rfl, rfl, rfl, by decide +kernel⟩ ?hw ?hc
  case hw => w_witness2
  case hc =>
    refine Att.attach_call (n := 63) rfl (by kernel_rfl) ?_
    intro w s₀ s₁ mg mb fa o pm cd doc a vs ns G Y ho hd hcd hmg hobj hints hlen hg
    obtain ⟨K, KX, c⟩ := Y
    have nm : mg ("law" : PySem.Str) = some (.ref fa) := by
      have e : (HandSHeadRun.topDef (OpenLaw.row PySem.Challenge.rw_plugnets_k31_groups_of_whole_parts).prog 61).name = ("law" : PySem.Str) := by kernel_rfl
      rw [← e]
      exact hmg
    exact Ly.law_run KX G.T.g G.T.b G.T.builtins G.T.nolimit hg hobj hints (Nat.le_trans hlen (by decide)) nm fun base => Ly.cal_law KX G.T.g c base
