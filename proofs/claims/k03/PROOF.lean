import PyProof.Rows.All
import Wide.All
import OpenK.AllK
import Wide.FinOn
import KE.KStateDown
import HandS.ForMost
import HandS.Defaults
import HandS.Head0
import HandS.Head1
import HandS.Head2
import HandS.HeadEnd
import HandS.HeadHook1
import HandS.HeadHook2
import HandS.Wide
import HandS.IsInst
import HandS.Zip
import HandS.TupLe
import HandS.TupAny
import HandS.Style
import HandS.Evl
import HandS.Zip0
import HandS.RaiseMore
import PySem.Challenge.RW_holerows_k03_the_four_numbers_of_a_casca
set_option Elab.async false
set_option linter.all false
set_option maxRecDepth 100000
set_option maxHeartbeats 0
set_option exponentiation.threshold 100000
namespace HR
/-- the number of sets of k of n things -/
def ch : Nat → Nat → Nat
  | _, 0 => 1
  | 0, _ + 1 => 0
  | n + 1, k + 1 => ch n k + ch n (k + 1)
@[simp] theorem ch_zero (n : Nat) : ch n 0 = 1 := by cases n <;> rfl
@[simp] theorem ch_zero_succ (k : Nat) : ch 0 (k + 1) = 0 := rfl
theorem ch_ss (n k : Nat) : ch (n + 1) (k + 1) = ch n k + ch n (k + 1) := rfl
theorem ch_lt : ∀ {n k : Nat}, n < k → ch n k = 0
  | 0, k + 1, _ => rfl
  | n + 1, k + 1, h => by rw [ch_ss, ch_lt (n := n) (k := k) (by omega), ch_lt (n := n) (k := k + 1) (by omega)]
@[simp] theorem ch_self : ∀ n : Nat, ch n n = 1
  | 0 => rfl
  | n + 1 => by rw [ch_ss, ch_self n, ch_lt (by omega)]
@[simp] theorem ch_one : ∀ n : Nat, ch n 1 = n
  | 0 => rfl
  | n + 1 => by rw [ch_ss, ch_one n, ch_zero]; omega
theorem ch_pos : ∀ {n k : Nat}, k ≤ n → 0 < ch n k
  | n, 0, _ => by simp
  | n + 1, k + 1, h => by rw [ch_ss]; have := ch_pos (n := n) (k := k) (by omega); omega
theorem ch_step (n k : Nat) : ch n k ≤ ch (n + 1) k := by
  cases k with
  | zero => simp
  | succ k => rw [ch_ss]; omega
theorem ch_mono {n m k : Nat} (h : n ≤ m) : ch n k ≤ ch m k := by
  induction m with
  | zero => have : n = 0 := by omega
            subst this; exact Nat.le_refl _
  | succ m ih =>
    by_cases e : n = m + 1
    · subst e; exact Nat.le_refl _
    · exact Nat.le_trans (ih (by omega)) (ch_step m k)
theorem ch_strict {n m k : Nat} (h : n < m) (hk : 1 ≤ k) (hm : k ≤ m) : ch n k < ch m k := by
  obtain ⟨m, rfl⟩ : ∃ m', m = m' + 1 := ⟨m - 1, by omega⟩
  obtain ⟨k, rfl⟩ : ∃ k', k = k' + 1 := ⟨k - 1, by omega⟩
  have h1 : ch n (k + 1) ≤ ch m (k + 1) := ch_mono (by omega)
  have h2 := ch_pos (n := m) (k := k) (by omega)
  rw [ch_ss]; omega
/-- the product rule -/
theorem ch_mul : ∀ n k : Nat, ch n (k + 1) * (k + 1) = ch n k * (n - k)
  | 0, k => by simp
  | n + 1, 0 => by simp
  | n + 1, k + 1 => by
    have h1 := ch_mul n k
    have h2 := ch_mul n (k + 1)
    rw [ch_ss n (k + 1), ch_ss n k]
    by_cases hk : k < n
    · have e : n - k = (n - (k + 1)) + 1 := by omega
      have e2 : n + 1 - (k + 1) = (n - (k + 1)) + 1 := by omega
      rw [e2]
      rw [e] at h1
      generalize n - (k + 1) = d at *
      generalize ch n (k + 1 + 1) = A at *
      generalize ch n (k + 1) = B at *
      generalize ch n k = C at *
      have h1' : B * k + B = C * d + C := by rw [Nat.mul_add, Nat.mul_add] at h1; omega
      have h2' : A * k + A + A = B * d := by
        have : A * (k + 1 + 1) = A * k + A + A := by rw [Nat.mul_add, Nat.mul_add]; omega
        omega
      have g1 : (B + A) * (k + 1 + 1) = B * k + B + B + (A * k + A + A) := by
        rw [Nat.add_mul, Nat.mul_add, Nat.mul_add, Nat.mul_add, Nat.mul_add]; omega
      have g2 : (C + B) * (d + 1) = C * d + C + (B * d + B) := by
        rw [Nat.add_mul, Nat.mul_add, Nat.mul_add]; omega
      omega
    · have e1 : ch n (k + 1) = 0 := ch_lt (by omega)
      have e2 : ch n (k + 1 + 1) = 0 := ch_lt (by omega)
      have e3 : n + 1 - (k + 1) = 0 := by omega
      rw [e1, e2, e3]; simp
/-- at least one more for each thing more -/
theorem ch_ge : ∀ {n k : Nat}, 1 ≤ k → k ≤ n → n + 1 ≤ ch n k + k
  | 0, 0, h, _ => absurd h (by omega)
  | 0, _ + 1, _, h => absurd h (by omega)
  | _ + 1, 0, h, _ => absurd h (by omega)
  | n + 1, k + 1, _, h => by
    by_cases e : k + 1 = n + 1
    · rw [e, ch_self]; omega
    · have h1 := ch_ge (n := n) (k := k + 1) (by omega) (by omega)
      have h2 := ch_pos (n := n) (k := k) (by omega)
      rw [ch_ss]; omega

/-! ### the greatest number of things -/
def grt (s n : Nat) : Nat → Nat
  | 0 => 0
  | f + 1 => if ch (f + 1) s ≤ n then f + 1 else grt s n f
def great (s n : Nat) : Nat := grt s n (n + s)
theorem grt_spec {s n : Nat} (hs : 1 ≤ s) : ∀ f, n < ch (f + 1) s → ch (grt s n f) s ≤ n ∧ n < ch (grt s n f + 1) s
  | 0, h => by
    refine ⟨?_, h⟩
    show ch 0 s ≤ n
    rw [ch_lt (by omega)]; omega
  | f + 1, h => by
    unfold grt
    by_cases e : ch (f + 1) s ≤ n
    · rw [if_pos e]; exact ⟨e, h⟩
    · rw [if_neg e]; exact grt_spec hs f (by omega)
theorem great_spec {s n : Nat} (hs : 1 ≤ s) : ch (great s n) s ≤ n ∧ n < ch (great s n + 1) s := by
  refine grt_spec hs (n + s) ?_
  have := ch_ge (n := n + s + 1) (k := s) hs (by omega)
  omega
theorem great_uniq {s n a : Nat} (hs : 1 ≤ s) (ha : s ≤ a) (h1 : ch a s ≤ n) (h2 : n < ch (a + 1) s) : great s n = a := by
  obtain ⟨g1, g2⟩ := great_spec (s := s) (n := n) hs
  rcases Nat.lt_trichotomy (great s n) a with h | h | h
  · have : ch (great s n + 1) s ≤ ch a s := ch_mono (by omega)
    omega
  · exact h
  · have : ch (a + 1) s ≤ ch (great s n) s := ch_mono (by omega)
    omega
theorem great_ge {s n : Nat} (hs : 1 ≤ s) (hn : 1 ≤ n) : s ≤ great s n := by
  obtain ⟨g1, g2⟩ := great_spec (s := s) (n := n) hs
  apply Classical.byContradiction
  intro h
  have : ch (great s n + 1) s ≤ ch s s := ch_mono (by omega)
  rw [ch_self] at this
  omega
/-! ### cascades -/
def IsCas : Nat → List Nat → Prop
  | _, [] => True
  | 0, _ :: _ => False
  | s + 1, a :: l => s + 1 ≤ a ∧ (∀ b, l.head? = some b → b < a) ∧ IsCas s l
theorem isCas_nil (s : Nat) : IsCas s [] := by cases s <;> trivial
/-- the sum of f item place over a tuple -/
def sumC (f : Nat → Nat → Nat) : Nat → List Nat → Nat
  | _, [] => 0
  | s, a :: l => f a s + sumC f (s - 1) l
abbrev val (s : Nat) (l : List Nat) : Nat := sumC ch s l
def cas : Nat → Nat → List Nat
  | 0, _ => []
  | _ + 1, 0 => []
  | s + 1, n + 1 => great (s + 1) (n + 1) :: cas s (n + 1 - ch (great (s + 1) (n + 1)) (s + 1))
theorem val_lt : ∀ {s : Nat} {l : List Nat} {a : Nat}, IsCas s l → s ≤ a → (∀ b, l.head? = some b → b < a) → val s l < ch a s
  | s, [], a, _, h, _ => by
    show 0 < ch a s
    exact ch_pos h
  | 0, _ :: _, _, h, _, _ => h.elim
  | s + 1, b :: l, a, h, _, hb => by
    obtain ⟨h1, h2, h3⟩ := h
    have hba : b < a := hb b rfl
    have ih := val_lt (s := s) (l := l) (a := b) h3 (by omega) h2
    show ch b (s + 1) + val (s + 1 - 1) l < ch a (s + 1)
    have e : ch (b + 1) (s + 1) ≤ ch a (s + 1) := ch_mono hba
    rw [ch_ss] at e
    have e2 : s + 1 - 1 = s := rfl
    rw [e2]
    omega
theorem cas_val : ∀ s n, (s = 0 → n = 0) → val s (cas s n) = n
  | 0, n, h => by rw [h rfl]; rfl
  | s + 1, 0, _ => rfl
  | s + 1, n + 1, _ => by
    obtain ⟨g1, g2⟩ := great_spec (s := s + 1) (n := n + 1) (by omega)
    show ch (great (s + 1) (n + 1)) (s + 1) + val s (cas s (n + 1 - ch (great (s + 1) (n + 1)) (s + 1))) = n + 1
    rw [cas_val s]
    · omega
    · intro e; subst e
      rw [ch_ss, ch_zero] at g2
      omega
theorem cas_head {s n b : Nat} (h : (cas s n).head? = some b) : 1 ≤ s ∧ 1 ≤ n ∧ ch b s ≤ n ∧ s ≤ b := by
  cases s with
  | zero => cases h
  | succ s =>
    cases n with
    | zero => cases h
    | succ n =>
      have e : great (s + 1) (n + 1) = b := Option.some.inj h
      subst e
      exact ⟨by omega, by omega, (great_spec (by omega)).1, great_ge (by omega) (by omega)⟩
theorem cas_is : ∀ s n, IsCas s (cas s n)
  | 0, n => trivial
  | s + 1, 0 => trivial
  | s + 1, n + 1 => by
    obtain ⟨g1, g2⟩ := great_spec (s := s + 1) (n := n + 1) (by omega)
    refine ⟨great_ge (by omega) (by omega), fun b hb => ?_, cas_is s _⟩
    obtain ⟨h1, h2, h3, h4⟩ := cas_head hb
    apply Classical.byContradiction
    intro hh
    have : ch (great (s + 1) (n + 1)) s ≤ ch b s := ch_mono (by omega)
    rw [ch_ss] at g2
    omega
theorem IsCas.uniq : ∀ {s : Nat} {l : List Nat}, IsCas s l → cas s (val s l) = l
  | 0, [], _ => rfl
  | s + 1, [], _ => rfl
  | 0, _ :: _, h => h.elim
  | s + 1, a :: l, h => by
    obtain ⟨h1, h2, h3⟩ := h
    have e : val (s + 1) (a :: l) = ch a (s + 1) + val s l := rfl
    have hp := ch_pos h1
    have hl := val_lt h3 (by omega : s ≤ a) h2
    have hg : great (s + 1) (ch a (s + 1) + val s l) = a := great_uniq (by omega) h1 (by omega) (by rw [ch_ss]; omega)
    have hc : ∀ n, n = ch a (s + 1) + val s l → cas (s + 1) n = great (s + 1) n :: cas s (n - ch (great (s + 1) n) (s + 1)) := by
      intro n hn
      cases n with
      | zero => omega
      | succ n => rfl
    rw [e, hc _ rfl, hg, Nat.add_sub_cancel_left, IsCas.uniq h3]
theorem IsCas.inj {s : Nat} {l m : List Nat} (hl : IsCas s l) (hm : IsCas s m) (h : val s l = val s m) : l = m := by
  rw [← hl.uniq, ← hm.uniq, h]
theorem IsCas.len : ∀ {s : Nat} {l : List Nat}, IsCas s l → l.length ≤ s
  | _, [], _ => by simp
  | 0, _ :: _, h => h.elim
  | s + 1, a :: l, h => by
    have := IsCas.len h.2.2
    rw [List.length_cons]; omega
theorem cas_zero (s : Nat) : cas s 0 = [] := by cases s <;> rfl
theorem cas_pos {s n : Nat} (hs : 1 ≤ s) (hn : 1 ≤ n) : cas s n = great s n :: cas (s - 1) (n - ch (great s n) s) := by
  cases s with
  | zero => omega
  | succ s => cases n with
    | zero => omega
    | succ n => rfl
/-! ### order -/
def lexL : List Nat → List Nat → Bool
  | [], [] => false
  | [], _ :: _ => true
  | _ :: _, [] => false
  | x :: xs, y :: ys => if x = y then lexL xs ys else decide (x < y)
theorem lex_val : ∀ {s : Nat} {l m : List Nat}, IsCas s l → IsCas s m → lexL l m = decide (val s l < val s m)
  | s, [], [], _, _ => by
    show false = decide (0 < 0)
    rfl
  | 0, [], _ :: _, _, h => h.elim
  | 0, _ :: _, _, h, _ => h.elim
  | s + 1, [], y :: ys, _, h => by
    have hp : 0 < ch y (s + 1) := ch_pos h.1
    show true = decide (0 < ch y (s + 1) + val s ys)
    rw [decide_eq_true (by omega)]
  | s + 1, x :: xs, [], h, _ => by
    show false = decide (ch x (s + 1) + val s xs < 0)
    rw [decide_eq_false (by omega)]
  | s + 1, x :: xs, y :: ys, h, g => by
    have ih := lex_val h.2.2 g.2.2
    show (if x = y then lexL xs ys else decide (x < y)) = decide (ch x (s + 1) + val s xs < ch y (s + 1) + val s ys)
    have hx := h.1
    have hy := g.1
    by_cases e : x = y
    · subst e
      rw [if_pos rfl, ih]
      exact decide_eq_decide.mpr (by omega)
    · rw [if_neg e]
      apply decide_eq_decide.mpr
      have l1 := val_lt h.2.2 (by omega : s ≤ x) h.2.1
      have l2 := val_lt g.2.2 (by omega : s ≤ y) g.2.1
      constructor
      · intro q
        have : ch (x + 1) (s + 1) ≤ ch y (s + 1) := ch_mono q
        rw [ch_ss] at this
        omega
      · intro q
        apply Classical.byContradiction
        intro hq
        have : ch (y + 1) (s + 1) ≤ ch x (s + 1) := ch_mono (by omega)
        rw [ch_ss] at this
        omega

/-! ### sums over cascades -/
theorem sumC_append (f : Nat → Nat → Nat) : ∀ (s : Nat) (l m : List Nat), sumC f s (l ++ m) = sumC f s l + sumC f (s - l.length) m
  | s, [], m => by simp [sumC]
  | s, a :: l, m => by
    show f a s + sumC f (s - 1) (l ++ m) = f a s + sumC f (s - 1) l + sumC f (s - (l.length + 1)) m
    rw [sumC_append f (s - 1) l m, Nat.sub_sub, Nat.add_comm 1 l.length]
    omega
structure Step (f : Nat → Nat → Nat) : Prop where
  add : ∀ b s, 2 ≤ s → s ≤ b → f b s + f b (s - 1) ≤ f (b + 1) s
  mono : ∀ a b s, a ≤ b → f a s ≤ f b s
theorem sumC_le {f : Nat → Nat → Nat} (F : Step f) : ∀ {s : Nat} {l : List Nat} {a : Nat}, IsCas s l → (∀ b, l.head? = some b → b < a) → sumC f s l ≤ f a s
  | s, [], a, _, _ => Nat.zero_le _
  | 0, _ :: _, _, h, _ => h.elim
  | s + 1, b :: l, a, h, hb => by
    have hba : b < a := hb b rfl
    show f b (s + 1) + sumC f s l ≤ f a (s + 1)
    cases s with
    | zero =>
      cases l with
      | nil => exact F.mono _ _ _ (by omega)
      | cons c l => exact h.2.2.elim
    | succ s =>
      have ih := sumC_le F h.2.2 h.2.1
      have h2 := F.add b (s + 1 + 1) (by omega) h.1
      have h3 := F.mono (b + 1) a (s + 1 + 1) hba
      rw [Nat.add_sub_cancel] at h2
      omega
theorem sumC_mono {f : Nat → Nat → Nat} (F : Step f) : ∀ {s : Nat} {l m : List Nat}, IsCas s l → IsCas s m → val s l ≤ val s m → sumC f s l ≤ sumC f s m
  | s, [], m, _, _, _ => Nat.zero_le _
  | 0, _ :: _, _, h, _, _ => h.elim
  | s + 1, x :: xs, [], h, _, q => by
    have hp : 0 < ch x (s + 1) := ch_pos h.1
    have q' : ch x (s + 1) + val s xs ≤ 0 := q
    omega
  | s + 1, x :: xs, y :: ys, h, g, q => by
    show f x (s + 1) + sumC f s xs ≤ f y (s + 1) + sumC f s ys
    have q' : ch x (s + 1) + val s xs ≤ ch y (s + 1) + val s ys := q
    rcases Nat.lt_trichotomy x y with e | e | e
    · have hx := sumC_le F (s := s + 1) (l := x :: xs) (a := y) h (fun b hb => by cases hb; exact e)
      have hx' : f x (s + 1) + sumC f s xs ≤ f y (s + 1) := hx
      omega
    · subst e
      have := sumC_mono F h.2.2 g.2.2 (by omega)
      omega
    · have l2 := val_lt (s := s + 1) (l := y :: ys) (a := x) g h.1 (fun b hb => by cases hb; exact e)
      have l2' : ch y (s + 1) + val s ys < ch x (s + 1) := l2
      omega
theorem ch_add (n k : Nat) (hn : 1 ≤ n) (hk : 1 ≤ k) : ch n k = ch (n - 1) (k - 1) + ch (n - 1) k := by
  obtain ⟨n, rfl⟩ : ∃ m, n = m + 1 := ⟨n - 1, by omega⟩
  obtain ⟨k, rfl⟩ : ∃ m, k = m + 1 := ⟨k - 1, by omega⟩
  rfl
abbrev fLS (a i : Nat) : Nat := ch a (i - 1)
abbrev fUS (a i : Nat) : Nat := ch a (i + 1)
abbrev fLP (a i : Nat) : Nat := ch (a - 1) (i - 1)
abbrev fUP (a i : Nat) : Nat := ch (a + 1) (i + 1)
theorem stLS : Step fLS := ⟨fun b s h1 h2 => by
  show ch b (s - 1) + ch b (s - 1 - 1) ≤ ch (b + 1) (s - 1)
  rw [ch_add (b + 1) (s - 1) (by omega) (by omega), Nat.add_sub_cancel]; omega, fun a b s h => ch_mono h⟩
theorem stUS : Step fUS := ⟨fun b s h1 h2 => by
  show ch b (s + 1) + ch b (s - 1 + 1) ≤ ch (b + 1) (s + 1)
  rw [ch_ss, Nat.sub_add_cancel (by omega)]; omega, fun a b s h => ch_mono h⟩
theorem stLP : Step fLP := ⟨fun b s h1 h2 => by
  show ch (b - 1) (s - 1) + ch (b - 1) (s - 1 - 1) ≤ ch (b + 1 - 1) (s - 1)
  rw [ch_add (b + 1 - 1) (s - 1) (by omega) (by omega), Nat.add_sub_cancel]; omega, fun a b s h => ch_mono (by omega)⟩
theorem stUP : Step fUP := ⟨fun b s h1 h2 => by
  show ch (b + 1) (s + 1) + ch (b + 1) (s - 1 + 1) ≤ ch (b + 1 + 1) (s + 1)
  rw [ch_ss (b + 1) s, Nat.sub_add_cancel (by omega)]; omega, fun a b s h => ch_mono (by omega)⟩
def LS (n s : Nat) : Nat := sumC fLS s (cas s n)
def US (n s : Nat) : Nat := sumC fUS s (cas s n)
def LP (n s : Nat) : Nat := sumC fLP s (cas s n)
def UP (n s : Nat) : Nat := sumC fUP s (cas s n)
theorem sum_mono {f : Nat → Nat → Nat} (F : Step f) {s n m : Nat} (hs : 1 ≤ s) (h : n ≤ m) : sumC f s (cas s n) ≤ sumC f s (cas s m) :=
  sumC_mono F (cas_is s n) (cas_is s m) (by rw [cas_val _ _ (by omega), cas_val _ _ (by omega)]; exact h)
theorem LS_mono {n m s : Nat} (hs : 1 ≤ s) (h : n ≤ m) : LS n s ≤ LS m s := sum_mono stLS hs h
theorem US_mono {n m s : Nat} (hs : 1 ≤ s) (h : n ≤ m) : US n s ≤ US m s := sum_mono stUS hs h
theorem LP_mono {n m s : Nat} (hs : 1 ≤ s) (h : n ≤ m) : LP n s ≤ LP m s := sum_mono stLP hs h
theorem UP_mono {n m s : Nat} (hs : 1 ≤ s) (h : n ≤ m) : UP n s ≤ UP m s := sum_mono stUP hs h
/-! ### one more: append the least item -/
theorem IsCas.append : ∀ {s : Nat} {l : List Nat}, IsCas s l → l.length < s → IsCas s (l ++ [s - l.length])
  | 0, [], _, h => by cases h
  | s + 1, [], _, _ => ⟨Nat.le_refl _, (fun b hb => by cases hb), isCas_nil _⟩
  | 0, _ :: _, h, _ => h.elim
  | s + 1, a :: l, h, hl => by
    have hl' : l.length < s := by rw [List.length_cons] at hl; omega
    have ih := IsCas.append h.2.2 hl'
    have e : s + 1 - (a :: l).length = s - l.length := by rw [List.length_cons]; omega
    rw [e]
    refine ⟨h.1, fun b hb => ?_, ih⟩
    cases l with
    | nil =>
      have hb' : some (s - 0) = some b := hb
      cases hb'
      have := h.1
      omega
    | cons c l => exact h.2.1 b hb
theorem sumC_snoc (f : Nat → Nat → Nat) (s : Nat) (l : List Nat) (x : Nat) : sumC f s (l ++ [x]) = sumC f s l + f x (s - l.length) := by
  rw [sumC_append]; rfl
theorem cas_succ {s : Nat} {l : List Nat} (h : IsCas s l) (hl : l.length < s) : cas s (val s l + 1) = l ++ [s - l.length] := by
  have e : val s (l ++ [s - l.length]) = val s l + 1 := by
    show sumC ch s (l ++ [s - l.length]) = val s l + 1
    rw [sumC_snoc, ch_self]
  rw [← e]
  exact (h.append hl).uniq
/-! ### all items more by 1, the size above -/
theorem IsCas.up : ∀ {s : Nat} {l : List Nat}, IsCas s l → IsCas (s + 1) (l.map (· + 1))
  | _, [], _ => isCas_nil _
  | 0, _ :: _, h => h.elim
  | s + 1, a :: l, h => by
    refine ⟨Nat.succ_le_succ h.1, fun b hb => ?_, IsCas.up h.2.2⟩
    cases l with
    | nil => cases hb
    | cons c l =>
      have hb' : some (c + 1) = some b := hb
      cases hb'
      exact Nat.succ_lt_succ (h.2.1 c rfl)
theorem sumC_up (f : Nat → Nat → Nat) : ∀ {s : Nat} {l : List Nat}, IsCas s l → sumC f (s + 1) (l.map (· + 1)) = sumC (fun a i => f (a + 1) (i + 1)) s l
  | _, [], _ => rfl
  | 0, _ :: _, h => h.elim
  | s + 1, a :: l, h => by
    show f (a + 1) (s + 1 + 1) + sumC f (s + 1) (l.map (· + 1)) = f (a + 1) (s + 1 + 1) + sumC _ s l
    rw [sumC_up f h.2.2]
theorem cas_up {n s : Nat} : cas (s + 1) (UP n s) = (cas s n).map (· + 1) := by
  have e : val (s + 1) ((cas s n).map (· + 1)) = UP n s := sumC_up ch (cas_is s n)
  rw [← e]
  exact (cas_is s n).up.uniq
theorem LP_UP {n s : Nat} (hs : 1 ≤ s) : LP (UP n s) (s + 1) = n := by
  unfold LP
  rw [cas_up, sumC_up fLP (cas_is s n)]
  exact cas_val s n (by omega)
theorem LP_UP1 {n s : Nat} (hs : 1 ≤ s) : LP (UP n s + 1) (s + 1) = n + 1 := by
  have h := (cas_is s n).up
  have hl : ((cas s n).map (· + 1)).length < s + 1 := by
    have := (cas_is s n).len
    rw [List.length_map]; omega
  have e : val (s + 1) ((cas s n).map (· + 1)) = UP n s := sumC_up ch (cas_is s n)
  have c := cas_succ h hl
  rw [e] at c
  unfold LP
  rw [c, sumC_snoc, sumC_up fLP (cas_is s n)]
  show val s (cas s n) + ch (s + 1 - ((cas s n).map (· + 1)).length - 1) (s + 1 - ((cas s n).map (· + 1)).length - 1) = n + 1
  rw [ch_self, cas_val s n (by omega)]
theorem galP {n m s : Nat} (hs : 1 ≤ s) : LP m (s + 1) ≤ n ↔ m ≤ UP n s := by
  constructor
  · intro h
    apply Classical.byContradiction
    intro q
    have := LP_mono (s := s + 1) (n := UP n s + 1) (m := m) (by omega) (by omega)
    rw [LP_UP1 hs] at this
    omega
  · intro h
    have := LP_mono (s := s + 1) (by omega) h
    rw [LP_UP hs] at this
    exact this
/-! ### the items above their places -/
def tr : Nat → List Nat → List Nat
  | _, [] => []
  | s, a :: l => if s < a then a :: tr (s - 1) l else []
theorem tr_cons {s a : Nat} {l : List Nat} (h : s < a) : tr s (a :: l) = a :: tr (s - 1) l := by
  rw [tr, if_pos h]
theorem tr_stop {s a : Nat} {l : List Nat} (h : ¬ s < a) : tr s (a :: l) = [] := by
  rw [tr, if_neg h]
theorem tr_rest : ∀ {s : Nat} {l : List Nat}, IsCas s l → (∀ a, l.head? = some a → a = s) → ∀ f : Nat → Nat → Nat, (∀ i, 1 ≤ i → f i i ≤ 1) → sumC f s l ≤ l.length
  | _, [], _, _, _, _ => Nat.le_refl _
  | 0, _ :: _, h, _, _, _ => h.elim
  | s + 1, a :: l, h, ha, f, hf => by
    have e : a = s + 1 := ha a rfl
    subst e
    have ih := tr_rest h.2.2 (fun b hb => by
      have h1 := h.2.1 b hb
      have h2 : s ≤ b := by
        cases l with
        | nil => cases hb
        | cons c l => cases s with
          | zero => exact h.2.2.elim
          | succ s => cases hb; exact h.2.2.1
      omega) f hf
    show f (s + 1) (s + 1) + sumC f s l ≤ l.length + 1
    have := hf (s + 1) (by omega)
    omega
/-- what the cut takes away is at most one for each place left -/
theorem tr_cut (f : Nat → Nat → Nat) (hf : ∀ i, 1 ≤ i → f i i ≤ 1) : ∀ {s : Nat} {l : List Nat}, IsCas s l → (tr s l).length ≤ l.length ∧ sumC f s (tr s l) ≤ sumC f s l ∧ sumC f s l + (tr s l).length ≤ sumC f s (tr s l) + l.length
  | _, [], _ => ⟨Nat.le_refl _, Nat.le_refl _, Nat.le_refl _⟩
  | 0, _ :: _, h => h.elim
  | s + 1, a :: l, h => by
    by_cases e : s + 1 < a
    · have et : tr (s + 1) (a :: l) = a :: tr s l := tr_cons e
      obtain ⟨h1, h2, h3⟩ := tr_cut f hf h.2.2
      rw [et]
      refine ⟨?_, ?_, ?_⟩
      · simp only [List.length_cons]; omega
      · show f a (s + 1) + sumC f s (tr s l) ≤ f a (s + 1) + sumC f s l
        omega
      · show f a (s + 1) + sumC f s l + ((tr s l).length + 1) ≤ f a (s + 1) + sumC f s (tr s l) + (l.length + 1)
        omega
    · have et : tr (s + 1) (a :: l) = [] := tr_stop e
      have := tr_rest h (fun b hb => by cases hb; have := h.1; omega) f hf
      rw [et]
      refine ⟨Nat.zero_le _, Nat.zero_le _, ?_⟩
      show sumC f (s + 1) (a :: l) + 0 ≤ 0 + (a :: l).length
      omega
/-- .. nothing, if f is 0 where item and place are equal -/
theorem tr_cut0 (f : Nat → Nat → Nat) (hf : ∀ i, 1 ≤ i → f i i = 0) : ∀ {s : Nat} {l : List Nat}, IsCas s l → sumC f s (tr s l) = sumC f s l
  | _, [], _ => rfl
  | 0, _ :: _, h => h.elim
  | s + 1, a :: l, h => by
    by_cases e : s + 1 < a
    · have et : tr (s + 1) (a :: l) = a :: tr s l := tr_cons e
      rw [et]
      show f a (s + 1) + sumC f s (tr s l) = f a (s + 1) + sumC f s l
      rw [tr_cut0 f hf h.2.2]
    · have et : tr (s + 1) (a :: l) = [] := tr_stop e
      rw [et]
      have ha : a = s + 1 := by have := h.1; omega
      subst ha
      show 0 = f (s + 1) (s + 1) + sumC f s l
      have z : ∀ {s : Nat} {l : List Nat}, IsCas s l → (∀ a, l.head? = some a → a ≤ s) → sumC f s l = 0 := by
        intro s l
        induction l generalizing s with
        | nil => intro _ _; rfl
        | cons c l ih =>
          intro h hc
          cases s with
          | zero => exact h.elim
          | succ s =>
            have hcs : c = s + 1 := by have := h.1; have := hc c rfl; omega
            subst hcs
            show f (s + 1) (s + 1) + sumC f s l = 0
            rw [hf _ (by omega), ih h.2.2 (fun b hb => by have := h.2.1 b hb; omega)]
      rw [hf _ (by omega), z h.2.2 (fun b hb => by have := h.2.1 b hb; omega)]
theorem tr_head {s : Nat} {l : List Nat} {b : Nat} (hb : (tr s l).head? = some b) : l.head? = some b ∧ s < b := by
  cases l with
  | nil => cases hb
  | cons a l =>
    by_cases e : s < a
    · have et : tr s (a :: l) = a :: tr (s - 1) l := tr_cons e
      rw [et] at hb
      cases hb
      exact ⟨rfl, e⟩
    · have et : tr s (a :: l) = [] := tr_stop e
      rw [et] at hb
      cases hb
/-- the cut one is a cascade for the size above -/
theorem tr_up : ∀ {s : Nat} {l : List Nat}, IsCas s l → IsCas (s + 1) (tr s l)
  | _, [], _ => isCas_nil _
  | 0, _ :: _, h => h.elim
  | s + 1, a :: l, h => by
    by_cases e : s + 1 < a
    · have et : tr (s + 1) (a :: l) = a :: tr s l := tr_cons e
      rw [et]
      exact ⟨by omega, fun b hb => h.2.1 b (tr_head hb).1, tr_up h.2.2⟩
    · have et : tr (s + 1) (a :: l) = [] := tr_stop e
      rw [et]
      exact isCas_nil _
/-- the size one more, for a list that is no longer than the size -/
theorem sumC_size (f : Nat → Nat → Nat) : ∀ {s : Nat} {l : List Nat}, l.length ≤ s → sumC f (s + 1) l = sumC (fun a i => f a (i + 1)) s l
  | _, [], _ => rfl
  | 0, _ :: _, h => by cases h
  | s + 1, a :: l, h => by
    show f a (s + 1 + 1) + sumC f (s + 1) l = f a (s + 1 + 1) + sumC _ s l
    rw [sumC_size f (by rw [List.length_cons] at h; omega)]
theorem tr_len {s : Nat} {l : List Nat} (h : IsCas s l) : (tr s l).length ≤ s := Nat.le_trans (tr_cut (fun _ _ => 0) (fun _ _ => by omega) h).1 h.len
theorem val_tr_up {s : Nat} {l : List Nat} (h : IsCas s l) : val (s + 1) (tr s l) = sumC fUS s l := by
  show sumC ch (s + 1) (tr s l) = sumC fUS s l
  rw [sumC_size ch (tr_len h)]
  exact tr_cut0 fUS (fun i _ => ch_lt (by omega)) h
theorem LS_US {n s : Nat} (hs : 1 ≤ s) : LS (US n s) (s + 1) ≤ n := by
  have h := cas_is s n
  have e : cas (s + 1) (US n s) = tr s (cas s n) := by
    unfold US
    rw [← val_tr_up h]
    exact (tr_up h).uniq
  unfold LS
  rw [e, sumC_size fLS (tr_len h)]
  have := (tr_cut ch (fun i _ => by rw [ch_self]; omega) h).2.1
  have v := cas_val s n (by omega)
  exact Nat.le_trans this (Nat.le_of_eq v)
theorem LS_US1 {n s : Nat} (hs : 1 ≤ s) : n < LS (US n s + 1) (s + 1) := by
  have h := cas_is s n
  have hl := tr_len h
  have c := cas_succ (tr_up h) (by omega)
  rw [val_tr_up h] at c
  have c' : cas (s + 1) (US n s + 1) = tr s (cas s n) ++ [s + 1 - (tr s (cas s n)).length] := c
  unfold LS
  rw [c', sumC_snoc, sumC_size fLS hl]
  have t := (tr_cut ch (fun i _ => by rw [ch_self]; omega) h).2.2
  have v : sumC ch s (cas s n) = n := cas_val s n (by omega)
  have z := h.len
  have e : fLS (s + 1 - (tr s (cas s n)).length) (s + 1 - (tr s (cas s n)).length) = s + 1 - (tr s (cas s n)).length := by
    generalize hk : s + 1 - (tr s (cas s n)).length = k
    obtain ⟨k, rfl⟩ : ∃ m, k = m + 1 := ⟨k - 1, by omega⟩
    show ch (k + 1) k = k + 1
    have : ∀ k, ch (k + 1) k = k + 1 := by
      intro k
      induction k with
      | zero => rfl
      | succ k ih => rw [ch_ss, ih, ch_self]
    exact this k
  rw [e]
  have t' : sumC (fun a i => fLS a (i + 1)) s (tr s (cas s n)) = sumC ch s (tr s (cas s n)) := rfl
  rw [t']
  omega
theorem galS {n m s : Nat} (hs : 1 ≤ s) : LS m (s + 1) ≤ n ↔ m ≤ US n s := by
  constructor
  · intro h
    apply Classical.byContradiction
    intro q
    have := LS_mono (s := s + 1) (n := US n s + 1) (m := m) (by omega) (by omega)
    have := LS_US1 (n := n) hs
    omega
  · intro h
    have := LS_mono (s := s + 1) (by omega) h
    exact Nat.le_trans this (LS_US hs)

/-! ### the lower number of sets of a sum -/
theorem cas_head_le {s n : Nat} (hs : 1 ≤ s) (hn : 1 ≤ n) : ch (great s n) s ≤ n ∧ n - ch (great s n) s < ch (great s n) (s - 1) ∧ s ≤ great s n := by
  obtain ⟨g1, g2⟩ := great_spec (s := s) (n := n) hs
  have g3 := great_ge hs hn
  rw [ch_add (great s n + 1) s (by omega) hs, Nat.add_sub_cancel] at g2
  exact ⟨g1, by omega, g3⟩
theorem LS_zero (s : Nat) : LS 0 s = 0 := by unfold LS; rw [cas_zero]; rfl
theorem LP_zero (s : Nat) : LP 0 s = 0 := by unfold LP; rw [cas_zero]; rfl
theorem LS_size0 (n : Nat) : LS n 0 = 0 := rfl
theorem LS_of {s a r : Nat} (ha : s + 1 ≤ a) (hr : r < ch a s) : LS (ch a (s + 1) + r) (s + 1) = ch a s + LS r s := by
  have hp := ch_pos ha
  have hg : great (s + 1) (ch a (s + 1) + r) = a := great_uniq (by omega) ha (by omega) (by rw [ch_ss]; omega)
  unfold LS
  rw [cas_pos (by omega) (by omega), hg, Nat.add_sub_cancel_left, Nat.add_sub_cancel]
  rfl
theorem LP_of {s a r : Nat} (ha : s + 1 ≤ a) (hr : r < ch a s) : LP (ch a (s + 1) + r) (s + 1) = ch (a - 1) s + LP r s := by
  have hp := ch_pos ha
  have hg : great (s + 1) (ch a (s + 1) + r) = a := great_uniq (by omega) ha (by omega) (by rw [ch_ss]; omega)
  unfold LP
  rw [cas_pos (by omega) (by omega), hg, Nat.add_sub_cancel_left, Nat.add_sub_cancel]
  rfl
theorem LS_ch {s a : Nat} (ha : s + 1 ≤ a) : LS (ch a (s + 1)) (s + 1) = ch a s := by
  have := LS_of (s := s) (a := a) (r := 0) ha (ch_pos (by omega))
  rw [Nat.add_zero, LS_zero, Nat.add_zero] at this
  exact this
/-- one more than a cascade that fills all places has the same lower number -/
theorem LS_full : ∀ {s : Nat} {l : List Nat}, IsCas s l → l.length = s → 1 ≤ s → LS (val s l + 1) s = LS (val s l) s
  | 0, _, _, _, h => absurd h (by omega)
  | s + 1, [], _, h, _ => by cases h
  | 1, a :: l, h, hl, _ => by
    have : l = [] := by cases l with
      | nil => rfl
      | cons c l => exact h.2.2.elim
    subst this
    have ha := h.1
    show LS (ch a 1 + 1) 1 = LS (ch a 1) 1
    have e1 : ch a 1 + 1 = ch (a + 1) 1 := by simp
    rw [e1, LS_ch (s := 0) (by omega), LS_ch (s := 0) (by omega)]
    simp
  | s + 2, a :: l, h, hl, _ => by
    have ha := h.1
    have hl' : l.length = s + 1 := by rw [List.length_cons] at hl; omega
    have ih := LS_full h.2.2 hl' (by omega)
    have hv := val_lt h.2.2 (by omega : s + 1 ≤ a) h.2.1
    show LS (ch a (s + 2) + val (s + 1) l + 1) (s + 2) = LS (ch a (s + 2) + val (s + 1) l) (s + 2)
    rw [Nat.add_assoc, LS_of (s := s + 1) ha hv]
    by_cases e : val (s + 1) l + 1 < ch a (s + 1)
    · rw [LS_of (s := s + 1) ha e, ih]
    · have e' : val (s + 1) l + 1 = ch a (s + 1) := by omega
      rw [← ih, e', LS_ch (s := s) (by omega)]
      have e2 : ch a (s + 2) + ch a (s + 1) = ch (a + 1) (s + 2) := by
        show ch a (s + 2) + ch a (s + 1) = ch a (s + 1) + ch a (s + 2)
        omega
      rw [e2, LS_ch (s := s + 1) (by omega), ch_ss]
      omega
/-! all items less 1, the size below -/
theorem IsCas.down : ∀ {s : Nat} {l : List Nat}, IsCas (s + 1) l → l.length ≤ s → IsCas s (l.map (· - 1))
  | s, [], _, _ => isCas_nil s
  | 0, _ :: _, _, h => by cases h
  | s + 1, a :: l, h, hl => by
    have hl' : l.length ≤ s := by rw [List.length_cons] at hl; omega
    have h1 := h.1
    refine ⟨by show s + 1 ≤ a - 1; omega, fun b hb => ?_, IsCas.down h.2.2 hl'⟩
    cases l with
    | nil => cases hb
    | cons c l =>
      have hb' : some (c - 1) = some b := hb
      cases hb'
      have h2 := h.2.1 c rfl
      have h3 := h.2.2.1
      show c - 1 < a - 1
      omega
theorem sumC_down (f : Nat → Nat → Nat) : ∀ {s : Nat} {l : List Nat}, l.length ≤ s → sumC f s (l.map (· - 1)) = sumC (fun a i => f (a - 1) (i - 1)) (s + 1) l
  | _, [], _ => rfl
  | 0, _ :: _, h => by cases h
  | s + 1, a :: l, h => by
    have h' : l.length ≤ s := by rw [List.length_cons] at h; omega
    show f (a - 1) (s + 1) + sumC f s (l.map (· - 1)) = f (a - 1) (s + 1) + sumC _ (s + 1) l
    rw [sumC_down f h']
theorem sumC_add (f g k : Nat → Nat → Nat) : ∀ {s : Nat} {l : List Nat}, IsCas s l → l.length < s ∨ s = 0 ∨ (∀ a, 1 ≤ a → f a 1 + g a 1 = k a 1) → (∀ a i, 2 ≤ i → i ≤ a → f a i + g a i = k a i) → sumC f s l + sumC g s l = sumC k s l
  | _, [], _, _, _ => rfl
  | 0, _ :: _, h, _, _ => h.elim
  | s + 1, a :: l, h, hc, he => by
    have ha := h.1
    have ih := sumC_add f g k (s := s) (l := l) h.2.2 (by
      rcases hc with hc | hc | hc
      · left; rw [List.length_cons] at hc; omega
      · omega
      · right; right; exact hc) he
    show f a (s + 1) + sumC f s l + (g a (s + 1) + sumC g s l) = k a (s + 1) + sumC k s l
    have h1 : f a (s + 1) + g a (s + 1) = k a (s + 1) := by
      by_cases q : s = 0
      · subst q
        rcases hc with hc | hc | hc
        · rw [List.length_cons] at hc; omega
        · omega
        · exact hc a ha
      · exact he a (s + 1) (by omega) ha
    omega
/-- (a): of the first sets those with the point 0, and their shadow -/
theorem LS_LP {n s : Nat} (hs : 1 ≤ s) : LS n s = LP n s + LS (LP n s) (s - 1) := by
  obtain ⟨s, rfl⟩ : ∃ t, s = t + 1 := ⟨s - 1, by omega⟩
  rw [Nat.add_sub_cancel]
  have h := cas_is (s + 1) n
  have hv : val (s + 1) (cas (s + 1) n) = n := cas_val _ _ (by omega)
  have pasc : ∀ a i, 2 ≤ i → i ≤ a → fLP a i + fLS (a - 1) (i - 1) = fLS a i := by
    intro a i h1 h2
    show ch (a - 1) (i - 1) + ch (a - 1) (i - 1 - 1) = ch a (i - 1)
    rw [ch_add a (i - 1) (by omega) (by omega)]; omega
  by_cases hl : (cas (s + 1) n).length ≤ s
  · have hd := h.down hl
    have e1 : val s ((cas (s + 1) n).map (· - 1)) = LP n (s + 1) := sumC_down ch hl
    have e2 : LS (LP n (s + 1)) s = sumC (fun a i => fLS (a - 1) (i - 1)) (s + 1) (cas (s + 1) n) := by
      rw [← e1]
      unfold LS
      rw [hd.uniq, sumC_down fLS hl]
    rw [e2]
    exact (sumC_add fLP (fun a i => fLS (a - 1) (i - 1)) fLS h (.inl (by omega)) pasc).symm
  · have hlen : (cas (s + 1) n).length = s + 1 := by have := h.len; omega
    -- all places are filled
    have key : ∀ {s : Nat} {l : List Nat}, IsCas (s + 1) l → l.length = s + 1 → sumC fLS (s + 1) l = sumC fLP (s + 1) l + LS (sumC fLP (s + 1) l) s := by
      intro s l h hlen
      have hne : l ≠ [] := by intro e; subst e; cases hlen
      have hsp := List.dropLast_concat_getLast hne
      generalize hx : l.getLast hne = x at hsp
      generalize hm : l.dropLast = m at hsp
      have hml : m.length = s := by rw [← hm, List.length_dropLast]; omega
      have hpre : ∀ {s : Nat} {m k : List Nat}, IsCas s (m ++ k) → IsCas s m := by
        intro s m
        induction m generalizing s with
        | nil => intro _ _; exact isCas_nil s
        | cons a m ih =>
          intro k h
          cases s with
          | zero => exact h.elim
          | succ s =>
            refine ⟨h.1, fun b hb => h.2.1 b ?_, ih h.2.2⟩
            cases m with
            | nil => cases hb
            | cons c m => exact hb
      subst hsp
      have hM := hpre h
      have e1 : sumC fLS (s + 1) (m ++ [x]) = sumC fLS (s + 1) m + 1 := by
        rw [sumC_snoc, hml]
        show sumC fLS (s + 1) m + ch x (s + 1 - s - 1) = _
        have : s + 1 - s - 1 = 0 := by omega
        rw [this, ch_zero]
      have e2 : sumC fLP (s + 1) (m ++ [x]) = sumC fLP (s + 1) m + 1 := by
        rw [sumC_snoc, hml]
        show sumC fLP (s + 1) m + ch (x - 1) (s + 1 - s - 1) = _
        have : s + 1 - s - 1 = 0 := by omega
        rw [this, ch_zero]
      rw [e1, e2]
      have hle : m.length ≤ s := by omega
      have hd := hM.down hle
      have e3 : val s (m.map (· - 1)) = sumC fLP (s + 1) m := sumC_down ch hle
      have e4 : LS (sumC fLP (s + 1) m) s = sumC (fun a i => fLS (a - 1) (i - 1)) (s + 1) m := by
        rw [← e3]
        unfold LS
        rw [hd.uniq, sumC_down fLS hle]
      have e5 := sumC_add fLP (fun a i => fLS (a - 1) (i - 1)) fLS hM (.inl (by omega)) pasc
      by_cases hs0 : s = 0
      · subst hs0
        have : m = [] := by cases m with
          | nil => rfl
          | cons c m => cases hml
        subst this
        rfl
      · have e6 := LS_full hd (by rw [List.length_map]; exact hml) (by omega)
        rw [e3] at e6
        rw [e6, e4]
        omega
    unfold LP
    exact key h hlen
/-- the cut one, all items less 1, same size: the sets without the point 0 -/
theorem tr_down : ∀ {s : Nat} {l : List Nat}, IsCas s l → IsCas s ((tr s l).map (· - 1))
  | s, [], _ => isCas_nil s
  | 0, _ :: _, h => h.elim
  | s + 1, a :: l, h => by
    by_cases e : s + 1 < a
    · rw [tr_cons e]
      refine ⟨by show s + 1 ≤ a - 1; omega, fun b hb => ?_, tr_down h.2.2⟩
      have hb2 : ((tr s l).map (· - 1)).head? = some b := hb
      rw [List.head?_map] at hb2
      cases q : (tr s l).head? with
      | none => rw [q] at hb2; cases hb2
      | some c =>
        rw [q] at hb2
        have hb' : c - 1 = b := Option.some.inj hb2
        obtain ⟨h1, h2⟩ := tr_head q
        have h3 := h.2.1 c h1
        show b < a - 1
        omega
    · rw [tr_stop e]; exact isCas_nil _
theorem sumC_map1 (f : Nat → Nat → Nat) : ∀ (s : Nat) (l : List Nat), sumC f s (l.map (· - 1)) = sumC (fun a i => f (a - 1) i) s l
  | _, [] => rfl
  | s, a :: l => by
    show f (a - 1) s + sumC f (s - 1) (l.map (· - 1)) = f (a - 1) s + sumC _ (s - 1) l
    rw [sumC_map1 f]
theorem val_rest {n s : Nat} (hs : 1 ≤ s) : val s ((tr s (cas s n)).map (· - 1)) + LP n s = n := by
  have h := cas_is s n
  have e : val s ((tr s (cas s n)).map (· - 1)) = sumC (fun a i => ch (a - 1) i) s (cas s n) := by
    show sumC ch s _ = _
    rw [sumC_map1]
    exact tr_cut0 (fun a i => ch (a - 1) i) (fun i hi => ch_lt (by omega)) h
  rw [e]
  have := sumC_add (fun a i => ch (a - 1) i) fLP ch h (.inr (.inr fun a ha => by
    show ch (a - 1) 1 + ch (a - 1) (1 - 1) = ch a 1
    simp; omega)) (fun a i h1 h2 => by
    show ch (a - 1) i + ch (a - 1) (i - 1) = ch a i
    rw [ch_add a i (by omega) (by omega)]; omega)
  show sumC (fun a i => ch (a - 1) i) s (cas s n) + sumC fLP s (cas s n) = n
  rw [this]
  exact cas_val s n (by omega)
theorem LP_le {n s : Nat} (hs : 1 ≤ s) : LP n s ≤ n := by have := val_rest (n := n) hs; omega
theorem LP_rest {n s : Nat} (hs : 1 ≤ s) : LS (n - LP n s) s ≤ LP n s := by
  have h := cas_is s n
  have hd := tr_down h
  have e : n - LP n s = val s ((tr s (cas s n)).map (· - 1)) := by have := val_rest (n := n) hs; omega
  rw [e]
  unfold LS
  rw [hd.uniq, sumC_map1]
  exact (tr_cut fLP (fun i _ => by show ch (i - 1) (i - 1) ≤ 1; rw [ch_self]; omega) h).2.1
theorem ch_pred : ∀ k, 1 ≤ k → ch k (k - 1) = k
  | 0, h => absurd h (by omega)
  | 1, _ => rfl
  | k + 2, _ => by
    show ch (k + 1 + 1) (k + 1) = k + 2
    have := ch_pred (k + 1) (by omega)
    rw [Nat.add_sub_cancel] at this
    rw [ch_ss, this, ch_self]
theorem LP_least {n s u : Nat} (hs : 1 ≤ s) (hu : LS (n - u) s ≤ u) : LP n s ≤ u := by
  apply Classical.byContradiction
  intro q
  have h := cas_is s n
  have hd := tr_down h
  have hn := LP_le (n := n) hs
  have ev := val_rest (n := n) hs
  have m1 := LS_mono (s := s) (n := val s ((tr s (cas s n)).map (· - 1)) + 1) (m := n - u) hs (by omega)
  have hl := tr_len h
  have t := (tr_cut fLP (fun i _ => by show ch (i - 1) (i - 1) ≤ 1; rw [ch_self]; omega) h).2.2
  have hlen := h.len
  by_cases hk : (tr s (cas s n)).length < s
  · have c := cas_succ hd (by rw [List.length_map]; exact hk)
    have e : LS (val s ((tr s (cas s n)).map (· - 1)) + 1) s = sumC fLP s (tr s (cas s n)) + (s - (tr s (cas s n)).length) := by
      unfold LS
      rw [c, sumC_snoc, sumC_map1, List.length_map]
      show _ + ch (s - (tr s (cas s n)).length) (s - (tr s (cas s n)).length - 1) = _
      rw [ch_pred _ (by omega)]
    have t2 : sumC fLP s (cas s n) = LP n s := rfl
    omega
  · have e := LS_full hd (by rw [List.length_map]; omega) hs
    have e2 : LS (val s ((tr s (cas s n)).map (· - 1))) s = sumC fLP s (tr s (cas s n)) := by
      unfold LS
      rw [hd.uniq, sumC_map1]
    have t2 : sumC fLP s (cas s n) = LP n s := rfl
    omega
/-- the lower number of sets of a sum is at most the sum of the lower numbers -/
theorem LS_add : ∀ (s k m n : Nat), m + n ≤ k → LS (m + n) s ≤ LS m s + LS n s
  | 0, _, m, n, _ => by rw [LS_size0]; omega
  | s + 1, 0, m, n, h => by
    have : m + n = 0 := by omega
    rw [this, LS_zero]; omega
  | s + 1, k + 1, m, n, h => by
    by_cases hz : m = 0
    · subst hz; rw [Nat.zero_add]; omega
    by_cases hz' : n = 0
    · subst hz'; rw [Nat.add_zero]; omega
    have pos : ∀ {n}, 1 ≤ n → 1 ≤ LP n (s + 1) := by
      intro n hn
      apply Classical.byContradiction
      intro q
      have z : LP n (s + 1) = 0 := by omega
      have r := LP_rest (n := n) (s := s + 1) (by omega)
      rw [z, Nat.sub_zero] at r
      have e := LS_LP (n := n) (s := s + 1) (by omega)
      have m1 := LS_mono (s := s + 1) (n := ch (s + 1) (s + 1)) (m := n) (by omega) (by rw [ch_self]; exact hn)
      rw [LS_ch (s := s) (by omega)] at m1
      have := ch_pos (n := s + 1) (k := s) (by omega)
      omega
    have p1 := pos (n := m) (by omega)
    have p2 := pos (n := n) (by omega)
    have l1 := LP_le (n := m) (s := s + 1) (by omega)
    have l2 := LP_le (n := n) (s := s + 1) (by omega)
    have ih := LS_add (s + 1) k (m - LP m (s + 1)) (n - LP n (s + 1)) (by omega)
    have r1 := LP_rest (n := m) (s := s + 1) (by omega)
    have r2 := LP_rest (n := n) (s := s + 1) (by omega)
    have e : m + n - (LP m (s + 1) + LP n (s + 1)) = m - LP m (s + 1) + (n - LP n (s + 1)) := by omega
    have lu : LP (m + n) (s + 1) ≤ LP m (s + 1) + LP n (s + 1) := LP_least (by omega) (by rw [e]; omega)
    have a1 := LS_LP (n := m) (s := s + 1) (by omega)
    have a2 := LS_LP (n := n) (s := s + 1) (by omega)
    have a3 := LS_LP (n := m + n) (s := s + 1) (by omega)
    rw [Nat.add_sub_cancel] at a1 a2 a3
    have b : LS (LP (m + n) (s + 1)) s ≤ LS (LP m (s + 1)) s + LS (LP n (s + 1)) s := by
      by_cases hs : s = 0
      · subst hs; rw [LS_size0]; omega
      · exact Nat.le_trans (LS_mono (by omega) lu) (LS_add s (LP m (s + 1) + LP n (s + 1)) _ _ (Nat.le_refl _))
    omega
end HR

namespace HG
open PySem PySem.Spec PyProof.Rows L2
/-! A def's promise where no repr is running around it: what repr of data needs to know. -/
structure FnG (P : Program) (w : World) (K : PySem.W.Frag) (mg : Str → Option Value) (base : Heap) (C : CXT) (n : Nat) (g : Addr) (gd : FuncData) (prs : List Str) (pr : Sp) : Prop where
  len : ∀ xs H Q E, pr xs H Q E → xs.length = prs.length
  run : ∀ (B : Around) (fr : List Env) (t : Shared) (H : Hp) (as : Args) (ws : List Value) (xs : List V) (Q : VK) (E : XK),
    B.guards = some [] → Room n B → Env0 P w K mg base B fr t H → BindsTo t gd as (prs.zip ws) → Vals xs ws → pr xs H Q E →
      codeAny (model P w) B (.call (.ref g) as) (CR C fr P w H t Q E) t
section
variable {P : Program} {w : World} {K : PySem.W.Frag} {mg : Str → Option Value} {base : Heap} {C : CXT} {n m : Nat} {g : Addr} {gd : FuncData} {prs : List Str} {pr : Sp}
theorem FnG.of (F : FnOk P w K mg base C n g gd prs pr) : FnG P w K mg base C n g gd prs pr :=
  ⟨F.len, fun B fr t H as ws xs Q E _ a b c d e => F.run B fr t H as ws xs Q E a b c d e⟩
theorem FnG.mono (F : FnG P w K mg base C n g gd prs pr) (h : n ≤ m) : FnG P w K mg base C m g gd prs pr :=
  ⟨F.len, fun B fr t H as ws xs Q E q a b c d e => F.run B fr t H as ws xs Q E q (Room.mono a h) b c d e⟩
/-- a def of the text, by its body -/
theorem okG {x qual : Str} {params : Arguments} {body : List Stmt} {scope : Scope} {dvs : List V} {kws : List (Str × V)} {N : List Str}
    (F : FunD K x qual params body scope dvs kws g gd) (S : FnScope N prs scope) (len : ∀ xs H Q E, pr xs H Q E → xs.length = prs.length)
    (hb : ∀ (cd : Value) (B : Around) (fr : List Env) (t : Shared) (H : Hp) (xs : List V) (Q : VK) (E : XK),
      (B.deeper (envOfC qual scope t.heap.objs.size g cd)).guards = some [] → Room n (B.deeper (envOfC qual scope t.heap.objs.size g cd)) → pr xs H Q E →
      ∃ r, PSs (cxOf C P w K mg base N qual scope g cd B fr t H E) body r ∧ r { nx := fun _ H2 => Q .non H2, rt := Q } (start N xs) H) :
    FnG P w K mg base C (n + 1) g gd prs pr := by
  obtain ⟨o1, o2, dV, kV, dc, pm, an, cd, ct, sl, e, lk, ce, _, _⟩ := F.ex
  subst e
  refine ⟨len, ?_⟩
  intro B fr t H as ws xs Q E clear room e0 bt rel hp
  have hx := len _ _ _ _ hp
  have inK : K.In t.heap := PySem.W.Frag.In.keeps e0.mod.kin (fun b o z => (e0.bs b o z).1)
  have nl : t.heap.NoLimit := Heap.NoLimit.keeps e0.mod.nolimit (fun b o z => (e0.bs b o z).1)
  refine codeAny_call_function room.depth (inK _ _ lk) rfl S.co S.gen rfl (PySem.W.codeRec_of inK ce) (bt _ _ _ _ ?_)
  refine wpAny_newFunctionEnv_cells S.kind (fun y hy => ?_) (fun env he t1 z => ?_)
  · have hm := (List.of_mem_zip (show (y.1, y.2) ∈ prs.zip ws from hy)).1
    rcases S.par y.1 hm with q | q
    · exact Or.inl q
    · exact Or.inr ⟨q, PySem.W.cellsFrom_some _ _ _ (Or.inl q)⟩
  · subst he
    refine ⟨nl.keeps z.toInCall.keep, codeAny_func ?_⟩
    obtain ⟨r, hr, hq⟩ := hb cd B fr t H xs Q E clear (room.deeper _) hp
    have J := inv_start (CX := C) (E := E) (f := g) (cd := cd) (qual := qual) S room.hd e0 hx rel z
    refine wpAny_mono (hr.run [] t1 (start N xs) H _ J hq) ?_ (fun _ _ h => h)
    rintro fl t2 h
    cases fl with
    | ret u =>
      obtain ⟨v, σ2, H2, J2, rv, q⟩ := h
      exact ⟨v, H2, J2.os, J2.bare, J2.base, J2.hok, rv, q⟩
    | next =>
      obtain ⟨σ2, H2, J2, q⟩ := h
      exact ⟨.non, H2, J2.os, J2.bare, J2.base, J2.hok, rfl, q⟩
    | brk =>
      obtain ⟨_, _, _, q⟩ := h
      exact q.elim
    | cont =>
      obtain ⟨_, _, _, q⟩ := h
      exact q.elim
end
section
variable {X : Cx} {C : CXT} {n : Nat} {g : Addr} {gd : FuncData} {prs : List Str} {pr : Sp} {E : XK} {x : Str} {p pos : Pos} {e : Expr} {es : List Expr} {t : TA}
/-- f(e, ..) -/
theorem pe_callG (F : FnG X.prog X.w X.K X.mg X.base C n g gd prs pr) (hc : X.A.guards = some []) (hr : Room n X.A) (hg : Gl X x) (hm : X.mg x = some (.ref g)) (hk : PySem.W.keepIn X.K (.ref g) = true) (hb : Binds X.K gd prs [])
    (hx : Passes C X E) (ha : PA X (e :: es) t) (hdb : (x == ("__debug__" : Str)) = false := by decide)
    (he : starEach (e :: es) X.env = (false, eval e X.env) :: starEach es X.env := by rfl) (hpl : (backTo pos (starEach es X.env)).any (·.1) = false := by rfl) :
    PE X (.Call (.Name x p) (e :: es) [] pos) (tCall pr [] E t) := by
  constructor
  intro pins s σ H Q I h
  refine wpAny_Call_Name_kw (ld_glob I hg hm ?_ hdb)
  have I0 := I.ok.mod.kin
  refine PySem.W.callWith_K (h₀ := X.base) I0 hk ?_ he hpl
  refine thn (ha.run pos pins s σ H _ I h) ?_
  rintro us s1 ⟨vs, H1, I1, r, q⟩
  refine ⟨I1.kIn, ?_⟩
  have q' : pr vs H1 Q E := by
    have q0 : pr (vs ++ []) H1 Q E := q
    rwa [List.append_nil] at q0
  have hl : (us ++ []).length = prs.length := by
    rw [List.append_nil, ← r.length]
    exact F.len _ _ _ _ q'
  have hbt := hb s1 us I1.kIn hl
  rw [List.append_nil] at hbt
  refine wpAny_call (codeAny_mono (F.run X.A X.stack s1 H1 ⟨us, []⟩ us vs Q E hc hr I1.env0 hbt r q') ?_)
  rintro fl s' hq
  match fl, hq with
  | .error z, hq => exact hx pins σ H1 s1 z s' I1 hq
  | .ok (.ret u), hq => exact I1.after hq
end
end HG

namespace HG
open PySem PySem.Spec PyProof.Rows L2
/-- the heap ahead of the law: only the script is known, locked -/
def scr (a : Addr) (vs : List Value) (ns : List Int) : Hp := fun b => if b = a then some (.frz { cls := .type "list", data := .seq vs.toArray } (.lst (ns.map V.int))) else none
theorem scr_at {a : Addr} {vs : List Value} {ns : List Int} : scr a vs ns a = some (.frz { cls := .type "list", data := .seq vs.toArray } (.lst (ns.map V.int))) := if_pos rfl
theorem scr_no {a b : Addr} {vs : List Value} {ns : List Int} (h : b ≠ a) : scr a vs ns b = none := if_neg h
section
variable {P : Program} {w : World} {K : PySem.W.Frag} {mg mb : Str → Option Value} {C : CXT} {n : Nat} {g a : Addr} {gd : FuncData} {x : Str} {pr : Sp} {s1 : Shared} {vs : List Value} {ns : List Int}
/-- the call of the law from a heap that knows at most the script -/
theorem from_heap {H : Hp} (KX : K.In s1.heap) (G : s1.heap.Ns mainGlobals mg) (B : s1.heap.Ns builtinsNs mb) (hB : ∀ x : Str, x ≠ "__name__" → mb x = bootBuiltins x) (NL : s1.heap.NoLimit) (hg : s1.gens = #[])
    (ha : s1.heap.get? a = some { cls := .type "list", data := .seq vs.toArray }) (hr : Room n callerA) (hok : HOk P w H s1.heap) (hH : H = (fun _ => none) ∨ (H = scr a vs ns ∧ K.lookup a = none))
    (F : ∀ base : Heap, K.In base → base.Ns mainGlobals mg → FnG P w K mg base C n g gd [x] pr) (hbind : ∀ (s : Shared) (u : Value), BindsTo s gd ⟨[u], []⟩ [(x, u)])
    (hp : pr [.ref a] H (fun v _ => v = .bl true) fun _ _ _ => False) (hC : ∀ e s', C [] H s1 (fun _ _ _ => False) e s' → False) :
    codeAny (model P w) callerA (.call (.ref g) ⟨[.ref a], []⟩) (fun r s' => r = .ok (.ret (.bool true)) ∧ OldK s1.heap s'.heap ∧ s'.os = s1.os ∧ AllBare s'.gens) s1 := by
  have hno : ∀ b, b ≠ a → H b = none := by
    intro b hb
    rcases hH with e | ⟨e, _⟩
    · rw [e]
    · rw [e]; exact scr_no hb
  have dictNone : ∀ {b : Addr} {o : Obj} {es : Array DictEntry} {m : Nat}, s1.heap.get? b = some o → o.data = .dict es m → H b = none := by
    intro b o es m hb hd
    by_cases q : b = a
    · subst q
      rw [ha] at hb
      cases hb
      exact absurd hd (by intro z; cases z)
    · exact hno b q
  have nsT : ∀ {b : Addr} {m : Str → Option Value}, s1.heap.Ns b m → (hidT s1.heap H).Ns b m := by
    rintro b m ⟨o, es, ep, e1, e2, e3⟩
    exact ⟨o, es, ep, hidT_get e1 (dictNone e1 e2), e2, e3⟩
  have kT : K.In (hidT s1.heap H) := by
    intro b o e
    refine hidT_get (KX b o e) ?_
    by_cases q : b = a
    · rcases hH with z | ⟨_, z⟩
      · rw [z]
      · rw [q, z] at e
        cases e
    · exact hno b q
  obtain ⟨mc, l1, l2⟩ := NL
  have M0 : Mod K mg (hidT s1.heap H) := { kin := kT, glob := nsT G, blt := ⟨mb, nsT B, hB⟩, nolimit := ⟨mc, nsT l1, l2⟩ }
  have E0 : Env0 P w K mg (hidT s1.heap H) callerA [] s1 H :=
    { frames := rfl, mod := M0, bs := fun _ _ e => of_hidT e, bsz := Nat.le_of_eq (hidT_size _ _), funs := trivial, frf := (fun b hb => by cases hb), hok := hok, bare := .of_eq hg }
  have hrun := (F _ kT (nsT G)).run callerA [] s1 H ⟨[.ref a], []⟩ [.ref a] [.ref a] _ _ rfl hr E0 (hbind s1 (.ref a)) (.cons rfl .nil) hp
  refine codeAny_mono hrun ?_
  intro r s' hz
  match r, hz with
  | .error e, hz => exact (hC e s' hz).elim
  | .ok (.ret u), hz =>
    obtain ⟨v, H2, os, bare, un, ok2, rv, q⟩ := hz
    cases (show v = .bl true from q)
    cases (show u = Value.bool true from rv)
    refine ⟨rfl, OldK.of_keep ?_, os, bare⟩
    intro b o e
    by_cases q : H b = none
    · exact un.keep b o e q (fun z => by cases z) (fun z => by cases z)
    · have hb : b = a := Classical.byContradiction fun hb => q (hno b hb)
      subst hb
      rcases hH with z | ⟨z, _⟩
      · rw [z] at q; exact absurd rfl q
      · have h1 := z ▸ (scr_at (a := b) (vs := vs) (ns := ns))
        have h2 := un.frzs b _ _ h1
        have h3 := (ok2 b _ h2).1
        have h4 := (hok b _ h1).1
        rw [e] at h4
        cases h4
        exact h3
/-- the law's end -/
theorem walkG {l : PySem.W.OpenLaw} {N : Nat} {q : Program} {loose : List Str} {XP : (Str → Option Value) → Heap → Prop} {YP : World → Heap → Prop} {d : DefRec}
    (hn : l.most = some N) (hN : N ≤ sizeLine) (hdf : d.params.defaults = []) (hr : Room n callerA)
    (F : ∀ (w : World) (mg : Str → Option Value) (fa : Addr) (h : Heap), YP w h → h.Ns mainGlobals mg → mg d.name = some (.ref fa) →
      ∃ (K : PySem.W.Frag) (fd : FuncData) (pr : Sp), K.In h ∧ (∀ (s : Shared) (u : Value), BindsTo s fd ⟨[u], []⟩ [(x, u)]) ∧
        (∀ (H : Hp) (a : Addr) (ns : List Int), ns.length ≤ N → SqL K H a (ns.map V.int) → (∀ b, H b = none ∨ ∃ o u, H b = some (.frz o u)) → pr [.ref a] H (fun v _ => v = .bl true) fun _ _ _ => False) ∧
        ∀ base : Heap, K.In base → base.Ns mainGlobals mg → FnG l.prog w K mg base CX0 n fa fd [x] pr) :
    PySem.W.WalkO q loose XP YP l.row.toRowW d [] (fun f vs => PySem.call f vs) := by
  refine Att.attach_call hn hdf ?_
  intro w s0 s1 mg mb fa o pm cd doc a vs ns Gr Y ho hd hcd hmg hobj hints hlen hg
  obtain ⟨K, fd, pr, KX, hb, hsp, hF⟩ := F w mg fa _ Y Gr.T.g hmg
  have rv := vals_ints hints
  have hsz : ns.length ≤ sizeLine := Nat.le_trans hlen hN
  cases hk : K.lookup a with
  | some ob =>
    have e := KX a ob hk
    rw [hobj] at e
    cases e
    have hS : SqL K (fun _ => none) a (ns.map V.int) := Or.inr ⟨_, vs.toArray, _, hk, rfl, rfl, rfl, by rw [List.size_toArray, hints.length]; exact hsz, by simpa using rv⟩
    exact from_heap (ns := ns) KX Gr.T.g Gr.T.b Gr.T.builtins Gr.T.nolimit hg hobj hr (fun b u z => by cases z) (Or.inl rfl) hF hb (hsp _ a ns hlen hS fun b => Or.inl rfl) fun _ _ z => z
  | none =>
    have hS : SqL K (scr a vs ns) a (ns.map V.int) := Or.inl (Or.inr ⟨_, scr_at⟩)
    refine from_heap (ns := ns) KX Gr.T.g Gr.T.b Gr.T.builtins Gr.T.nolimit hg hobj hr ?_ (Or.inr ⟨rfl, hk⟩) hF hb (hsp _ a ns hlen hS fun b => ?_) fun _ _ z => z
    · intro b u z
      by_cases hba : b = a
      · subst hba
        rw [scr_at] at z
        cases z
        exact ⟨hobj, by rw [List.length_map]; exact hsz, vs, _, rv, hobj⟩
      · rw [scr_no hba] at z
        cases z
    · by_cases hba : b = a
      · exact Or.inr ⟨_, _, by rw [hba]; exact scr_at⟩
      · exact Or.inl (scr_no hba)
end
end HG

namespace HG
open PySem PySem.Spec PyProof.Rows L2
/-! ### enumerate of a tuple -/
theorem meets_enumT (l : Addr) (items : Array Value) (ol : Obj) (hcl : ol.cls = .type "tuple") (hdt : ∃ n, ol.data = .seq items n) :
    Meets (Builtin.«enumerate.__new__» ⟨[.type "enumerate", .ref l], []⟩) (fun _ R s => s.heap.get? l = some ol ∧
      R (.ok (.ret (.ref (s.heap.push { cls := .type "tuple_iterator", data := .fields #[.ref l, .int 0 0] }).objs.size)))
        { s with heap := (s.heap.push { cls := .type "tuple_iterator", data := .fields #[.ref l, .int 0 0] }).push { cls := .type "enumerate", data := .fields #[.none, .bool false, .ref s.heap.objs.size, rawInt 0, .none, .none] } }) :=
  .of_wp fun prog w A R s h => by
    obtain ⟨hp, g, d, tk, os⟩ := s
    obtain ⟨hl, h⟩ := h
    obtain ⟨n, hdt⟩ := hdt
    have hsub := sub_enumerate
    have hT : Heap.IsTuple (Shared.heap ⟨hp, g, d, tk, os⟩) l items := ⟨_, hl, hcl, n, hdt⟩
    wp_walk using AutoSeq1.wpAny_loadPart' hl
    refine wpAny_stack_any fun st => wpAny_pure ?_
    split
    · rename_i c _ _ _ _ _
      cases (c == Value.type "enumerate") <;> (wp_walk using AutoSeq1.wpAny_loadPart' hl, wpAny_pyIter_tuple hT; exact ⟨_, rfl, h⟩)
    · wp_walk using AutoSeq1.wpAny_loadPart' hl, wpAny_pyIter_tuple hT
      exact ⟨_, rfl, h⟩

section
variable {prog : Program} {w : World} {A : Around} {E : Value → Shared → Prop} {s : Shared}
theorem call_enumT {l : Addr} {items : Array Value} {Q : Value → Shared → Prop} (hL : s.heap.IsTuple l items)
    (h : ∀ h2, IsEnum h2 (s.heap.objs.size + 1) s.heap.objs.size 0 .none → h2.IsTupleIter s.heap.objs.size l 0 → h2.objs.size = s.heap.objs.size + 2 → (∀ b o, s.heap.get? b = some o → h2.get? b = some o) →
      Q (.ref (s.heap.objs.size + 1)) { s with heap := h2 }) : wpAny (model prog w) A (call (.type "enumerate") [.ref l]) Q E s := by
  obtain ⟨ol, hl, hc, n, hd⟩ := hL
  have M := meets_enumT l items ol hc ⟨n, hd⟩
  refine callType_new F.called_enumerate (by decide) (F.typeCall_enumerate_1 _) (F.newCall_enumerate_1 _) (fun obj => F.args_object_init_2 obj _) F.entry_enumerate_new M ⟨hl, ?_⟩
  generalize hh1 : s.heap.push { cls := .type "tuple_iterator", data := .fields #[.ref l, .int 0 0] } = h1
  have z1 : h1.objs.size = s.heap.objs.size + 1 := by rw [← hh1]; exact Heap.size_push ..
  have i1 : h1.IsTupleIter s.heap.objs.size l 0 := by rw [← hh1]; exact ⟨_, Heap.get?_push_size _ rfl, rfl, rfl⟩
  have k1 : ∀ b o, s.heap.get? b = some o → h1.get? b = some o := fun b o e => by rw [← hh1]; exact Heap.get?_push_of_some _ e
  generalize hh2 : h1.push { cls := .type "enumerate", data := .fields #[.none, .bool false, .ref s.heap.objs.size, rawInt 0, .none, .none] } = h2
  have e2 : IsEnum h2 (s.heap.objs.size + 1) s.heap.objs.size 0 .none := by rw [← hh2, ← z1]; exact Heap.get?_push_size _ rfl
  have k2 : ∀ b o, h1.get? b = some o → h2.get? b = some o := fun b o e => by rw [← hh2]; exact Heap.get?_push_of_some _ e
  have z2 : h2.objs.size = s.heap.objs.size + 2 := by rw [← hh2, Heap.size_push, z1]
  rw [z1]
  exact ⟨⟨_, e2, rfl⟩, h h2 e2 (i1.at fun o e => k2 _ o e) z2 fun b o e => k2 b o (k1 b o e)⟩
theorem draws_tuple (hh : A.handled = none) (it l : Addr) (hne : l ≠ it) (items : Array Value) :
    Draws prog w A it [it, l] items.size (fun i v => items[i]? = some v) (fun i h => h.IsTupleIter it l i ∧ h.IsTuple l items) where
  live := by
    rintro _ _ ⟨⟨o, ho, _⟩, _⟩
    exact ⟨o, ho⟩
  frame := by
    rintro _ _ h2 ⟨a, ⟨o, ho, r⟩⟩ hk
    exact ⟨a.at fun o e => hk it (by simp) o e, ⟨o, hk l (by simp) o ho, r⟩⟩
  item := by
    intro i s Q E hi st hQ
    refine RZ.nextOf_tuple_item st.1 st.2 (x := items[i]) (by simp [hi]) ?_
    intro h2 hit hs
    obtain ⟨o, ho, r⟩ := st.2
    exact hQ _ h2 s.toks (by simp [hi]) ⟨hit, ⟨o, hs.extBut _ _ hne ho, r⟩⟩ hs
  done := by
    intro s Q E st hE
    exact RZ.nextOf_tuple_end hh st.1 st.2 (by simp) hE
end
/-- the tuple at a, each item in a new pair with its place -/
def IteT (K : PySem.W.Frag) (a : Addr) : It where
  go := fun i H => ∃ (xs : List V) (x : V), SqT K H a xs ∧ xs[i]? = some x
  yld := fun i H v H2 => ∃ (t : Addr) (x : V), v = .ref t ∧ H t = none ∧ H2 = upd H t (.tup [.int (i : Nat), x]) ∧ ∀ xs, SqT K H a xs → xs[i]? = some x
  stop := fun i H => ∃ xs : List V, SqT K H a xs ∧ xs.length ≤ i
theorem turn_enumT {P : Program} {w : World} {K : PySem.W.Frag} {elts : List Expr} {kk : Nat} {tpos : Pos} (a e it : Addr) :
    Turn P w K (.Tuple elts kk tpos) (IteT K a) [e, it] e (fun i h => (∃ old, IsEnum h e it ((i : Nat) : Int) old) ∧ h.IsTupleIter it a i ∧ e ≠ it ∧ a ≠ it ∧ a ≠ e) where
  mem := by simp
  obj := by
    rintro i h ⟨⟨old, he⟩, ⟨o, ho, hc, hd⟩, _⟩ b hb
    rcases (show b = e ∨ b = it by simpa using hb) with z | z
    · subst z; exact ⟨_, he, fun v q => nomatch q⟩
    · subst z; exact ⟨o, ho, fun v q => by rw [hd] at q; cases q⟩
  keep := by
    rintro i h h2 ⟨⟨old, he⟩, hi, hne⟩ k
    exact ⟨⟨old, k e (by simp) _ he⟩, hi.at fun o q => k it (by simp) o q, hne⟩
  item := by
    intro X hP hw hK hc i pins s σ H E I hf st hg
    subst hP hw hK
    obtain ⟨⟨old, he⟩, hit, hne, hai, hae⟩ := st
    obtain ⟨xs, x, hq, hx⟩ := hg
    obtain ⟨its, rv, p, hz⟩ := I.tuple hq
    have pT : s.heap.IsTuple a its.toArray := by
      obtain ⟨o, h1, h2, h3⟩ := p
      exact ⟨o, h1, h2, h3⟩
    obtain ⟨u, hu, ru⟩ := rv.get hx
    have hel : e < s.heap.objs.size := Heap.lt_size he
    have hil : it < s.heap.objs.size := by obtain ⟨_, q, _⟩ := hit; exact Heap.lt_size q
    have hlt : i < its.toArray.size := by
      have := (List.getElem?_eq_some_iff.mp hu).1
      simpa using this
    refine wpAny_pyNext_enum_itemD (draws_tuple (A := X.A.in1) (I.ok.hd hc) it a hai its.toArray) he ⟨hit, pT⟩ hlt hne (by simp [hne, Ne.symm hae]) ?_
    intro y h1 tk hy ho hit1 hT hsz hk
    have hyu : y = u := by
      have h9 : its[i]? = some y := by simpa using hy
      rw [hu] at h9
      exact (Option.some.inj h9).symm
    subst hyu
    refine ⟨_, rfl, wpAny_letOwnedTupleGo_enum (s := { s with heap := h1, toks := tk + 1 }) ho ?_⟩
    intro h2 he2 sb
    have hT2 : h2.get? s.heap.objs.size = some { cls := .type "tuple", data := .seq #[.int i tk, y] } := (sb.2 _ (Nat.ne_of_gt hel)).trans hT
    have new : ObjOk X.prog X.w (upd H s.heap.objs.size (.tup [.int (i : Nat), x])) h2 s.heap.objs.size (.tup [.int (i : Nat), x]) :=
      ⟨by show 2 ≤ sizeLine; decide, [.int i tk, y], .cons ⟨_, rfl⟩ (.cons ru .nil), ⟨_, hT2, rfl, _, rfl⟩⟩
    have I1 : Inv X pins σ (upd H s.heap.objs.size (.tup [.int (i : Nat), x])) { s with heap := h2, toks := tk + 1 } :=
      I.turnedNew (ch := [e, it]) (fun b ob hb q => (sb.2 b (fun z => hb (by simp [z]))).trans (hk b ob (fun z => hb (by simp [z])) (fun z => hb (by simp [z])) q)) hf (Nat.le_refl _) new
    refine ⟨.ref s.heap.objs.size, _, I1, rfl, ⟨_, x, rfl, I.hok.fresh (Nat.le_refl _), rfl, fun ys hy => ?_⟩, ⟨⟨y, ?_⟩, hit1.1.at fun o q => (sb.2 it (Ne.symm hne)).trans q, hne, hai, hae⟩, fun b hb => ?_⟩
    · rw [I.tuple_inj hy hq]; exact hx
    · have e1 : ((i + 1 : Nat) : Int) = (i : Int) + 1 := by omega
      rw [e1]
      exact he2
    · have hlt2 : b < s.heap.objs.size := by
        rcases (show b = e ∨ b = it by simpa using hb) with z | z
        · rw [z]; exact hel
        · rw [z]; exact hil
      rw [upd_ne (Nat.ne_of_lt hlt2)]
      exact (hf b hb).1
  done := by
    intro X hP hw hK hc i pins s σ H E I hf st hg
    subst hP hw hK
    obtain ⟨⟨old, he⟩, hit, hne, hai, hae⟩ := st
    obtain ⟨xs, hq, hx⟩ := hg
    obtain ⟨its, rv, p, hz⟩ := I.tuple hq
    have pT : s.heap.IsTuple a its.toArray := by
      obtain ⟨o, h1, h2, h3⟩ := p
      exact ⟨o, h1, h2, h3⟩
    obtain ⟨f0, f1, f2, f3, f4, f5⟩ := hf it (by simp)
    have hl := rv.length
    have hT : s.TypeIs (.ref e) "enumerate" := ⟨_, he, rfl⟩
    unfold pyNext
    refine wpAny_bind (wpAny_attempt (wpAny_callSpecial?_slot (name := Str.ofString "__next__") hT F.slot_enumerate_next (wpAny_call_entry F.slot_enumerate_next hT F.entry_enumerate_next ?_ (F.args_enumerate_next_1 _))))
    show wpAny _ _ (field (.ref e) 2 >>= _) _ _ _
    refine wpAny_bind (wpAny_field he rfl (x := .ref it) rfl ?_)
    refine wpAny_bind (RZ.nextOf_tuple_end (I.ok.hd hc) hit pT (by simp; omega) ?_)
    intro h2 x hx2 hs2
    obtain ⟨o, ho, hcl⟩ := hs2
    refine wpAny_bind (wpAny_isInstance (T := "StopIteration") (b := true) ⟨o, ho, hcl⟩ isSubtype_stop ?_)
    exact wpAny_pure ⟨rfl, I.turned (t' := s.toks) (fun b o hb q => hx2 b o hb q) f0 f1 f3 f4 f5⟩
  self := by
    rintro B i s Q E ⟨⟨_, he⟩, _⟩ h
    exact wpAny_pyIter_enum he h
def iEnumT (K : PySem.W.Frag) (ta : TA) : TI := fun σ H R => ta σ H fun vs H1 => ∃ (a : Addr) (xs : List V), vs = [.ref a] ∧ SqT K H1 a xs ∧ R (IteT K a) H1
theorem pi_enumT {X : Cx} {e : Expr} {ta : TA} {p pos tpos : Pos} {elts : List Expr} {kk : Nat} (hg : Gl X "enumerate") (hm : X.mg "enumerate" = none) (ha : PA X [e] ta) (hs : starEach [e] X.env = [(false, eval e X.env)] := by rfl) :
    PI X (.Tuple elts kk tpos) (.Call (.Name "enumerate" p) [e] [] pos) (iEnumT X.K ta) := by
  constructor
  intro pins s σ H R I h
  refine Call_ (ld_blt I hg hm boot_enumerate (PyProof.Rows.callWith_type1 (thn (ha.run pos pins s σ H _ I h) ?_) hs rfl))
  rintro us s1 ⟨vs, H1, I1, r1, a, xs, ex, hq, q⟩
  subst ex
  cases r1 with
  | cons r rr =>
    cases rr
    cases r
    obtain ⟨its, rv, p2, hz⟩ := I1.tuple hq
    have pT : s1.heap.IsTuple a its.toArray := by
      obtain ⟨o, h1, h2, h3⟩ := p2
      exact ⟨o, h1, h2, h3⟩
    have hal : a < s1.heap.objs.size := p2.lt
    refine call_enumT pT fun h2 he hit hsz hk => wpAny_pyIter_enum he ?_
    have I2 : Inv X pins σ H1 { s1 with heap := h2 } := I1.kept (t' := s1.toks) hk
    refine ⟨s1.heap.objs.size + 1, [s1.heap.objs.size + 1, s1.heap.objs.size], _, _, H1, rfl, I2, turn_enumT a (s1.heap.objs.size + 1) s1.heap.objs.size, ⟨⟨.none, he⟩, hit, Nat.succ_ne_self _, Nat.ne_of_lt hal, Nat.ne_of_lt (Nat.lt_succ_of_lt hal)⟩, fun b hb => ?_, q⟩
    have hle : s1.heap.objs.size ≤ b := by
      rcases (show b = s1.heap.objs.size + 1 ∨ b = s1.heap.objs.size by simpa using hb) with z | z
      · rw [z]; exact Nat.le_add_right _ _
      · rw [z]; exact Nat.le_refl _
    exact I1.fpOk hle (I1.hok.fresh hle)
/-! ### repr of data -/
def rRepr (K : PySem.W.Frag) : List V → Hp → VK → Prop := fun vs H Q => ∃ (a : Addr) (d : PyData), vs = [.ref a] ∧ Dp K H (.ref a) d ∧ d.showable = true ∧ d.hasDict = false ∧ d.depth ≤ 50 ∧ d.shown.length ≤ sizeLine ∧ Q (.str d.shown) H
theorem call_repr {X : Cx} (hc : X.A.guards = some []) (hu : X.A.units + 64 < cLine) : CallR X (.builtin "repr") (rRepr X.K) := by
  intro pins s σ H xs us Q I r h
  obtain ⟨a, d, rfl, hd, hs, hn, hdep, hz, q⟩ := h
  obtain ⟨u, rfl, ru⟩ := vals1 r
  obtain rfl : u = Value.ref a := ru
  obtain ⟨as, rd⟩ := Dp.reads I d _ _ hd rfl
  exact repr_of_reads' rd hs (PyData.noDict_hsm hn) hc (by omega) (fun _ _ e => e) (fun h2 t tk hk => ⟨.str d.shown, H, I.kept hk, ⟨t, rfl⟩, q⟩) hz

/-! ### f(k = v, ..): keywords alone -/
section
variable {K : PySem.W.Frag} {x qual : Str} {params : Arguments} {body : List Stmt} {scope : Scope} {f : Addr} {fd : FuncData} {ps : List Str}
/-- the values by keywords, put in the parameters' order by g -/
theorem kbn0 (F : FunD K x qual params body scope [] [] f fd) (ks : List Str) (g : {α : Type} → List α → List α) (hrel : ∀ {zs : List V} {ws : List Value}, Vals zs ws → zs.length = ks.length → Vals (g zs) (g ws))
    (h : ∀ (kV doc pm : Value) (an : Option Addr) (cdv ct : Value) (ws : List Value), ws.length = ks.length → bindArgs (PySem.W.fnOf x qual params body scope .none kV doc pm an cdv ct) ⟨[], ks.zip ws⟩ = pure (ps.zip (g ws))) :
    ∀ (s : Shared) (ws : List Value), ws.length = ks.length → BindsTo s fd ⟨[], ks.zip ws⟩ (ps.zip (g ws)) := by
  obtain ⟨oc, od, dV, kV, doc, pm, an, cdv, ct, osl, rfl, lk, hcd, hD, hK⟩ := F.ex
  rcases hD with ⟨_, rfl⟩ | ⟨e, _⟩
  · intro s ws hl
    exact .of_eq (h kV doc pm an cdv ct ws hl)
  · exact absurd rfl e
def tCallK0 (m : Nat) (pr : Sp) (g : List V → List V) (E : XK) (tk : TA) : TE := fun σ H Q => tk σ H fun zs H2 => zs.length = m ∧ pr (g zs) H2 Q E
end
section
variable {X : Cx} {C : CXT} {k : Nat} {f : Addr} {fd : FuncData} {ps ks : List Str} {pr : Sp} {E : XK} {x : Str} {p pos : Pos} {kws : List Keyword} {tk : TA} {g : {α : Type} → List α → List α}
theorem pe_callK0 (F : FnG X.prog X.w X.K X.mg X.base C k f fd ps pr) (hc : X.A.guards = some []) (hr : Room k X.A) (hg : Gl X x) (hm : X.mg x = some (.ref f)) (hk : PySem.W.keepIn X.K (.ref f) = true)
    (hb : ∀ (s : Shared) (ws : List Value), ws.length = ks.length → BindsTo s fd ⟨[], ks.zip ws⟩ (ps.zip (g ws))) (hrel : ∀ {zs : List V} {ws : List Value}, Vals zs ws → zs.length = ks.length → Vals (g zs) (g ws))
    (hx : Passes C X E) (hkw : PK X kws tk) (hall : (backToKw pos (keywordEach kws X.env)).all (·.1.isSome) = true := by rfl) (hks : (backToKw pos (keywordEach kws X.env)).filterMap (·.1) = ks := by rfl)
    (hdb : (x == ("__debug__" : Str)) = false := by decide) (hpl : ((backTo pos (starEach [] X.env)).any (·.1) || (backToKw pos (keywordEach kws X.env)).any (·.1.isNone)) = false := by rfl) :
    PE X (.Call (.Name x p) [] kws pos) (tCallK0 ks.length pr g E tk) := by
  constructor
  intro pins s σ H Q I h
  refine wpAny_Call_Name_kw (ld_glob I hg hm ?_ hdb)
  refine PySem.W.callWith_KW0 (h₀ := X.base) I.ok.mod.kin hk hall ?_ hpl
  refine thn (hkw.run pos pins s σ H _ I h) ?_
  rintro ws s2 ⟨zs, H2, I2, rz, l2, q⟩
  refine ⟨I2.kIn, ?_⟩
  rw [hks]
  have l3 : ws.length = ks.length := by rw [← rz.length]; exact l2
  refine wpAny_call (codeAny_mono (F.run X.A X.stack s2 H2 ⟨[], ks.zip ws⟩ (g ws) (g zs) Q E hc hr I2.env0 (hb s2 ws l3) (hrel rz l2) q) ?_)
  rintro fl s3 hq
  match fl, hq with
  | .error z, hq => exact hx pins σ H2 s2 z s3 I2 hq
  | .ok (.ret u), hq => exact I2.after hq
/-- the same of a def that asks nothing of what runs around -/
theorem pe_callK1 (F : FnOk X.prog X.w X.K X.mg X.base C k f fd ps pr) (hr : Room k X.A) (hg : Gl X x) (hm : X.mg x = some (.ref f)) (hk : PySem.W.keepIn X.K (.ref f) = true)
    (hb : ∀ (s : Shared) (ws : List Value), ws.length = ks.length → BindsTo s fd ⟨[], ks.zip ws⟩ (ps.zip (g ws))) (hrel : ∀ {zs : List V} {ws : List Value}, Vals zs ws → zs.length = ks.length → Vals (g zs) (g ws))
    (hx : Passes C X E) (hkw : PK X kws tk) (hall : (backToKw pos (keywordEach kws X.env)).all (·.1.isSome) = true := by rfl) (hks : (backToKw pos (keywordEach kws X.env)).filterMap (·.1) = ks := by rfl)
    (hdb : (x == ("__debug__" : Str)) = false := by decide) (hpl : ((backTo pos (starEach [] X.env)).any (·.1) || (backToKw pos (keywordEach kws X.env)).any (·.1.isNone)) = false := by rfl) :
    PE X (.Call (.Name x p) [] kws pos) (tCallK0 ks.length pr g E tk) := by
  constructor
  intro pins s σ H Q I h
  refine wpAny_Call_Name_kw (ld_glob I hg hm ?_ hdb)
  refine PySem.W.callWith_KW0 (h₀ := X.base) I.ok.mod.kin hk hall ?_ hpl
  refine thn (hkw.run pos pins s σ H _ I h) ?_
  rintro ws s2 ⟨zs, H2, I2, rz, l2, q⟩
  refine ⟨I2.kIn, ?_⟩
  rw [hks]
  have l3 : ws.length = ks.length := by rw [← rz.length]; exact l2
  refine wpAny_call (codeAny_mono (F.run X.A X.stack s2 H2 ⟨[], ks.zip ws⟩ (g ws) (g zs) Q E hr I2.env0 (hb s2 ws l3) (hrel rz l2) q) ?_)
  rintro fl s3 hq
  match fl, hq with
  | .error z, hq => exact hx pins σ H2 s2 z s3 I2 hq
  | .ok (.ret u), hq => exact I2.after hq
end
end HG

/-! Own words over the hand layer: readings' names, a def called by its name, evaluations. -/
namespace HL
open PySem PySem.Spec PyProof.Rows L2 Evl HG
abbrev rAdd0 : R2 := rI0 fun i j => .int (i + j)
abbrev rSub0 : R2 := rI0 fun i j => .int (i - j)
/-- either side small, or both not too great -/
def CMulO (i j : Int) : Prop := CMul i j ∨ CMulW i j
abbrev rMulW : R2 := rI CMulO fun i j => .int (i * j)
theorem op_mulO {X : Cx} : OpR X (binaryOp .Mult) rMulW := by
  intro pins s σ H x y v u Q I rx ry h
  obtain ⟨i, j, e1, e2, c | c, q⟩ := h
  · exact op_mul pins s σ H x y v u Q I rx ry ⟨i, j, e1, e2, c, q⟩
  · exact op_mulW pins s σ H x y v u Q I rx ry ⟨i, j, e1, e2, c, q⟩
abbrev rDivW : R2 := rI CDivW fun i j => .int (i / j)
abbrev rMod0 : R2 := rI (fun _ j => 0 < j) fun i j => .int (i % j)
abbrev rPow0 : R2 := rI CPow fun i j => .int (i ^ j.toNat)
abbrev rAnd0 : R2 := rI0 fun i j => .int (Builtin.bitAnd i j)
abbrev rLt0 : R2 := rI0 fun i j => .bl (decide (i < j))
abbrev rLe0 : R2 := rI0 fun i j => .bl (decide (i ≤ j))
abbrev rGt0 : R2 := rI0 fun i j => .bl (decide (j < i))
abbrev rGe0 : R2 := rI0 fun i j => .bl (decide (j ≤ i))
abbrev rNeg : V → Hp → VK → Prop := rU fun i => .int (-i)
abbrev rIs0 : R2 := fun x y H Q => ∃ a b, x = .bl a ∧ y = .bl b ∧ Q (.bl (decide (a = b))) H
abbrev rIsNot0 : R2 := fun x y H Q => ∃ a b, x = .bl a ∧ y = .bl b ∧ Q (.bl (!decide (a = b))) H
abbrev rInt1 : List V → Hp → VK → Prop := fun xs H Q => (∃ i, xs = [.int i] ∧ Q (.int i) H) ∨ ∃ k, xs = [.bl k] ∧ Q (.int (if k then 1 else 0)) H
abbrev rMin2 : List V → Hp → VK → Prop := fun xs H Q => ∃ i j, xs = [.int i, .int j] ∧ Q (.int (if j < i then j else i)) H
abbrev rTupleOf (K : PySem.W.Frag) : List V → Hp → VK → Prop := fun xs H Q => ∃ p ys, xs = [.ref p] ∧ ((SqL K H p ys ∧ ∀ l, H l = none → Q (.ref l) (upd H l (.tup ys))) ∨ (SqT K H p ys ∧ Q (.ref p) H))
abbrev rReprI : List V → Hp → VK → Prop := fun xs H Q => ∃ i : Int, xs = [.int i] ∧ i.natAbs.log2 < 1920 ∧ Q (.str (toString i)) H
/-! ### a def of the module, by its name -/
structure Cl (P : Program) (w : World) (K : PySem.W.Frag) (mg : Str → Option Value) (base : Heap) (k : Nat) (x : Str) (st : Stmt) (ps : List Str) (sp : Sp) : Prop where
  ex : ∃ (f : Addr) (fd : FuncData), FnG P w K mg base CX0 k f fd ps sp ∧ FunD K x x (defArgs st) (defBody st) (defScope st) [] [] f fd ∧ mg x = some (.ref f) ∧ Binds K fd ps []
/-- one def as it stands behind the top -/
structure At (K : PySem.W.Frag) (mg : Str → Option Value) (x : Str) (st : Stmt) : Prop where
  ex : ∃ (f : Addr) (fd : FuncData), FunD K x x (defArgs st) (defBody st) (defScope st) [] [] f fd ∧ mg x = some (.ref f)
section
variable {P : Program} {w : World} {K : PySem.W.Frag} {mg : Str → Option Value} {base : Heap}
theorem cl {k : Nat} {x : Str} {st : Stmt} {N ps : List Str} {sp : Sp} (A : At K mg x st) (S : FnScope N ps (defScope st))
    (hb : ∀ (kV doc pm : Value) (an : Option Addr) (cdv ct : Value) (us : List Value), us.length = ps.length → bindArgs (PySem.W.fnOf x x (defArgs st) (defBody st) (defScope st) .none kV doc pm an cdv ct) ⟨us, []⟩ = pure (ps.zip us))
    (len : ∀ xs H Q E, sp xs H Q E → xs.length = ps.length)
    (body : ∀ (f : Addr) (cd : Value) (B : Around) (fr : List Env) (t : Shared) (H : Hp) (xs : List V) (Q : VK) (E : XK),
      (B.deeper (envOfC x (defScope st) t.heap.objs.size f cd)).guards = some [] → Room k (B.deeper (envOfC x (defScope st) t.heap.objs.size f cd)) → sp xs H Q E →
      ∃ r, PSs (cxOf CX0 P w K mg base N x (defScope st) f cd B fr t H E).nox (defBody st) r ∧ r { nx := fun _ H2 => Q .non H2, rt := Q } (start N xs) H) :
    Cl P w K mg base (k + 1) x st ps sp := by
  obtain ⟨f, fd, F, hm⟩ := A.ex
  refine ⟨f, fd, okG F S len ?_, F, hm, FunD.bindsN F hb⟩
  intro cd B fr t H xs Q E hg hr h
  obtain ⟨r, h1, h2⟩ := body f cd B fr t H xs Q E hg hr h
  exact ⟨r, PSs.nox h1, h2⟩
end
section
variable {X : Cx} {k j : Nat} {x : Str} {st : Stmt} {ps ks : List Str} {sp : Sp} {p pos : Pos} {e : Expr} {es : List Expr} {t tk : TA} {kws : List Keyword}
theorem pe_gc (c : Cl X.prog X.w X.K X.mg X.base k x st ps sp) (hc : X.A.guards = some []) (hr : Room j X.A) (hk : k ≤ j) (hg : Gl X x) (ha : PA X (e :: es) t) (hdb : (x == ("__debug__" : Str)) = false := by decide)
    (he : starEach (e :: es) X.env = (false, eval e X.env) :: starEach es X.env := by rfl) (hpl : (backTo pos (starEach es X.env)).any (·.1) = false := by rfl) :
    PE X (.Call (.Name x p) (e :: es) [] pos) (tCall sp [] E0 t) := by
  obtain ⟨f, fd, F, FD, hm, b⟩ := c.ex
  exact pe_callG F hc (hr.mono hk) hg hm FD.kp b pass0 ha hdb he hpl
/-- the values of keywords in the parameters' order -/
def perm {α : Type} (is : List Nat) (zs : List α) : List α := is.filterMap (zs[·]?)
theorem perm_rel {zs : List V} {ws : List Value} (r : Vals zs ws) : ∀ is : List Nat, Vals (perm is zs) (perm is ws)
  | [] => .nil
  | i :: is => by
    have ih := perm_rel r is
    unfold perm at ih ⊢
    cases e : zs[i]? with
    | none =>
      have e2 := Vals.none_of r e
      rw [List.filterMap_cons_none e, List.filterMap_cons_none e2]
      exact ih
    | some v =>
      obtain ⟨u, h1, h2⟩ := r.get e
      rw [List.filterMap_cons_some e, List.filterMap_cons_some h1]
      exact .cons h2 ih
theorem pe_kc (c : Cl X.prog X.w X.K X.mg X.base k x st ps sp) (hc : X.A.guards = some []) (hr : Room j X.A) (hk : k ≤ j) (hg : Gl X x) {is : List Nat}
    (kb : ∀ (kV doc pm : Value) (an : Option Addr) (cdv ct : Value) (ws : List Value), ws.length = ks.length → bindArgs (PySem.W.fnOf x x (defArgs st) (defBody st) (defScope st) .none kV doc pm an cdv ct) ⟨[], ks.zip ws⟩ = pure (ps.zip (perm is ws)))
    (hkw : PK X kws tk) (hall : (backToKw pos (keywordEach kws X.env)).all (·.1.isSome) = true := by rfl) (hks : (backToKw pos (keywordEach kws X.env)).filterMap (·.1) = ks := by rfl)
    (hdb : (x == ("__debug__" : Str)) = false := by decide) (hpl : ((backTo pos (starEach [] X.env)).any (·.1) || (backToKw pos (keywordEach kws X.env)).any (·.1.isNone)) = false := by rfl) :
    PE X (.Call (.Name x p) [] kws pos) (tCallK0 ks.length sp (perm is) E0 tk) := by
  obtain ⟨f, fd, F, FD, hm, b⟩ := c.ex
  exact pe_callK0 (g := perm is) F hc (hr.mono hk) hg hm FD.kp (kbn0 FD ks (perm is) (fun r _ => perm_rel r is) kb) (fun r _ => perm_rel r is) pass0 hkw hall hks hdb hpl
end
/-! ### evaluations -/
section
variable {K : PySem.W.Frag} {σ : L2.St} {H H' : Hp} {ta tb te : TE} {x y z v : V}
theorem rc_int {i : Int} : RC rInt1 [.int i] H (.int i) := fun H1 _ Q q => Or.inl ⟨i, rfl, q H1 (Ex.refl H1)⟩
theorem rc_min2 {i j : Int} : RC rMin2 [.int i, .int j] H (.int (if j < i then j else i)) := fun H1 _ Q q => ⟨i, j, rfl, q H1 (Ex.refl H1)⟩
theorem rc_max2 {i j : Int} : RC rMax2 [.int i, .int j] H (.int (if j > i then j else i)) := fun H1 _ Q q => ⟨i, j, rfl, q H1 (Ex.refl H1)⟩
theorem rv_is0 {a b : Bool} : RV rIs0 (.bl a) (.bl b) H (.bl (decide (a = b))) := fun H1 _ Q q => ⟨a, b, rfl, rfl, q H1 (Ex.refl H1)⟩
theorem rv_isNot0 {a b : Bool} : RV rIsNot0 (.bl a) (.bl b) H (.bl (!decide (a = b))) := fun H1 _ Q q => ⟨a, b, rfl, rfl, q H1 (Ex.refl H1)⟩
theorem rc_reprI {i : Int} (h : i.natAbs.log2 < 1920) : RC rReprI [.int i] H (.str (toString i)) := fun H1 _ Q q => ⟨i, rfl, h, q H1 (Ex.refl H1)⟩
/-- a pair of names stored -/
theorem q_par {i j : Nat} {ta : TA} {D : Ends} {tz : TS} {a b : V} (h : EvA ta σ H [a, b]) (k : ∀ H1, Ex H H1 → tz D ((σ.set i (some a)).set j (some b)) H1) : tSeq (tPar i j ta) tz D σ H :=
  h H (Ex.refl H) _ fun H1 e => ⟨a, b, rfl, k H1 e⟩
theorem s_par {i j : Nat} {ta : TA} {D : Ends} {a b : V} (h : EvA ta σ H [a, b]) (k : ∀ H1, Ex H H1 → D.nx ((σ.set i (some a)).set j (some b)) H1) : tPar i j ta D σ H :=
  h H (Ex.refl H) _ fun H1 e => ⟨a, b, rfl, k H1 e⟩
end
/-- one part after the other -/
theorem op_first {σ : L2.St} {H : Hp} {ta tb : TE} {r : R2} {x : V} {Q : VK} (ha : Ev ta σ H x) (k : ∀ H1, Ex H H1 → tb σ H1 fun y H2 => r x y H2 Q) : tOp r ta tb σ H Q := ha H (Ex.refl H) _ fun H1 e => k H1 e
theorem call_args {σ : L2.St} {H : Hp} {ta : TA} {sp : Sp} {E : XK} {vs : List V} {Q : VK} (ha : EvA ta σ H vs) (k : ∀ H1, Ex H H1 → sp vs H1 Q E) : tCall sp [] E ta σ H Q := ha H (Ex.refl H) _ fun H1 e => by
  show sp (vs ++ []) H1 Q E
  rw [List.append_nil]
  exact k H1 e
/-- for x in (a, b, ..) -/
theorem q_forNU {K : PySem.W.Frag} {σ : L2.St} {H : Hp} {xs : List V} {tl : TE} {j : Nat} {tu tz : TS} {D : Ends} (h : EvU tl σ H xs) (Pv : Addr → Nat → L2.St → Hp → Prop) (h0 : ∀ p H1, H p = none → Ex H H1 → H1 p = some (.tup xs) → Pv p 0 σ H1)
    (hl : ∀ p i σ' H', i ≤ xs.length → Pv p i σ' H' → SqT K H' p xs) (hs : ∀ p i x σ' H', xs[i]? = some x → Pv p i σ' H' → tu { D with nx := Pv p (i + 1), ct := Pv p (i + 1), bk := tz D } (σ'.set j (some x)) H')
    (hd : ∀ p σ' H', Pv p xs.length σ' H' → tz D σ' H') : tSeq (tFor (iTup K tl) (gName j) tu) tz D σ H :=
  h H (Ex.refl H) _ fun p H1 hp e h1 => ⟨p, rfl, ⟨xs, st_of h1⟩, for_tup (D := { D with nx := tz D }) (Pv p) (h0 p H1 hp e h1) (hl p) (hs p) (hd p)⟩
/-! ### great numbers -/
theorem natAbs_lt {n b : Nat} (h : n < 2 ^ b) : ((n : Nat) : Int).natAbs < 2 ^ b := by rw [Int.natAbs_natCast]; exact h
theorem mulW {n m a b : Nat} (hn : n < 2 ^ a) (hm : m < 2 ^ b) (ha : 0 < a := by decide) (hb : 0 < b := by decide) (h : a + b ≤ 1000000 := by decide) : CMulO (n : Int) (m : Int) :=
  .inr <| wide_mul (natAbs_lt hn) (natAbs_lt hm) ha hb h
theorem mulI {i j : Int} {a b : Nat} (hi : i.natAbs < 2 ^ a) (hj : j.natAbs < 2 ^ b) (ha : 0 < a := by decide) (hb : 0 < b := by decide) (h : a + b ≤ 1000000 := by decide) : CMulO i j := .inr <| wide_mul hi hj ha hb h
theorem mulL {i j : Int} (h1 : -(2 ^ 64) < i := by decide) (h2 : i < 2 ^ 64 := by decide) : CMulO i j := .inl (.inl ⟨h1, h2⟩)
theorem mulR {i j : Int} (h1 : -(2 ^ 64) < j := by decide) (h2 : j < 2 ^ 64 := by decide) : CMulO i j := .inl (.inr ⟨h1, h2⟩)
theorem divW {i : Int} {m b : Nat} (hp : 0 < m) (hm : m < 2 ^ b) (hb : 0 < b := by decide) (h : b ≤ 9000 := by decide) : CDivW i (m : Int) := wide_div (by omega) (natAbs_lt hm) hb h
end HL

/-! The end. -/
namespace HE
open PySem PySem.Spec PyProof.Rows L2 HG HL
theorem fd_eq {K : PySem.W.Frag} {x y q1 q2 : Str} {p1 p2 : Arguments} {b1 b2 : List Stmt} {s1 s2 : Scope} {d1 d2 : List V} {k1 k2 : List (Str × V)} {f : Addr} {g1 g2 : FuncData} (F1 : FunD K x q1 p1 b1 s1 d1 k1 f g1) (F2 : FunD K y q2 p2 b2 s2 d2 k2 f g2) : g1 = g2 := by
  obtain ⟨_, _, _, _, _, _, _, _, _, _, _, l1, _⟩ := F1.ex
  obtain ⟨_, _, _, _, _, _, _, _, _, _, _, l2, _⟩ := F2.ex
  rw [l1] at l2
  injection l2 with z
  injection z with _ _ z
  injection z
theorem walkC {l : PySem.W.OpenLaw} {N n : Nat} {q : Program} {loose : List Str} {XP : (Str → Option Value) → Heap → Prop} {YP : World → Heap → Prop} {d : DefRec} {x lw : Str} {st : Stmt}
    (hn : l.most = some N) (hN : N ≤ sizeLine) (hdf : d.params.defaults = []) (hr : Room n callerA) (hname : d.name = lw)
    (hbind : ∀ (kV doc pm : Value) (an : Option Addr) (cdv ct : Value) (us : List Value), us.length = [x].length → bindArgs (PySem.W.fnOf lw lw (defArgs st) (defBody st) (defScope st) .none kV doc pm an cdv ct) ⟨us, []⟩ = pure ([x].zip us))
    (F : ∀ (w : World) (mg : Str → Option Value) (h : Heap), YP w h → h.Ns mainGlobals mg →
      ∃ (K : PySem.W.Frag) (pr : Sp), K.In h ∧ At K mg lw st ∧
        (∀ (H : Hp) (a : Addr) (ns : List Int), ns.length ≤ N → SqL K H a (ns.map V.int) → (∀ b, H b = none ∨ ∃ o u, H b = some (.frz o u)) → pr [.ref a] H (fun v _ => v = .bl true) fun _ _ _ => False) ∧
        ∀ base : Heap, Cl l.prog w K mg base n lw st [x] pr) :
    PySem.W.WalkO q loose XP YP l.row.toRowW d [] (fun f vs => PySem.call f vs) := by
  refine walkG (x := x) hn hN hdf hr ?_
  intro w mg fa h Y G hmg
  rw [hname] at hmg
  obtain ⟨K, pr, KX, A, hsp, hC⟩ := F w mg h Y G
  obtain ⟨f, fd, F0, hm⟩ := A.ex
  have ef : f = fa := by
    rw [hm] at hmg
    injection hmg with z
    injection z
  subst ef
  refine ⟨K, fd, pr, KX, fun s v => F0.bindsA hbind s [v] rfl, hsp, fun base KB GB => ?_⟩
  obtain ⟨f2, fd2, F2, F3, hm2, hb2⟩ := (hC base).ex
  have ef : f2 = f := by
    rw [hm2] at hm
    injection hm with z
    injection z
  subst ef
  have := fd_eq F0 F3
  subst this
  exact F2
end HE

/-! Comprehensions over enumerate and zip of tuples. -/
namespace HC
open PySem PySem.Spec PyProof.Rows L2 Evl HG HL
section
variable {K : PySem.W.Frag} {σ : L2.St} {H : Hp} {tt : TT} {te : TE} {vs : List Nat}
theorem cw_up {f : Nat → Bool} {v : Nat → V} {d : Addr} {i : Nat} {H1 H2 : Hp} (p : Cw H f v d i H1) (e : Ex H1 H2) : Cw H f v d i H2 := ⟨p.1, p.2.1.trans e, e d _ p.2.2⟩
/-- the comprehension's loop, by what each turn makes -/
theorem lc_by {J : It} {g : TG} {n : Nat} (f : Nat → Bool) (v : Nat → V) {d : Addr} {Q : VK} (hn : n ≤ 40000) (hd : H d = none)
    (stop : ∀ H1, Ex H H1 → J.stop n H1) (go : ∀ i H1, i < n → Ex H H1 → J.go i H1)
    (turn : ∀ i x H1 H2, i < n → Ex H H1 → J.yld i H1 x H2 → ∃ (σ2 : L2.St), Ex H1 H2 ∧ wipe σ2 vs = wipe σ vs ∧ EvT tt σ2 H (f i) ∧ (f i = true → Ev te σ2 H (v i)) ∧ ∀ R : L2.St → Hp → Prop, R σ2 H2 → g x (wipe σ vs) H2 R)
    (q : ∀ H1, Ex H H1 → H1 d = some (.lst (given n f v)) → Q (.ref d) H1) :
    ∃ W : Nat → Nat → Hp → Prop, (∃ m, W 0 m (upd H d (.lst []))) ∧ ∀ i m H1, W i m H1 →
      (J.stop i H1 ∧ Q (.ref d) H1) ∨ (J.go i H1 ∧ ∃ Nx : Hp → Prop, (∀ H2, Nx H2 → ∃ m2, m2 < m ∧ W (i + 1) m2 H2) ∧ ∀ x H2, J.yld i H1 x H2 → g x (wipe σ vs) H2 fun σ2 H3 => wipe σ2 vs = wipe σ vs ∧ tt σ2 H3 fun b H4 =>
        if b = true then te σ2 H4 fun y H5 => ∃ acc, H5 d = some (.lst acc) ∧ acc.length < sizeLine ∧ Nx (upd H5 d (.lst (acc ++ [y]))) else Nx H4) := by
  refine ⟨fun i m H1 => m = n - i ∧ i ≤ n ∧ Cw H f v d i H1, ⟨n, by omega, Nat.zero_le _, hd, Ex.new hd, upd_same⟩, ?_⟩
  rintro i m H1 ⟨rfl, hi, p⟩
  by_cases h : i = n
  · subst h
    exact Or.inl ⟨stop H1 p.2.1, q H1 p.2.1 p.2.2⟩
  · refine Or.inr ⟨go i H1 (by omega) p.2.1, fun H2 => Cw H f v d (i + 1) H2, fun H2 p2 => ⟨n - (i + 1), by omega, rfl, by omega, p2⟩, ?_⟩
    intro x H2 hy
    obtain ⟨σ2, e, w, ht, he, hg⟩ := turn i x H1 H2 (by omega) p.2.1 hy
    exact hg _ ⟨w, cw_turn (cw_up p e) (by omega) ht he⟩
/-- [te for a_i, a_j in enumerate(tuple) if tt] -/
theorem lc_enumT {ta : TA} {i j : Nat} {a : Addr} {xs : List V} (f : Nat → Bool) (v : Nat → V) {Q : VK} {H0 : Hp}
    (harg : ∀ R : List V → Hp → Prop, (∀ H1, Ex H0 H1 → Ex H H1 → R [.ref a] H1) → ta σ H0 R) (hx : SqT K H a xs) (hz : xs.length ≤ 40000)
    (hw : ∀ x y, wipe (((wipe σ vs).set i (some x)).set j (some y)) vs = wipe σ vs)
    (ht : ∀ (p : Nat) (x : V), xs[p]? = some x → EvT tt (((wipe σ vs).set i (some (.int (p : Nat)))).set j (some x)) H (f p))
    (he : ∀ (p : Nat) (x : V), xs[p]? = some x → f p = true → Ev te (((wipe σ vs).set i (some (.int (p : Nat)))).set j (some x)) H (v p))
    (q : ∀ d H1, H0 d = none → Ex H0 H1 → H1 d = some (.lst (given xs.length f v)) → Q (.ref d) H1) :
    tLc (iEnumT K ta) (gTup K 2 (gCons (gName i) (gCons (gName j) gNil))) tt te vs σ H0 Q := by
  refine harg _ fun H1 e1 e2 => ⟨a, xs, rfl, ex_t e2 hx, fun d hd => ?_⟩
  refine lc_by (H := H1) f v hz hd (fun H2 e3 => ⟨xs, ex_t (e2.trans e3) hx, Nat.le_refl _⟩) (fun p H2 hp e3 => ⟨xs, xs[p], ex_t (e2.trans e3) hx, by simp [hp]⟩) ?_ (fun H2 e3 h => q d H2 (fresh_back e1 hd) (e1.trans e3) h)
  rintro p x H2 H3 hp e3 ⟨t, y, rfl, nt, rfl, hy⟩
  have hy2 := hy xs (ex_t (e2.trans e3) hx)
  refine ⟨((wipe σ vs).set i (some (.int (p : Nat)))).set j (some y), Ex.new nt, hw _ _, (ht p y hy2).mono e2, fun hf => (he p y hy2 hf).mono e2, fun R r => ?_⟩
  exact ⟨t, _, rfl, st_of upd_same, rfl, _, _, rfl, _, _, rfl, rfl, r⟩
theorem et_yes : EvT tYes σ H true := fun H1 _ Q q => q H1 (Ex.refl H1)
theorem given_all (n : Nat) (v : Nat → V) : given n (fun _ => true) v = (List.range n).map v := by
  unfold given
  rw [List.filter_eq_self.mpr (fun _ _ => rfl)]
/-- over a tuple that stands | that is made in the call -/
theorem el_enumT {tx : TE} {i j : Nat} {a : Addr} {xs : List V} (f : Nat → Bool) (v : Nat → V) (h : Ev tx σ H (.ref a)) (hx : SqT K H a xs) (hz : xs.length ≤ 40000)
    (hw : ∀ x y, wipe (((wipe σ vs).set i (some x)).set j (some y)) vs = wipe σ vs)
    (ht : ∀ (p : Nat) (x : V), xs[p]? = some x → EvT tt (((wipe σ vs).set i (some (.int (p : Nat)))).set j (some x)) H (f p))
    (he : ∀ (p : Nat) (x : V), xs[p]? = some x → f p = true → Ev te (((wipe σ vs).set i (some (.int (p : Nat)))).set j (some x)) H (v p)) :
    EvL (tLc (iEnumT K (tCons tx tNil)) (gTup K 2 (gCons (gName i) (gCons (gName j) gNil))) tt te vs) σ H (given xs.length f v) := fun H0 e Q q =>
  lc_enumT (K := K) (H := H) f v (fun R r => h H0 e _ fun H1 e1 => r H1 e1 (e.trans e1)) hx hz hw ht he q
theorem el_enumTU {tx : TE} {i j : Nat} {xs : List V} (f : Nat → Bool) (v : Nat → V) (h : EvU tx σ H xs) (hz : xs.length ≤ 40000)
    (hw : ∀ x y, wipe (((wipe σ vs).set i (some x)).set j (some y)) vs = wipe σ vs)
    (ht : ∀ (p : Nat) (x : V), xs[p]? = some x → EvT tt (((wipe σ vs).set i (some (.int (p : Nat)))).set j (some x)) H (f p))
    (he : ∀ (p : Nat) (x : V), xs[p]? = some x → f p = true → Ev te (((wipe σ vs).set i (some (.int (p : Nat)))).set j (some x)) H (v p)) :
    EvL (tLc (iEnumT K (tCons tx tNil)) (gTup K 2 (gCons (gName i) (gCons (gName j) gNil))) tt te vs) σ H (given xs.length f v) := fun H0 e Q q =>
  h H0 e _ fun a H1 ha e1 hx => ⟨a, xs, rfl, st_of hx, fun d hd => by
    refine lc_by (H := H1) f v hz hd (fun H2 e3 => ⟨xs, st_of (e3 a _ hx), Nat.le_refl _⟩) (fun p H2 hp e3 => ⟨xs, xs[p], st_of (e3 a _ hx), by simp [hp]⟩) ?_ (fun H2 e3 h => q d H2 (fresh_back e1 hd) (e1.trans e3) h)
    rintro p x H2 H3 hp e3 ⟨t, y, rfl, nt, rfl, hy⟩
    have hy2 := hy xs (st_of (e3 a _ hx))
    have e2 : Ex H H1 := e.trans e1
    refine ⟨((wipe σ vs).set i (some (.int (p : Nat)))).set j (some y), Ex.new nt, hw _ _, (ht p y hy2).mono e2, fun hf => (he p y hy2 hf).mono e2, fun R r => ?_⟩
    exact ⟨t, _, rfl, st_of upd_same, rfl, _, _, rfl, _, _, rfl, rfl, r⟩⟩
/-- sum of a new list of ints -/
theorem ev_sumL {tx : TE} {ns : List Int} (h : EvL tx σ H (ns.map V.int)) : Ev (tCB (rSum K) (tCons tx tNil)) σ H (.int ns.sum) := fun H1 e Q q =>
  h H1 e _ fun p H2 _ e2 h2 => ⟨p, ns, rfl, sq_of h2, q H2 e2⟩
theorem ev_allL {tx : TE} {bs : List Bool} (h : EvL tx σ H (bs.map V.bl)) : Ev (tCB (rAll K) (tCons tx tNil)) σ H (.bl (bs.all id)) := fun H1 e Q q =>
  h H1 e _ fun p H2 _ e2 h2 => ⟨p, bs, rfl, sq_of h2, q H2 e2⟩
end
end HC

/-! Numbers: what the program's first defs compute. -/
namespace HN
open PySem PySem.Spec PyProof.Rows L2 Evl HG HL HC HR
variable {K : PySem.W.Frag}
/-! ### isinstance of an int -/
theorem isi_int {σ : L2.St} {H : Hp} {te : TE} {i : Int} (h : Ev te σ H (.int i)) : Ev (tCB (rIsi K) (tCons te (tCons (tC (.ty "int")) tNil))) σ H (.bl true) :=
  ev_cb (ea_cons h (ea_cons ev_c ea_nil)) fun H1 _ Q q => ⟨.int i, .ty "int", .type "int", .type "int", true, rfl, .ty _, .base (.int i), kit_ty (by decide +kernel), q H1 (Ex.refl H1)⟩
theorem isi_bool {σ : L2.St} {H : Hp} {te : TE} {i : Int} (h : Ev te σ H (.int i)) : Ev (tCB (rIsi K) (tCons te (tCons (tC (.ty "bool")) tNil))) σ H (.bl false) :=
  ev_cb (ea_cons h (ea_cons ev_c ea_nil)) fun H1 _ Q q => ⟨.int i, .ty "bool", .type "int", .type "bool", false, rfl, .ty _, .base (.int i), kit_ty (by decide +kernel), q H1 (Ex.refl H1)⟩
def sp_is_whole : Sp := fun vs H Q _ => ∃ i : Int, vs = [.int i] ∧ RetV (.bl true) H Q
def sp_is_count : Sp := fun vs H Q _ => ∃ i : Int, vs = [.int i] ∧ RetV (.bl (decide (0 ≤ i))) H Q
def sp_is_size : Sp := fun vs H Q _ => ∃ i : Int, vs = [.int i] ∧ RetV (.bl (decide (1 ≤ i))) H Q
theorem sv_is_whole {i : Int} {H : Hp} : SpV sp_is_whole [.int i] H (.bl true) := fun H1 _ Q q E => ⟨i, rfl, fun H2 e => q H2 e⟩
theorem sv_is_count {i : Int} {H : Hp} : SpV sp_is_count [.int i] H (.bl (decide (0 ≤ i))) := fun H1 _ Q q E => ⟨i, rfl, fun H2 e => q H2 e⟩
theorem sv_is_size {i : Int} {H : Hp} : SpV sp_is_size [.int i] H (.bl (decide (1 ≤ i))) := fun H1 _ Q q E => ⟨i, rfl, fun H2 e => q H2 e⟩
def t_is_whole (K : PySem.W.Frag) : TS :=
    (tRet (tAndV (tCB (rIsi K) (tCons (tVar 0) (tCons (tC (.ty "int")) tNil))) (tNotV (tCB (rIsi K) (tCons (tVar 0) (tCons (tC (.ty "bool")) tNil))))))
theorem rd_is_whole {vs : List V} {H : Hp} {Q : VK} {E : XK} (h : sp_is_whole vs H Q E) : t_is_whole K { nx := fun _ H2 => Q .non H2, rt := Q } (start ["thing"] vs) H := by
  obtain ⟨i, rfl, k⟩ := h
  exact s_ret (ev_is (ev_andV (isi_int (ev_var rfl)) fun _ => ev_notV (isi_bool (ev_var rfl))) rfl) k
def t_is_count (K : PySem.W.Frag) : TS :=
    (tRet (tAndV (tCall sp_is_whole [] E0 (tCons (tVar 0) tNil)) (tOp rGe0 (tVar 0) (tC (.int 0)))))
theorem rd_is_count {vs : List V} {H : Hp} {Q : VK} {E : XK} (h : sp_is_count vs H Q E) : t_is_count K { nx := fun _ H2 => Q .non H2, rt := Q } (start ["thing"] vs) H := by
  obtain ⟨i, rfl, k⟩ := h
  exact s_ret (ev_andV (ev_call (ea_cons (ev_var rfl) ea_nil) sv_is_whole) fun _ => ev_op (ev_var rfl) ev_c rv_I0) k
def t_is_size (K : PySem.W.Frag) : TS :=
    (tRet (tAndV (tCall sp_is_whole [] E0 (tCons (tVar 0) tNil)) (tOp rGe0 (tVar 0) (tC (.int 1)))))
theorem rd_is_size {vs : List V} {H : Hp} {Q : VK} {E : XK} (h : sp_is_size vs H Q E) : t_is_size K { nx := fun _ H2 => Q .non H2, rt := Q } (start ["thing"] vs) H := by
  obtain ⟨i, rfl, k⟩ := h
  exact s_ret (ev_andV (ev_call (ea_cons (ev_var rfl) ea_nil) sv_is_whole) fun _ => ev_op (ev_var rfl) ev_c rv_I0) k
/-! ### choose -/
def chI (m s : Int) : Int := if s < 0 ∨ m < s then 0 else (ch m.toNat s.toNat : Int)
theorem chI_nat (m s : Nat) : chI (m : Int) (s : Int) = (ch m s : Int) := by
  unfold chI
  by_cases h : m < s
  · rw [if_pos (by omega), ch_lt h]; rfl
  · rw [if_neg (by omega)]; rfl
theorem ch_le_pow : ∀ m s : Nat, ch m s ≤ m ^ s
  | m, 0 => by simp
  | m, s + 1 => by
    have h1 := ch_mul m s
    have h2 := ch_le_pow m s
    have h3 : ch m (s + 1) ≤ ch m (s + 1) * (s + 1) := Nat.le_mul_of_pos_right _ (by omega)
    have h4 : ch m s * (m - s) ≤ m ^ s * m := Nat.mul_le_mul h2 (by omega)
    rw [Nat.pow_succ]
    omega
/-- great numbers, small sizes -/
abbrev big : Nat := 4096
theorem ch_bits {m s : Nat} (hm : m < 2 ^ big) (hs : s ≤ 64) : ch m s < 2 ^ (big * 64 + 1) := by
  have h1 := ch_le_pow m s
  have h2 : m ^ s ≤ (2 ^ big) ^ s := Nat.pow_le_pow_left (by omega) s
  have h3 : (2 ^ big) ^ s = 2 ^ (big * s) := (Nat.pow_mul 2 big s).symm
  have h4 : 2 ^ (big * s) < 2 ^ (big * 64 + 1) := Nat.pow_lt_pow_right (by omega) (by unfold big; omega)
  exact Nat.lt_of_le_of_lt (Nat.le_trans h1 h2) (by rw [h3]; exact h4)
def sp_choose : Sp := fun vs H Q _ => ∃ m s : Int, vs = [.int m, .int s] ∧ s ≤ 64 ∧ m < 2 ^ big ∧ RetV (.int (chI m s)) H Q
theorem sv_choose {m s : Int} {H : Hp} (hs : s ≤ 64) (hm : m < 2 ^ big) : SpV sp_choose [.int m, .int s] H (.int (chI m s)) := fun H1 _ Q q E => ⟨m, s, rfl, hs, hm, fun H2 e => q H2 e⟩
def t_choose (K : PySem.W.Frag) : TS :=
    (tSeq (tIfS (tOr (tTest (tOp rLt0 (tVar 1) (tC (.int 0)))) (tTest (tOp rLt0 (tVar 0) (tVar 1)))) (tRet (tC (.int 0))) tNext)
    (tSeq (tAsg (tC (.int 1)) (gName 2))
    (tSeq (tFor (iRng1 (tCons (tVar 1) tNil)) (gName 3) (tAsg (tOp rDivW (tOp rMulW (tVar 2) (tOp rSub0 (tVar 0) (tVar 3))) (tOp rAdd0 (tVar 3) (tC (.int 1)))) (gName 2)))
    (tRet (tVar 2)))))
theorem rd_choose {vs : List V} {H : Hp} {Q : VK} {E : XK} (h : sp_choose vs H Q E) : t_choose K { nx := fun _ H2 => Q .non H2, rt := Q } (start ["many", "size", "found", "at"] vs) H := by
  obtain ⟨m, s, rfl, hs, hm, k⟩ := h
  refine q_when (et_or (et_test (ev_op (ev_var rfl) ev_c rv_I0)) fun _ => et_test (ev_op (ev_var rfl) (ev_var rfl) rv_I0)) (fun hb H1 e1 => ?_) (fun hb H1 e1 => ?_)
  · refine s_ret ev_c fun H2 e2 => ?_
    have e : chI m s = 0 := if_pos (by simpa using hb)
    rw [e] at k
    exact k H2 (e1.trans e2)
  · have hb' : ¬ (s < 0 ∨ m < s) := by simpa using hb
    obtain ⟨M, rfl⟩ : ∃ M : Nat, m = M := ⟨m.toNat, by omega⟩
    obtain ⟨S, rfl⟩ : ∃ S : Nat, s = S := ⟨s.toNat, by omega⟩
    have hM : M < 2 ^ big := by
      have : ((2 ^ big : Nat) : Int) = (2 : Int) ^ big := by exact Int.natCast_pow 2 big
      omega
    rw [chI_nat] at k
    refine q_asg ev_c fun H2 e2 => ?_
    refine q_forR1 (ea_cons (ev_var rfl) ea_nil) ⟨by omega, by omega⟩ (fun i σ' H' => (∃ x, σ' = [some (.int (M : Int)), some (.int (S : Int)), some (.int (ch M i : Int)), x]) ∧ Ex H2 H') (fun H3 e3 => ⟨⟨none, by rw [ch_zero]; rfl⟩, e3⟩) ?_ ?_
    · rintro i σ' H' hi ⟨⟨x, rfl⟩, e3⟩
      have hi' : i < S := by omega
      have e4 : (M : Int) - (i : Int) = ((M - i : Nat) : Int) := by omega
      have e5 : (i : Int) + 1 = ((i + 1 : Nat) : Int) := by omega
      have e6 : ((ch M i : Nat) : Int) * ((M - i : Nat) : Int) / ((i + 1 : Nat) : Int) = (ch M (i + 1) : Int) := by
        rw [← Int.natCast_mul, ← ch_mul, ← Int.natCast_ediv, Nat.mul_div_cancel _ (by omega)]
      refine s_asg (v := .int (ch M (i + 1) : Int)) (ev_is (ev_op (ev_op (ev_var rfl) (ev_op (ev_var rfl) (ev_var rfl) rv_I0) (rv_I ?_)) (ev_op (ev_var rfl) ev_c rv_I0) (rv_I ?_)) ?_) fun H3 e7 => ?_
      · rw [e4]
        exact mulW (a := big * 64 + 1) (b := big) (ch_bits hM (by omega)) (by omega)
      · rw [e5]
        exact divW (b := 7) (by omega) (by omega)
      · rw [e4, e5, e6]
      · exact ⟨⟨_, rfl⟩, e3.trans e7⟩
    · rintro σ' H' ⟨⟨x, rfl⟩, e3⟩
      refine s_ret (ev_var rfl) fun H3 e4 => ?_
      exact k H3 (((e1.trans e2).trans e3).trans e4)

/-! ### greatest_many -/
def sp_greatest_many : Sp := fun vs H Q _ => ∃ n s : Nat, vs = [.int n, .int s] ∧ 1 ≤ n ∧ 1 ≤ s ∧ s ≤ 60 ∧ n < 2 ^ 2000 ∧ RetV (.int (great s n : Nat)) H Q
theorem sv_greatest_many {n s : Nat} {H : Hp} (h1 : 1 ≤ n) (h2 : 1 ≤ s) (h3 : s ≤ 60) (h4 : n < 2 ^ 2000) : SpV sp_greatest_many [.int n, .int s] H (.int (great s n : Nat)) := fun H1 _ Q q E => ⟨n, s, rfl, h1, h2, h3, h4, fun H2 e => q H2 e⟩
theorem lt_big {a : Nat} (h : a < 2 ^ big) : (a : Int) < 2 ^ big := by
  have : ((2 ^ big : Nat) : Int) = (2 : Int) ^ big := Int.natCast_pow 2 big
  omega
/-- choose of two naturals -/
theorem evc_choose {σ : L2.St} {H : Hp} {ta tb : TE} {m s : Nat} (ha : Ev ta σ H (.int m)) (hb : Ev tb σ H (.int s)) (hs : s ≤ 64) (hm : m < 2 ^ big) : Ev (tCall sp_choose [] E0 (tCons ta (tCons tb tNil))) σ H (.int (ch m s : Nat)) :=
  ev_is (ev_call (ea_cons ha (ea_cons hb ea_nil)) (sv_choose (by omega) (lt_big hm))) (by rw [chI_nat])
theorem pow_small {n : Nat} (h : n < 2 ^ 2000) (c : Nat) (hc : c ≤ 2 ^ 100 := by decide) : c * (n + 200) < 2 ^ big := by
  have h1 : c * (n + 200) ≤ 2 ^ 100 * (2 ^ 2000 + 200) := Nat.mul_le_mul hc (by omega)
  have h2 : 2 ^ 100 * (2 ^ 2000 + 200) < 2 ^ big := by unfold big; decide +kernel
  omega
def t_greatest_many (K : PySem.W.Frag) : TS :=
    (tSeq (tPar 2 3 (tCons (tVar 1) (tCons (tOp rMulW (tC (.int 2)) (tVar 1)) tNil)))
    (tSeq (tWhile (tTest (tOp rLe0 (tCall sp_choose [] E0 (tCons (tVar 3) (tCons (tVar 1) tNil))) (tVar 0))) (tPar 2 3 (tCons (tVar 3) (tCons (tOp rMulW (tC (.int 2)) (tVar 3)) tNil))))
    (tSeq (tWhile (tTest (tOp rGt0 (tOp rSub0 (tVar 3) (tVar 2)) (tC (.int 1)))) (tSeq (tAsg (tOp rDivW (tOp rAdd0 (tVar 2) (tVar 3)) (tC (.int 2))) (gName 4))
    (tIfS (tTest (tOp rLe0 (tCall sp_choose [] E0 (tCons (tVar 4) (tCons (tVar 1) tNil))) (tVar 0))) (tAsg (tVar 4) (gName 2)) (tAsg (tVar 4) (gName 3)))))
    (tRet (tVar 2)))))
theorem rd_greatest_many {vs : List V} {H : Hp} {Q : VK} {E : XK} (h : sp_greatest_many vs H Q E) : t_greatest_many K { nx := fun _ H2 => Q .non H2, rt := Q } (start ["number", "size", "low", "high", "middle"] vs) H := by
  obtain ⟨n, s, rfl, h1, h2, h3, h4, k⟩ := h
  have two : ∀ a : Nat, (2 : Int) * (a : Int) = ((2 * a : Nat) : Int) := fun a => by omega
  have b2 : ∀ a : Nat, a < 2 ^ big → CMulO 2 (a : Int) := fun a ha => mulW (n := 2) (a := 2) (b := big) (by decide) ha
  have hp : 2 ^ 2000 ≤ 2 ^ big := Nat.pow_le_pow_right (by omega) (by unfold big; omega)
  refine q_par (ea_cons (ev_var rfl) (ea_cons (ev_is (ev_op ev_c (ev_var rfl) (rv_I (b2 s (by have := pow_small h4 1; omega)))) (by rw [two])) ea_nil)) fun H1 e1 => ?_
  -- the first loop: up
  refine q_while (fun m σ' H' => ∃ lo hi : Nat, ∃ x, σ' = [some (.int (n : Int)), some (.int (s : Int)), some (.int (lo : Int)), some (.int (hi : Int)), x] ∧ Ex H1 H' ∧ ch lo s ≤ n ∧ s ≤ lo ∧ lo < hi ∧ hi ≤ 2 * (n + s) ∧ m = 2 * (n + s) - hi)
    (2 * (n + s) - 2 * s) ⟨s, 2 * s, none, rfl, Ex.refl _, by rw [ch_self]; exact h1, Nat.le_refl _, by omega, by omega, rfl⟩ ?_
  rintro m σ' H' ⟨lo, hi, x, rfl, e2, hlo, hsl, hlh, hhi, rfl⟩
  have bh : hi < 2 ^ big := by have := pow_small h4 2; omega
  refine ⟨decide ((ch hi s : Int) ≤ (n : Int)), et_test (ev_op (evc_choose (ev_var rfl) (ev_var rfl) (by omega) bh) (ev_var rfl) rv_I0), fun hb H2 e3 => ?_, fun hb H2 e3 => ?_⟩
  · have hb' : ch hi s ≤ n := by have := of_decide_eq_true hb; omega
    have hge := ch_ge (n := hi) (k := s) h2 (by omega)
    refine ⟨fun σ2 H3 => ∃ x, σ2 = [some (.int (n : Int)), some (.int (s : Int)), some (.int (hi : Int)), some (.int ((2 * hi : Nat) : Int)), x] ∧ Ex H1 H3, ?_, ?_⟩
    · rintro σ2 H3 ⟨x, rfl, e4⟩
      exact ⟨2 * (n + s) - 2 * hi, by omega, hi, 2 * hi, x, rfl, e4, hb', by omega, by omega, by omega, rfl⟩
    · exact s_par (ea_cons (ev_var rfl) (ea_cons (ev_is (ev_op ev_c (ev_var rfl) (rv_I (b2 hi bh))) (by rw [two])) ea_nil)) fun H3 e4 => ⟨x, rfl, (e2.trans e3).trans e4⟩
  · have hb' : n < ch hi s := by have := of_decide_eq_false hb; omega
    -- the second loop: between
    refine q_while (fun m σ' H' => ∃ lo hi : Nat, ∃ x, σ' = [some (.int (n : Int)), some (.int (s : Int)), some (.int (lo : Int)), some (.int (hi : Int)), x] ∧ Ex H2 H' ∧ ch lo s ≤ n ∧ n < ch hi s ∧ s ≤ lo ∧ lo < hi ∧ hi ≤ 2 * (n + s) ∧ m = hi - lo)
      (hi - lo) ⟨lo, hi, x, rfl, Ex.refl _, hlo, hb', hsl, hlh, hhi, rfl⟩ ?_
    rintro m σ' H3 ⟨lo, hi, x, rfl, e4, hlo, hhn, hsl, hlh, hhi, rfl⟩
    refine ⟨decide (1 < (hi : Int) - (lo : Int)), et_test (ev_op (ev_op (ev_var rfl) (ev_var rfl) rv_I0) ev_c rv_I0), fun hb H4 e5 => ?_, fun hb H4 e5 => ?_⟩
    · have hgap : 1 < hi - lo := by have := of_decide_eq_true hb; omega
      have em : ((lo : Int) + (hi : Int)) / 2 = (((lo + hi) / 2 : Nat) : Int) := by omega
      generalize hmid : (lo + hi) / 2 = mid at em
      have m1 : lo < mid := by omega
      have m2 : mid < hi := by omega
      refine ⟨fun σ2 H5 => Ex H2 H5 ∧ ((∃ x, σ2 = [some (.int (n : Int)), some (.int (s : Int)), some (.int (mid : Int)), some (.int (hi : Int)), x] ∧ ch mid s ≤ n) ∨ ∃ x, σ2 = [some (.int (n : Int)), some (.int (s : Int)), some (.int (lo : Int)), some (.int (mid : Int)), x] ∧ n < ch mid s), ?_, ?_⟩
      · rintro σ2 H5 ⟨e6, ⟨x, rfl, q⟩ | ⟨x, rfl, q⟩⟩
        · exact ⟨hi - mid, by omega, mid, hi, x, rfl, e6, q, hhn, by omega, m2, hhi, rfl⟩
        · exact ⟨mid - lo, by omega, lo, mid, x, rfl, e6, hlo, q, hsl, m1, by omega, rfl⟩
      · refine q_asg (v := .int (mid : Int)) (ev_is (ev_op (ev_op (ev_var rfl) (ev_var rfl) rv_I0) ev_c (rv_I ?_)) (by rw [em])) fun H5 e6 => ?_
        · exact divW (m := 2) (b := 2) (by decide) (by decide)
        have bm : mid < 2 ^ big := by have := pow_small h4 2; omega
        refine s_if (b := decide ((ch mid s : Int) ≤ (n : Int))) (et_test (ev_op (evc_choose (ev_var rfl) (ev_var rfl) (by omega) bm) (ev_var rfl) rv_I0)) (fun hb H6 e7 => ?_) (fun hb H6 e7 => ?_)
        · have : ch mid s ≤ n := by have := of_decide_eq_true hb; omega
          exact s_asg (ev_var rfl) fun H7 e8 => ⟨(((e4.trans e5).trans e6).trans e7).trans e8, Or.inl ⟨_, rfl, this⟩⟩
        · have : n < ch mid s := by have := of_decide_eq_false hb; omega
          exact s_asg (ev_var rfl) fun H7 e8 => ⟨(((e4.trans e5).trans e6).trans e7).trans e8, Or.inr ⟨_, rfl, this⟩⟩
    · have hgap : hi = lo + 1 := by have := of_decide_eq_false hb; omega
      subst hgap
      refine s_ret (ev_var rfl) fun H5 e6 => ?_
      have hg := great_uniq h2 hsl hlo hhn
      rw [hg] at k
      exact k H5 (((((e1.trans e2).trans e3).trans e4).trans e5).trans e6)
/-! ### cascade_by -/
/-- a tuple of naturals -/
abbrev nats (l : List Nat) : List V := l.map fun (a : Nat) => V.int (a : Int)
def sp_cascade_by : Sp := fun vs H Q _ => ∃ n s : Nat, vs = [.int n, .int s] ∧ 1 ≤ s ∧ s ≤ 60 ∧ n < 2 ^ 2000 ∧ ∀ p H2, H p = none → Ex H H2 → H2 p = some (.tup (nats (cas s n))) → Q (.ref p) H2
/-- the promise: a new tuple -/
def SpU (sp : Sp) (vs : List V) (H : Hp) (xs : List V) : Prop := ∀ H1, Ex H H1 → ∀ Q : VK, (∀ p H2, H1 p = none → Ex H1 H2 → H2 p = some (.tup xs) → Q (.ref p) H2) → ∀ E : XK, sp vs H1 Q E
theorem eu_call {σ : L2.St} {H : Hp} {sp : Sp} {dvs vs xs : List V} {E : XK} {ta : TA} (h : EvA ta σ H vs) (hs : SpU sp (vs ++ dvs) H xs) : EvU (tCall sp dvs E ta) σ H xs := fun H1 e Q q =>
  h H1 e _ fun H2 e2 => hs H2 (e.trans e2) Q (fun p H3 hp e3 h3 => q p H3 (fresh_back e2 hp) (e2.trans e3) h3) E
theorem su_cascade_by {n s : Nat} {H : Hp} (h2 : 1 ≤ s) (h3 : s ≤ 60) (h4 : n < 2 ^ 2000) : SpU sp_cascade_by [.int n, .int s] H (nats (cas s n)) := fun H1 _ Q q E => ⟨n, s, rfl, h2, h3, h4, fun p H2 a b c => q p H2 a b c⟩
def t_cascade_by (K : PySem.W.Frag) : TS :=
    (tSeq (tAsg (tLst tNil) (gName 2))
    (tSeq (tWhile (tTest (tOp rGt0 (tVar 0) (tC (.int 0)))) (tSeq (tAsg (tCall sp_greatest_many [] E0 (tCons (tVar 0) (tCons (tVar 1) tNil))) (gName 3))
    (tSeq (tDrop (tBM K "list" rAppend (tVar 2) (tCons (tVar 3) tNil)))
    (tPar 0 1 (tCons (tOp rSub0 (tVar 0) (tCall sp_choose [] E0 (tCons (tVar 3) (tCons (tVar 1) tNil)))) (tCons (tOp rSub0 (tVar 1) (tC (.int 1))) tNil))))))
    (tRet (tCB (rTupleOf K) (tCons (tVar 2) tNil)))))
theorem great_le {n s : Nat} (h1 : 1 ≤ n) (h2 : 1 ≤ s) : great s n + 1 ≤ n + s := by
  have g := (great_spec (s := s) (n := n) h2).1
  have g2 := great_ge h2 h1
  have := ch_ge h2 g2
  omega
theorem rd_cascade_by {vs : List V} {H : Hp} {Q : VK} {E : XK} (h : sp_cascade_by vs H Q E) : t_cascade_by K { nx := fun _ H2 => Q .non H2, rt := Q } (start ["number", "size", "found", "many"] vs) H := by
  obtain ⟨n, s, rfl, h2, h3, h4, k⟩ := h
  refine q_asgL (xs := []) (el_lst ea_nil (by decide)) fun l H1 hl e1 hl1 => ?_
  refine q_while (fun m σ' H' => ∃ (n1 s1 : Nat) (done : List Nat) (x : Option V), σ' = [some (.int (n1 : Int)), some (.int (s1 : Int)), some (.ref l), x] ∧ Ex H H' ∧ H' l = some (.lst (nats done)) ∧ done ++ cas s1 n1 = cas s n ∧ (s1 = 0 → n1 = 0) ∧ s1 ≤ s ∧ n1 ≤ n ∧ done.length + s1 = s ∧ s1 = m)
    s ⟨n, s, [], none, rfl, e1, hl1, rfl, by omega, Nat.le_refl _, Nat.le_refl _, by simp, rfl⟩ ?_
  rintro m σ' H' ⟨n1, s1, done, x, rfl, e2, hd, hc, hz, hs1, hn1, hlen, rfl⟩
  refine ⟨decide ((0 : Int) < (n1 : Int)), et_test (ev_op (ev_var rfl) ev_c rv_I0), fun hb H2 e3 => ?_, fun hb H2 e3 => ?_⟩
  · have hp : 1 ≤ n1 := by have := of_decide_eq_true hb; omega
    have hs : 1 ≤ s1 := by
      apply Classical.byContradiction
      intro q
      have := hz (by omega)
      omega
    obtain ⟨c1, c2, c3⟩ := cas_head_le hs hp
    have gl := great_le hp hs
    have bg : great s1 n1 < 2 ^ big := by have := pow_small h4 1; omega
    refine ⟨fun σ2 H3 => Ex H H3 ∧ H3 l = some (.lst (nats (done ++ [great s1 n1]))) ∧ ∃ x, σ2 = [some (.int ((n1 - ch (great s1 n1) s1 : Nat) : Int)), some (.int ((s1 - 1 : Nat) : Int)), some (.ref l), x], ?_, ?_⟩
    · rintro σ2 H3 ⟨e4, hl4, x, rfl⟩
      refine ⟨s1 - 1, by omega, n1 - ch (great s1 n1) s1, s1 - 1, done ++ [great s1 n1], x, rfl, e4, hl4, ?_, ?_, by omega, by omega, by rw [List.length_append]; show done.length + 1 + (s1 - 1) = s; omega, rfl⟩
      · rw [cas_pos hs hp] at hc
        rw [List.append_assoc]
        exact hc
      · intro q
        rw [q, ch_zero] at c2
        omega
    · refine q_asg (ev_call (ea_cons (ev_var rfl) (ea_cons (ev_var rfl) ea_nil)) (sv_greatest_many hp hs (by omega) (by omega))) fun H3 e4 => ?_
      refine q_app (l := l) (xs := nats done) (e4 l _ (e3 l _ hd)) (ev_var rfl) (ev_var rfl) (by rw [List.length_map]; omega) fun H4 e5 => ?_
      have ee : Ex H (upd H4 l (.lst (nats done ++ [.int (great s1 n1 : Nat)]))) := Ex.mut (((e2.trans e3).trans e4).trans e5) hl
      have e8 : nats done ++ [V.int (great s1 n1 : Nat)] = nats (done ++ [great s1 n1]) := by simp [nats]
      have i1 : (n1 : Int) - ((ch (great s1 n1) s1 : Nat) : Int) = ((n1 - ch (great s1 n1) s1 : Nat) : Int) := by omega
      have i2 : (s1 : Int) - 1 = ((s1 - 1 : Nat) : Int) := by omega
      refine s_par (ea_cons (ev_is (ev_op (ev_var rfl) (evc_choose (ev_var rfl) (ev_var rfl) (by omega) bg) rv_I0) (by rw [i1])) (ea_cons (ev_is (ev_op (ev_var rfl) ev_c rv_I0) (by rw [i2])) ea_nil)) fun H5 e6 => ?_
      exact ⟨ee.trans e6, e6 l _ (by rw [e8]; exact upd_same), ⟨_, rfl⟩⟩
  · have hp : n1 = 0 := by have := of_decide_eq_false hb; omega
    subst hp
    have e5 : done = cas s n := by rw [← hc, cas_zero, List.append_nil]
    subst e5
    -- return tuple(found)
    refine s_retU (xs := nats (cas s n)) (fun H3 e6 Q' q => ev_var (i := 2) (v := .ref l) rfl H3 e6 _ fun H4 e7 => ⟨l, nats (cas s n), rfl, Or.inl ⟨sq_of (e7 l _ (e6 l _ (e3 l _ hd))), fun p hp => q p _ (fresh_back e7 hp) (e7.trans (Ex.new hp)) upd_same⟩⟩) fun p H3 hp e6 h6 => ?_
    exact k p H3 (fresh_back (e2.trans e3) hp) ((e2.trans e3).trans e6) h6

/-! ### the four numbers -/
theorem el_is {σ : L2.St} {H : Hp} {te : TE} {xs ys : List V} (h : EvL te σ H xs) (e : xs = ys) : EvL te σ H ys := by
  rw [← e]
  exact h
theorem sum_range (f : Nat → Nat → Nat) : ∀ (s : Nat) (l : List Nat), ((List.range l.length).map fun p => ((f (l.getD p 0) (s - p) : Nat) : Int)).sum = (sumC f s l : Nat)
  | s, [] => rfl
  | s, a :: l => by
    have ih := sum_range f (s - 1) l
    rw [List.length_cons, List.range_succ_eq_map, List.map_cons, List.sum_cons, List.map_map]
    have e : ((fun p => ((f ((a :: l).getD p 0) (s - p) : Nat) : Int)) ∘ Nat.succ) = fun p => ((f (l.getD p 0) (s - 1 - p) : Nat) : Int) := by
      funext p
      show ((f ((a :: l).getD (p + 1) 0) (s - (p + 1)) : Nat) : Int) = _
      rw [List.getD_cons_succ, Nat.sub_sub, Nat.add_comm 1 p]
    rw [e, ih]
    show ((f a s : Nat) : Int) + _ = ((f a s + sumC f (s - 1) l : Nat) : Int)
    omega
theorem cas_item : ∀ {s n : Nat}, ∀ a ∈ cas s n, a ≤ n + s
  | 0, _, a, h => by cases h
  | s + 1, 0, a, h => by cases h
  | s + 1, n + 1, a, h => by
    rcases List.mem_cons.mp (show a ∈ great (s + 1) (n + 1) :: cas s (n + 1 - ch (great (s + 1) (n + 1)) (s + 1)) from h) with e | e
    · have := great_le (n := n + 1) (s := s + 1) (by omega) (by omega)
      omega
    · have := cas_item a e
      omega
theorem cas_ge : ∀ {s : Nat} {l : List Nat} {p a : Nat}, IsCas s l → l[p]? = some a → s - p ≤ a ∧ p < s
  | _, [], p, a, _, h => by simp at h
  | 0, _ :: _, _, _, h, _ => h.elim
  | s + 1, b :: l, 0, a, h, e => by
    have : b = a := by simpa using e
    subst this
    exact ⟨by have := h.1; omega, by omega⟩
  | s + 1, b :: l, p + 1, a, h, e => by
    have := cas_ge h.2.2 (show l[p]? = some a by simpa using e)
    omega
/-- the sum of a function of item and place left, over the cascade made in the call -/
theorem four {n s : Nat} {H : Hp} {te : TE} (f : Nat → Nat → Nat) (h2 : 1 ≤ s) (h3 : s ≤ 60) (h4 : n < 2 ^ 2000)
    (ht : ∀ (p a : Nat), p < s → s - p ≤ a → a ≤ n + s → Ev te [some (.int n), some (.int s), some (.int p), some (.int a)] H (.int (f a (s - p) : Nat))) :
    Ev (tCB (rSum K) (tCons (tLc (iEnumT K (tCons (tCall sp_cascade_by [] E0 (tCons (tVar 0) (tCons (tVar 1) tNil))) tNil)) (gTup K 2 (gCons (gName 2) (gCons (gName 3) (gNil)))) tYes te [2, 3]) tNil)) [some (.int n), some (.int s), none, none] H (.int (sumC f s (cas s n) : Nat)) := by
  have hl := (cas_is s n).len
  have e := ev_sumL (K := K) (ns := (List.range (cas s n).length).map fun p => ((f ((cas s n).getD p 0) (s - p) : Nat) : Int)) (σ := [some (.int n), some (.int s), none, none]) (H := H)
    (tx := tLc (iEnumT K (tCons (tCall sp_cascade_by [] E0 (tCons (tVar 0) (tCons (tVar 1) tNil))) tNil)) (gTup K 2 (gCons (gName 2) (gCons (gName 3) (gNil)))) tYes te [2, 3])
    (el_is (el_enumTU (xs := nats (cas s n)) (fun _ => true) (fun p => .int (f ((cas s n).getD p 0) (s - p) : Nat)) (eu_call (ea_cons (ev_var rfl) (ea_cons (ev_var rfl) ea_nil)) (su_cascade_by h2 h3 h4)) (by rw [List.length_map]; omega) (fun x y => rfl) (fun p x hx => et_yes) (fun p x hx _ => by
      rw [List.getElem?_map] at hx
      cases q : (cas s n)[p]? with
      | none => rw [q] at hx; cases hx
      | some a =>
        rw [q] at hx
        cases hx
        obtain ⟨g1, g2⟩ := cas_ge (cas_is s n) q
        have ea : (cas s n).getD p 0 = a := by rw [List.getD_eq_getElem?_getD, q]; rfl
        rw [ea]
        exact ht p a g2 g1 (cas_item a (List.mem_of_getElem? q)))) (by rw [given_all, List.length_map, List.map_map]; rfl))
  exact ev_is e (by rw [sum_range])
def sp_lower : Sp := fun vs H Q _ => ∃ n s : Nat, vs = [.int n, .int s] ∧ 1 ≤ s ∧ s ≤ 60 ∧ n < 2 ^ 2000 ∧ RetV (.int (LS n s : Nat)) H Q
def sp_upper : Sp := fun vs H Q _ => ∃ n s : Nat, vs = [.int n, .int s] ∧ 1 ≤ s ∧ s ≤ 60 ∧ n < 2 ^ 2000 ∧ RetV (.int (US n s : Nat)) H Q
def sp_lower_product : Sp := fun vs H Q _ => ∃ n s : Nat, vs = [.int n, .int s] ∧ 1 ≤ s ∧ s ≤ 60 ∧ n < 2 ^ 2000 ∧ RetV (.int (LP n s : Nat)) H Q
def sp_upper_product : Sp := fun vs H Q _ => ∃ n s : Nat, vs = [.int n, .int s] ∧ 1 ≤ s ∧ s ≤ 60 ∧ n < 2 ^ 2000 ∧ RetV (.int (UP n s : Nat)) H Q
theorem sv_lower {n s : Nat} {H : Hp} (h2 : 1 ≤ s) (h3 : s ≤ 60) (h4 : n < 2 ^ 2000) : SpV sp_lower [.int n, .int s] H (.int (LS n s : Nat)) := fun H1 _ Q q E => ⟨n, s, rfl, h2, h3, h4, fun H2 e => q H2 e⟩
theorem sv_upper {n s : Nat} {H : Hp} (h2 : 1 ≤ s) (h3 : s ≤ 60) (h4 : n < 2 ^ 2000) : SpV sp_upper [.int n, .int s] H (.int (US n s : Nat)) := fun H1 _ Q q E => ⟨n, s, rfl, h2, h3, h4, fun H2 e => q H2 e⟩
theorem sv_lower_product {n s : Nat} {H : Hp} (h2 : 1 ≤ s) (h3 : s ≤ 60) (h4 : n < 2 ^ 2000) : SpV sp_lower_product [.int n, .int s] H (.int (LP n s : Nat)) := fun H1 _ Q q E => ⟨n, s, rfl, h2, h3, h4, fun H2 e => q H2 e⟩
theorem sv_upper_product {n s : Nat} {H : Hp} (h2 : 1 ≤ s) (h3 : s ≤ 60) (h4 : n < 2 ^ 2000) : SpV sp_upper_product [.int n, .int s] H (.int (UP n s : Nat)) := fun H1 _ Q q E => ⟨n, s, rfl, h2, h3, h4, fun H2 e => q H2 e⟩
def t_lower (K : PySem.W.Frag) : TS :=
    (tRet (tCB (rSum K) (tCons (tLc (iEnumT K (tCons (tCall sp_cascade_by [] E0 (tCons (tVar 0) (tCons (tVar 1) tNil))) tNil)) (gTup K 2 (gCons (gName 2) (gCons (gName 3) (gNil)))) tYes (tCall sp_choose [] E0 (tCons (tVar 3) (tCons (tOp rSub0 (tOp rSub0 (tVar 1) (tVar 2)) (tC (.int 1))) tNil))) [2, 3]) tNil)))
def t_upper (K : PySem.W.Frag) : TS :=
    (tRet (tCB (rSum K) (tCons (tLc (iEnumT K (tCons (tCall sp_cascade_by [] E0 (tCons (tVar 0) (tCons (tVar 1) tNil))) tNil)) (gTup K 2 (gCons (gName 2) (gCons (gName 3) (gNil)))) tYes (tCall sp_choose [] E0 (tCons (tVar 3) (tCons (tOp rAdd0 (tOp rSub0 (tVar 1) (tVar 2)) (tC (.int 1))) tNil))) [2, 3]) tNil)))
def t_lower_product (K : PySem.W.Frag) : TS :=
    (tRet (tCB (rSum K) (tCons (tLc (iEnumT K (tCons (tCall sp_cascade_by [] E0 (tCons (tVar 0) (tCons (tVar 1) tNil))) tNil)) (gTup K 2 (gCons (gName 2) (gCons (gName 3) (gNil)))) tYes (tCall sp_choose [] E0 (tCons (tOp rSub0 (tVar 3) (tC (.int 1))) (tCons (tOp rSub0 (tOp rSub0 (tVar 1) (tVar 2)) (tC (.int 1))) tNil))) [2, 3]) tNil)))
def t_upper_product (K : PySem.W.Frag) : TS :=
    (tRet (tCB (rSum K) (tCons (tLc (iEnumT K (tCons (tCall sp_cascade_by [] E0 (tCons (tVar 0) (tCons (tVar 1) tNil))) tNil)) (gTup K 2 (gCons (gName 2) (gCons (gName 3) (gNil)))) tYes (tCall sp_choose [] E0 (tCons (tOp rAdd0 (tVar 3) (tC (.int 1))) (tCons (tOp rAdd0 (tOp rSub0 (tVar 1) (tVar 2)) (tC (.int 1))) tNil))) [2, 3]) tNil)))
theorem rd_lower {vs : List V} {H : Hp} {Q : VK} {E : XK} (h : sp_lower vs H Q E) : t_lower K { nx := fun _ H2 => Q .non H2, rt := Q } (start ["number", "size", "at", "many"] vs) H := by
  obtain ⟨n, s, rfl, h2, h3, h4, k⟩ := h
  refine s_ret (four fLS h2 h3 h4 fun p a hp ha hm => ?_) k
  have e : (s : Int) - (p : Int) - 1 = ((s - p - 1 : Nat) : Int) := by omega
  exact evc_choose (ev_var rfl) (ev_is (ev_op (ev_op (ev_var rfl) (ev_var rfl) rv_I0) ev_c rv_I0) (by rw [e])) (by omega) (by have := pow_small h4 1; omega)
theorem rd_upper {vs : List V} {H : Hp} {Q : VK} {E : XK} (h : sp_upper vs H Q E) : t_upper K { nx := fun _ H2 => Q .non H2, rt := Q } (start ["number", "size", "at", "many"] vs) H := by
  obtain ⟨n, s, rfl, h2, h3, h4, k⟩ := h
  refine s_ret (four fUS h2 h3 h4 fun p a hp ha hm => ?_) k
  have e : (s : Int) - (p : Int) + 1 = ((s - p + 1 : Nat) : Int) := by omega
  exact evc_choose (ev_var rfl) (ev_is (ev_op (ev_op (ev_var rfl) (ev_var rfl) rv_I0) ev_c rv_I0) (by rw [e])) (by omega) (by have := pow_small h4 1; omega)
theorem rd_lower_product {vs : List V} {H : Hp} {Q : VK} {E : XK} (h : sp_lower_product vs H Q E) : t_lower_product K { nx := fun _ H2 => Q .non H2, rt := Q } (start ["number", "size", "at", "many"] vs) H := by
  obtain ⟨n, s, rfl, h2, h3, h4, k⟩ := h
  refine s_ret (four fLP h2 h3 h4 fun p a hp ha hm => ?_) k
  have e : (s : Int) - (p : Int) - 1 = ((s - p - 1 : Nat) : Int) := by omega
  have e2 : (a : Int) - 1 = ((a - 1 : Nat) : Int) := by omega
  exact evc_choose (ev_is (ev_op (ev_var rfl) ev_c rv_I0) (by rw [e2])) (ev_is (ev_op (ev_op (ev_var rfl) (ev_var rfl) rv_I0) ev_c rv_I0) (by rw [e])) (by omega) (by have := pow_small h4 1; omega)
theorem rd_upper_product {vs : List V} {H : Hp} {Q : VK} {E : XK} (h : sp_upper_product vs H Q E) : t_upper_product K { nx := fun _ H2 => Q .non H2, rt := Q } (start ["number", "size", "at", "many"] vs) H := by
  obtain ⟨n, s, rfl, h2, h3, h4, k⟩ := h
  refine s_ret (four fUP h2 h3 h4 fun p a hp ha hm => ?_) k
  have e : (s : Int) - (p : Int) + 1 = ((s - p + 1 : Nat) : Int) := by omega
  have e2 : (a : Int) + 1 = ((a + 1 : Nat) : Int) := by omega
  exact evc_choose (ev_is (ev_op (ev_var rfl) ev_c rv_I0) (by rw [e2])) (ev_is (ev_op (ev_op (ev_var rfl) (ev_var rfl) rv_I0) ev_c rv_I0) (by rw [e])) (by omega) (by have := pow_small h4 1; omega)
/-! ### the doors of cascades.py: numbers and sizes that are right -/
def sp_need_size : Sp := fun vs H Q _ => ∃ s : Nat, vs = [.int s] ∧ 1 ≤ s ∧ RetV .non H Q
def sp_need_both : Sp := fun vs H Q _ => ∃ n s : Nat, vs = [.int n, .int s] ∧ 1 ≤ s ∧ RetV .non H Q
theorem sv_need_size {s : Nat} {H : Hp} (h : 1 ≤ s) : SpV sp_need_size [.int s] H .non := fun H1 _ Q q E => ⟨s, rfl, h, fun H2 e => q H2 e⟩
theorem sv_need_both {n s : Nat} {H : Hp} (h : 1 ≤ s) : SpV sp_need_both [.int n, .int s] H .non := fun H1 _ Q q E => ⟨n, s, rfl, h, fun H2 e => q H2 e⟩
def t_need_size (K : PySem.W.Frag) : TS :=
    (tIfS (tNot (tB (tCall sp_is_size [] E0 (tCons (tVar 0) tNil)))) tNever tNext)
def t_need_both (K : PySem.W.Frag) : TS :=
    (tSeq (tIfS (tNot (tB (tCall sp_is_count [] E0 (tCons (tVar 0) tNil)))) tNever tNext)
    (tDrop (tCall sp_need_size [] E0 (tCons (tVar 1) tNil))))
theorem rd_need_size {vs : List V} {H : Hp} {Q : VK} {E : XK} (h : sp_need_size vs H Q E) : t_need_size K { nx := fun _ H2 => Q .non H2, rt := Q } (start ["size"] vs) H := by
  obtain ⟨s, rfl, h1, k⟩ := h
  refine s_when (et_not (et_B (ev_call (ea_cons (ev_var rfl) ea_nil) sv_is_size))) (fun hb => ?_) (fun _ H1 e1 => k H1 e1)
  exact absurd hb (by rw [decide_eq_true (show (1 : Int) ≤ (s : Int) by omega)]; decide)
theorem rd_need_both {vs : List V} {H : Hp} {Q : VK} {E : XK} (h : sp_need_both vs H Q E) : t_need_both K { nx := fun _ H2 => Q .non H2, rt := Q } (start ["number", "size"] vs) H := by
  obtain ⟨n, s, rfl, h1, k⟩ := h
  refine q_when (et_not (et_B (ev_call (ea_cons (ev_var rfl) ea_nil) sv_is_count))) (fun hb => ?_) (fun _ H1 e1 => ?_)
  · exact absurd hb (by rw [decide_eq_true (show (0 : Int) ≤ (n : Int) by omega)]; decide)
  · exact s_drop (ev_call (ea_cons (ev_var rfl) ea_nil) (sv_need_size h1)) fun H2 e2 => k H2 (e1.trans e2)
def sp_lower_sets : Sp := sp_lower
def sp_upper_sets : Sp := sp_upper
def sp_lower_products : Sp := sp_lower_product
def sp_upper_products : Sp := sp_upper_product
def t_lower_sets (K : PySem.W.Frag) : TS :=
    (tSeq (tDrop (tCall sp_need_both [] E0 (tCons (tVar 0) (tCons (tVar 1) tNil))))
    (tRet (tCall sp_lower [] E0 (tCons (tVar 0) (tCons (tVar 1) tNil)))))
def t_upper_sets (K : PySem.W.Frag) : TS :=
    (tSeq (tDrop (tCall sp_need_both [] E0 (tCons (tVar 0) (tCons (tVar 1) tNil))))
    (tRet (tCall sp_upper [] E0 (tCons (tVar 0) (tCons (tVar 1) tNil)))))
def t_lower_products (K : PySem.W.Frag) : TS :=
    (tSeq (tDrop (tCall sp_need_both [] E0 (tCons (tVar 0) (tCons (tVar 1) tNil))))
    (tRet (tCall sp_lower_product [] E0 (tCons (tVar 0) (tCons (tVar 1) tNil)))))
def t_upper_products (K : PySem.W.Frag) : TS :=
    (tSeq (tDrop (tCall sp_need_both [] E0 (tCons (tVar 0) (tCons (tVar 1) tNil))))
    (tRet (tCall sp_upper_product [] E0 (tCons (tVar 0) (tCons (tVar 1) tNil)))))
theorem rd_lower_sets {vs : List V} {H : Hp} {Q : VK} {E : XK} (h : sp_lower_sets vs H Q E) : t_lower_sets K { nx := fun _ H2 => Q .non H2, rt := Q } (start ["number", "size"] vs) H := by
  obtain ⟨n, s, rfl, h2, h3, h4, k⟩ := h
  exact q_drop (ev_call (ea_cons (ev_var rfl) (ea_cons (ev_var rfl) ea_nil)) (sv_need_both h2)) fun H1 e1 => s_ret (ev_call (ea_cons (ev_var rfl) (ea_cons (ev_var rfl) ea_nil)) (sv_lower h2 h3 h4)) fun H2 e2 => k H2 (e1.trans e2)
theorem rd_upper_sets {vs : List V} {H : Hp} {Q : VK} {E : XK} (h : sp_upper_sets vs H Q E) : t_upper_sets K { nx := fun _ H2 => Q .non H2, rt := Q } (start ["number", "size"] vs) H := by
  obtain ⟨n, s, rfl, h2, h3, h4, k⟩ := h
  exact q_drop (ev_call (ea_cons (ev_var rfl) (ea_cons (ev_var rfl) ea_nil)) (sv_need_both h2)) fun H1 e1 => s_ret (ev_call (ea_cons (ev_var rfl) (ea_cons (ev_var rfl) ea_nil)) (sv_upper h2 h3 h4)) fun H2 e2 => k H2 (e1.trans e2)
theorem rd_lower_products {vs : List V} {H : Hp} {Q : VK} {E : XK} (h : sp_lower_products vs H Q E) : t_lower_products K { nx := fun _ H2 => Q .non H2, rt := Q } (start ["number", "size"] vs) H := by
  obtain ⟨n, s, rfl, h2, h3, h4, k⟩ := h
  exact q_drop (ev_call (ea_cons (ev_var rfl) (ea_cons (ev_var rfl) ea_nil)) (sv_need_both h2)) fun H1 e1 => s_ret (ev_call (ea_cons (ev_var rfl) (ea_cons (ev_var rfl) ea_nil)) (sv_lower_product h2 h3 h4)) fun H2 e2 => k H2 (e1.trans e2)
theorem rd_upper_products {vs : List V} {H : Hp} {Q : VK} {E : XK} (h : sp_upper_products vs H Q E) : t_upper_products K { nx := fun _ H2 => Q .non H2, rt := Q } (start ["number", "size"] vs) H := by
  obtain ⟨n, s, rfl, h2, h3, h4, k⟩ := h
  exact q_drop (ev_call (ea_cons (ev_var rfl) (ea_cons (ev_var rfl) ea_nil)) (sv_need_both h2)) fun H1 e1 => s_ret (ev_call (ea_cons (ev_var rfl) (ea_cons (ev_var rfl) ea_nil)) (sv_upper_product h2 h3 h4)) fun H2 e2 => k H2 (e1.trans e2)
end HN

/-! What repr shows: values read as data. -/
namespace HP
open PySem PySem.Spec PyProof.Rows L2 Evl HG HL HC HR HN
variable {K : PySem.W.Frag}
mutual
theorem dp_up {H H1 : Hp} (e : Ex H H1) : ∀ {v : V} {d : PyData}, Dp K H v d → Dp K H1 v d
  | _, _, .non => .non
  | _, _, .bl b => .bl b
  | _, _, .int i => .int i
  | _, _, .str x => .str x
  | _, _, .lst h1 h2 => .lst (ex_l e h1) (dps_up e h2)
  | _, _, .tup h1 h2 => .tup (ex_t e h1) (dps_up e h2)
theorem dps_up {H H1 : Hp} (e : Ex H H1) : ∀ {vs : List V} {ds : List PyData}, DpAll K H vs ds → DpAll K H1 vs ds
  | _, _, .nil => .nil
  | _, _, .cons h1 h2 => .cons (dp_up e h1) (dps_up e h2)
end
theorem dps_ints {H : Hp} : ∀ ns : List Int, DpAll K H (ns.map V.int) (ns.map PyData.int)
  | [] => .nil
  | n :: r => .cons (.int n) (dps_ints r)
theorem dps_nats {H : Hp} (c : List Nat) : DpAll K H (nats c) ((c.map fun n : Nat => (n : Int)).map PyData.int) := by
  have := dps_ints (K := K) (H := H) (c.map fun n : Nat => (n : Int))
  rw [List.map_map] at this
  exact this
/-- the data of a tuple of naturals -/
abbrev dN (c : List Nat) : PyData := .tuple ((c.map fun n : Nat => (n : Int)).map PyData.int)
theorem dp_nats {H : Hp} {a : Addr} {c : List Nat} (h : H a = some (.tup (nats c))) : Dp K H (.ref a) (dN c) := .tup (st_of h) (dps_nats c)
/-- small data: n leaves, k deep -/
structure SW (n k : Nat) (d : PyData) : Prop where
  sh : d.showable = true
  nd : d.hasDict = false
  dp : d.depth ≤ k
  lf : d.leavesShort 1921 = true
  bk : d.bulk ≤ n
structure SWs (n k : Nat) (ds : List PyData) : Prop where
  sh : PyData.showableAll ds = true
  nd : PyData.hasDictAll ds = false
  dp : PyData.depthAll ds ≤ k
  lf : PyData.leavesShortAll 1921 ds = true
  bk : PyData.bulkAll ds ≤ n
theorem log_lt {m : Nat} (h : m < 2 ^ 1900) : m.log2 < 1920 := by
  by_cases h0 : m = 0
  · subst h0
    decide
  · exact Nat.lt_of_lt_of_le ((Nat.log2_lt h0).mpr h) (by decide)
theorem sw_int {i : Int} (h : i.natAbs < 2 ^ 1900) : SW 0 0 (.int i) :=
  ⟨decide_eq_true (log_lt h), rfl, Nat.le_refl _, decide_eq_true (int_text_len_1921 (log_lt h)), Nat.le_refl _⟩
theorem sw_bl {b : Bool} : SW 0 0 (.bool b) := ⟨rfl, rfl, Nat.le_refl _, rfl, Nat.le_refl _⟩
theorem sw_non : SW 0 0 .none := ⟨rfl, rfl, Nat.le_refl _, rfl, Nat.le_refl _⟩
theorem sw_tup {n k : Nat} {ds : List PyData} (h : SWs n k ds) : SW n (k + 1) (.tuple ds) := ⟨h.sh, h.nd, Nat.succ_le_succ h.dp, h.lf, h.bk⟩
theorem sw_lst {n k : Nat} {ds : List PyData} (h : SWs n k ds) : SW n (k + 1) (.list ds) := ⟨h.sh, h.nd, Nat.succ_le_succ h.dp, h.lf, h.bk⟩
theorem sws_nil : SWs 0 0 [] := ⟨rfl, rfl, Nat.le_refl _, rfl, Nat.le_refl _⟩
theorem sws_cons {n m k j : Nat} {d : PyData} {ds : List PyData} (h : SW n k d) (g : SWs m j ds) : SWs (n + 1 + m) (max k j) (d :: ds) := by
  refine ⟨?_, ?_, ?_, ?_, ?_⟩
  · show (d.showable && PyData.showableAll ds) = true
    rw [h.sh, g.sh]; rfl
  · show (d.hasDict || PyData.hasDictAll ds) = false
    rw [h.nd, g.nd]; rfl
  · show max d.depth (PyData.depthAll ds) ≤ _
    have := h.dp; have := g.dp; omega
  · show (d.leavesShort 1921 && PyData.leavesShortAll 1921 ds) = true
    rw [h.lf, g.lf]; rfl
  · show d.bulk + 1 + PyData.bulkAll ds ≤ _
    have := h.bk; have := g.bk; omega
theorem SW.mono {n m k j : Nat} {d : PyData} (h : SW n k d) (h1 : n ≤ m) (h2 : k ≤ j) : SW m j d := ⟨h.sh, h.nd, Nat.le_trans h.dp h2, h.lf, Nat.le_trans h.bk h1⟩
theorem SWs.mono {n m k j : Nat} {d : List PyData} (h : SWs n k d) (h1 : n ≤ m) (h2 : k ≤ j) : SWs m j d := ⟨h.sh, h.nd, Nat.le_trans h.dp h2, h.lf, Nat.le_trans h.bk h1⟩
theorem sws_all {n k : Nat} : ∀ {ds : List PyData}, (∀ d ∈ ds, SW n k d) → SWs (ds.length * (n + 1)) k ds
  | [], _ => sws_nil.mono (Nat.zero_le _) (Nat.zero_le _)
  | d :: ds, h => (sws_cons (h d (List.mem_cons_self ..)) (sws_all fun x hx => h x (List.mem_cons_of_mem _ hx))).mono (by rw [List.length_cons, Nat.succ_mul]; omega) (by omega)
theorem sws_ints {ns : List Int} (h : ∀ i ∈ ns, i.natAbs < 2 ^ 1900) : SWs ns.length 0 (ns.map PyData.int) := by
  have := sws_all (n := 0) (k := 0) (ds := ns.map PyData.int) fun d hd => by
    obtain ⟨i, hi, rfl⟩ := List.mem_map.mp hd
    exact sw_int (h i hi)
  rw [List.length_map] at this
  exact this.mono (by omega) (by omega)
theorem sw_dN {c : List Nat} (h : ∀ a ∈ c, a < 2 ^ 1900) : SW c.length 1 (dN c) := by
  have := sws_ints (ns := c.map fun n : Nat => (n : Int)) fun i hi => by
    obtain ⟨a, ha, rfl⟩ := List.mem_map.mp hi
    rw [Int.natAbs_natCast]
    exact h a ha
  rw [List.length_map] at this
  exact sw_tup this
theorem SW.len {n k : Nat} {d : PyData} (h : SW n k d) (hn : n ≤ 8000) : d.shown.length ≤ sizeLine := by
  have h1 := PyData.shown_le_bulk 1921 (by decide) d h.lf
  have h2 : (1921 + 2) * d.bulk ≤ (1921 + 2) * 8000 := Nat.mul_le_mul_left _ (Nat.le_trans h.bk hn)
  have h3 : sizeLine = 16777216 := by decide
  omega
/-! ### evaluated as data -/
def EvD (K : PySem.W.Frag) (te : TE) (σ : L2.St) (H : Hp) (d : PyData) : Prop := ∀ H1, Ex H H1 → ∀ Q : VK, (∀ v H2, Ex H1 H2 → Dp K H2 v d → Q v H2) → te σ H1 Q
def EvDs (K : PySem.W.Frag) (ta : TA) (σ : L2.St) (H : Hp) (ds : List PyData) : Prop := ∀ H1, Ex H H1 → ∀ Q : List V → Hp → Prop, (∀ vs H2, Ex H1 H2 → DpAll K H2 vs ds → Q vs H2) → ta σ H1 Q
section
variable {σ : L2.St} {H : Hp} {ta tb te : TE} {d : PyData} {ds : List PyData} {n k : Nat}
theorem ed_ev {v : V} (h : Ev te σ H v) (hd : Dp K H v d) : EvD K te σ H d := fun H1 e Q q => h H1 e Q fun H2 e2 => q v H2 e2 (dp_up (e.trans e2) hd)
theorem ed_int {i : Int} (h : Ev te σ H (.int i)) : EvD K te σ H (.int i) := ed_ev h (.int i)
theorem ed_bl {b : Bool} (h : Ev te σ H (.bl b)) : EvD K te σ H (.bool b) := ed_ev h (.bl b)
theorem eds_nil : EvDs K tNil σ H [] := fun H1 e Q q => q [] H1 (Ex.refl _) .nil
theorem eds_cons {tr : TA} (h : EvD K te σ H d) (g : EvDs K tr σ H ds) : EvDs K (tCons te tr) σ H (d :: ds) := fun H1 e Q q =>
  h H1 e _ fun v H2 e2 hv => g H2 (e.trans e2) _ fun vs H3 e3 hvs => q (v :: vs) H3 (e2.trans e3) (.cons (dp_up e3 hv) hvs)
theorem dpAll_len {vs : List V} {ds : List PyData} (h : DpAll K H vs ds) : vs.length = ds.length := by
  induction ds generalizing vs with
  | nil => cases h; rfl
  | cons d ds ih =>
    cases h with
    | cons h1 h2 => rw [List.length_cons, List.length_cons, ih h2]
theorem ed_tup {t : TA} (h : EvDs K t σ H ds) (hl : ds.length ≤ 100000) : EvD K (tTup t) σ H (.tuple ds) := fun H1 e Q q =>
  h H1 e _ fun vs H2 e2 hv => ⟨sz_of (by rw [dpAll_len hv]; exact hl), fun p hp => q (.ref p) _ (e2.trans (Ex.new hp)) (.tup (st_of upd_same) (dps_up (Ex.new hp) hv))⟩
theorem ed_lst {t : TA} (h : EvDs K t σ H ds) (hl : ds.length ≤ 100000) : EvD K (tLst t) σ H (.list ds) := fun H1 e Q q =>
  h H1 e _ fun vs H2 e2 hv => ⟨sz_of (by rw [dpAll_len hv]; exact hl), fun p hp => q (.ref p) _ (e2.trans (Ex.new hp)) (.lst (sq_of upd_same) (dps_up (Ex.new hp) hv))⟩
/-- repr(..) of a tuple | a list -/
theorem ev_reprT (h : EvD K te σ H (.tuple ds)) (s : SW n k (.tuple ds)) (hn : n ≤ 8000 := by decide) (hk : k ≤ 50 := by decide) : Ev (tCB (rRepr K) (tCons te tNil)) σ H (.str (PyData.tuple ds).shown) := fun H1 e Q q =>
  h H1 e _ fun v H2 e2 hv => by
    cases hv with
    | tup h1 h2 => exact ⟨_, _, rfl, .tup h1 h2, s.sh, s.nd, Nat.le_trans s.dp hk, s.len hn, q H2 e2⟩
theorem ev_reprL (h : EvD K te σ H (.list ds)) (s : SW n k (.list ds)) (hn : n ≤ 8000 := by decide) (hk : k ≤ 50 := by decide) : Ev (tCB (rRepr K) (tCons te tNil)) σ H (.str (PyData.list ds).shown) := fun H1 e Q q =>
  h H1 e _ fun v H2 e2 hv => by
    cases hv with
    | lst h1 h2 => exact ⟨_, _, rfl, .lst h1 h2, s.sh, s.nd, Nat.le_trans s.dp hk, s.len hn, q H2 e2⟩
theorem ev_reprInt {i : Int} (h : Ev te σ H (.int i)) (hi : i.natAbs < 2 ^ 1900) : Ev (tCB rReprI (tCons te tNil)) σ H (.str (toString i)) := ev_cb (ea_cons h ea_nil) (rc_reprI (log_lt hi))
/-- the data of a call's value -/
theorem ed_call {sp : Sp} {E : XK} {t : TA} {vs : List V} (h : EvA t σ H vs) (hs : ∀ H1, Ex H H1 → ∀ Q : VK, (∀ v H2, Ex H1 H2 → Dp K H2 v d → Q v H2) → sp vs H1 Q E) : EvD K (tCall sp [] E t) σ H d := fun H1 e Q q =>
  h H1 e _ fun H2 e2 => by
    show sp (vs ++ []) H2 Q E
    rw [List.append_nil]
    exact hs H2 (e.trans e2) Q fun v H3 e3 hv => q v H3 (e2.trans e3) hv
end
end HP

/-! Cascades as values: falling, number_of, this law's own sums. -/
namespace HCas
open PySem PySem.Spec PyProof.Rows L2 Evl HG HL HC HR HN HP
variable {K : PySem.W.Frag}
/-- evaluates to a tuple of these items (a new one or an old one) -/
def EvS (K : PySem.W.Frag) (te : TE) (σ : L2.St) (H : Hp) (xs : List V) : Prop := ∀ H1, Ex H H1 → ∀ Q : VK, (∀ p H2, Ex H1 H2 → SqT K H2 p xs → Q (.ref p) H2) → te σ H1 Q
section
variable {σ : L2.St} {H : Hp} {ta te tx : TE} {tt : TT} {xs ys : List V} {vs : List Nat}
theorem es_ev {a : Addr} (h : Ev te σ H (.ref a)) (hx : SqT K H a xs) : EvS K te σ H xs := fun H1 e Q q => h H1 e Q fun H2 e2 => q a H2 e2 (ex_t (e.trans e2) hx)
theorem es_new (h : EvU te σ H xs) : EvS K te σ H xs := fun H1 e Q q => h H1 e Q fun p H2 _ e2 hp => q p H2 e2 (st_of hp)
theorem es_sl {tl th : TO} {lo hi : Option Int} (h : EvS K te σ H xs) (h1 : EvO tl σ H lo) (h2 : EvO th σ H hi) : EvS K (tSl (rSlA K) te tl th) σ H (cutV xs lo hi) := fun H1 e Q q =>
  h H1 e _ fun p H2 e2 hp => h1 H2 (e.trans e2) _ fun H3 e3 => h2 H3 ((e.trans e2).trans e3) _ fun H4 e4 => ⟨p, xs, rfl, ex_t (e3.trans e4) hp, fun hw => by
    refine q p H4 ((e2.trans e3).trans e4) ?_
    have : cutV xs lo hi = xs := by
      unfold cutV
      rw [hw.1, hw.2, Nat.sub_zero, List.drop_zero, List.take_length]
    rw [this]
    exact ex_t (e3.trans e4) hp, fun _ r hr => q r _ (((e2.trans e3).trans e4).trans (Ex.new hr)) (st_of upd_same)⟩
/-- [te for a_j in tuple if tt] -/
theorem el_tup {j : Nat} (f : Nat → Bool) (v : Nat → V) (h : EvS K tx σ H xs) (hz : xs.length ≤ 40000)
    (hw : ∀ x, wipe ((wipe σ vs).set j (some x)) vs = wipe σ vs)
    (ht : ∀ (p : Nat) (x : V), xs[p]? = some x → EvT tt ((wipe σ vs).set j (some x)) H (f p))
    (he : ∀ (p : Nat) (x : V), xs[p]? = some x → f p = true → Ev te ((wipe σ vs).set j (some x)) H (v p)) :
    EvL (tLc (iTup K tx) (gName j) tt te vs) σ H (given xs.length f v) := fun H0 e Q q =>
  h H0 e _ fun a H1 e1 hx => ⟨a, rfl, ⟨xs, hx⟩, fun d hd => by
    refine lc_by (H := H1) f v hz hd (fun H2 e3 => ⟨xs, ex_t e3 hx, Nat.le_refl _⟩) (fun p H2 hp e3 => ⟨xs, xs[p], ex_t e3 hx, by simp [hp]⟩) ?_ (fun H2 e3 h => q d H2 (fresh_back e1 hd) (e1.trans e3) h)
    rintro p y H2 H3 hp e3 ⟨rfl, hy⟩
    have hy2 := hy xs (ex_t e3 hx)
    have e2 : Ex H H1 := e.trans e1
    exact ⟨(wipe σ vs).set j (some y), Ex.refl _, hw _, (ht p y hy2).mono e2, fun hf => (he p y hy2 hf).mono e2, fun R r => r⟩⟩
theorem el_enumS {i j : Nat} (f : Nat → Bool) (v : Nat → V) (h : EvS K tx σ H xs) (hz : xs.length ≤ 40000)
    (hw : ∀ x y, wipe (((wipe σ vs).set i (some x)).set j (some y)) vs = wipe σ vs)
    (ht : ∀ (p : Nat) (x : V), xs[p]? = some x → EvT tt (((wipe σ vs).set i (some (.int (p : Nat)))).set j (some x)) H (f p))
    (he : ∀ (p : Nat) (x : V), xs[p]? = some x → f p = true → Ev te (((wipe σ vs).set i (some (.int (p : Nat)))).set j (some x)) H (v p)) :
    EvL (tLc (iEnumT K (tCons tx tNil)) (gTup K 2 (gCons (gName i) (gCons (gName j) gNil))) tt te vs) σ H (given xs.length f v) := fun H0 e Q q =>
  h H0 e _ fun a H1 e1 hx => ⟨a, xs, rfl, hx, fun d hd => by
    refine lc_by (H := H1) f v hz hd (fun H2 e3 => ⟨xs, ex_t e3 hx, Nat.le_refl _⟩) (fun p H2 hp e3 => ⟨xs, xs[p], ex_t e3 hx, by simp [hp]⟩) ?_ (fun H2 e3 h => q d H2 (fresh_back e1 hd) (e1.trans e3) h)
    rintro p x H2 H3 hp e3 ⟨t, y, rfl, nt, rfl, hy⟩
    have hy2 := hy xs (ex_t e3 hx)
    have e2 : Ex H H1 := e.trans e1
    refine ⟨((wipe σ vs).set i (some (.int (p : Nat)))).set j (some y), Ex.new nt, hw _ _, (ht p y hy2).mono e2, fun hf => (he p y hy2 hf).mono e2, fun R r => ?_⟩
    exact ⟨t, _, rfl, st_of upd_same, rfl, _, _, rfl, _, _, rfl, rfl, r⟩⟩
/-- over zip of two tuples -/
theorem el_zipS {ty : TE} {i j : Nat} {n : Nat} (f : Nat → Bool) (v : Nat → V) (h : EvS K tx σ H xs) (h2 : EvS K ty σ H ys) (hn : n = min xs.length ys.length) (hz : n ≤ 40000)
    (hw : ∀ x y, wipe (((wipe σ vs).set i (some x)).set j (some y)) vs = wipe σ vs)
    (ht : ∀ (p : Nat) (x y : V), xs[p]? = some x → ys[p]? = some y → EvT tt (((wipe σ vs).set i (some x)).set j (some y)) H (f p))
    (he : ∀ (p : Nat) (x y : V), xs[p]? = some x → ys[p]? = some y → f p = true → Ev te (((wipe σ vs).set i (some x)).set j (some y)) H (v p)) :
    EvL (tLc (RZ.iZipA K (tCons tx (tCons ty tNil))) (gTup K 2 (gCons (gName i) (gCons (gName j) gNil))) tt te vs) σ H (given n f v) := fun H0 e Q q =>
  h H0 e _ fun a H1 e1 hx => h2 H1 (e.trans e1) _ fun b H1' e1' hy => ⟨a, b, xs, ys, rfl, Or.inr ⟨ex_t e1' hx, hy, fun d hd => by
    refine lc_by (H := H1') f v hz hd (fun H2 e3 => ⟨xs, ys, ex_t (e1'.trans e3) hx, ex_t e3 hy, by omega⟩) (fun p H2 hp e3 => ⟨xs, ys, xs[p], ys[p], ex_t (e1'.trans e3) hx, ex_t e3 hy, by simp, by simp⟩) ?_ (fun H2 e3 h => q d H2 (fresh_back (e1.trans e1') hd) ((e1.trans e1').trans e3) h)
    rintro p u H2 H3 hp e3 ⟨t, x, y, rfl, nt, rfl, hx2, hy2⟩
    have gx := hx2 xs (ex_t (e1'.trans e3) hx)
    have gy := hy2 ys (ex_t e3 hy)
    have e2 : Ex H H1' := (e.trans e1).trans e1'
    refine ⟨((wipe σ vs).set i (some x)).set j (some y), Ex.new nt, hw _ _, (ht p x y gx gy).mono e2, fun hf => (he p x y gx gy hf).mono e2, fun R r => ?_⟩
    exact ⟨t, _, rfl, st_of upd_same, rfl, _, _, rfl, _, _, rfl, rfl, r⟩⟩⟩
/-- over range(lo, hi) -/
theorem el_rng2 {ta : TA} {j : Nat} {lo hi : Int} {n : Nat} (f : Nat → Bool) (v : Nat → V) (h : EvA ta σ H [.int lo, .int hi]) (hb : -100000 ≤ lo ∧ lo ≤ 100000 ∧ -100000 ≤ hi ∧ hi ≤ 100000) (hn : n = (hi - lo).toNat) (hz : n ≤ 40000)
    (hw : ∀ x, wipe ((wipe σ vs).set j (some x)) vs = wipe σ vs)
    (ht : ∀ (p : Nat), p < n → EvT tt ((wipe σ vs).set j (some (.int (lo + (p : Int))))) H (f p))
    (he : ∀ (p : Nat), p < n → f p = true → Ev te ((wipe σ vs).set j (some (.int (lo + (p : Int))))) H (v p)) :
    EvL (tLc (iRng2 ta) (gName j) tt te vs) σ H (given n f v) := fun H0 e Q q =>
  h H0 e _ fun H1 e1 => ⟨lo, hi, rfl, by omega, fun d hd => by
    subst hn
    refine lc_by (H := H1) f v hz hd (fun H2 e3 => Nat.le_refl _) (fun p H2 hp e3 => hp) ?_ (fun H2 e3 h => q d H2 (fresh_back e1 hd) (e1.trans e3) h)
    rintro p y H2 H3 hp e3 ⟨rfl, rfl⟩
    have e2 : Ex H H1 := e.trans e1
    exact ⟨(wipe σ vs).set j (some (.int (lo + (p : Int)))), Ex.refl _, hw _, (ht p hp).mono e2, fun hf => (he p hp hf).mono e2, fun R r => r⟩⟩
theorem ev_allT {n : Nat} (h : EvL tx σ H (given n (fun _ => true) fun _ => .bl true)) : Ev (tCB (rAll K) (tCons tx tNil)) σ H (.bl true) := by
  have e := ev_allL (K := K) (tx := tx) (σ := σ) (H := H) (bs := List.replicate n true) (el_is h (by rw [given_all, List.map_replicate, List.map_const', List.length_range]))
  refine ev_is e ?_
  congr 1
  rw [List.all_eq_true]
  intro x hx
  rw [List.eq_of_mem_replicate hx]
  rfl
theorem given_none {n : Nat} (v : Nat → V) : given n (fun _ => false) v = [] := by
  unfold given
  rw [List.filter_eq_nil_iff.mpr (fun _ _ => by decide)]
  rfl
end
/-- a tuple of naturals at a -/
abbrev TupN (H : Hp) (a : Addr) (c : List Nat) : Prop := H a = some (.tup (nats c))
theorem nats_get {c : List Nat} {p : Nat} {x : V} (h : (nats c)[p]? = some x) : ∃ a : Nat, c[p]? = some a ∧ x = .int a := by
  rw [List.getElem?_map] at h
  cases q : c[p]? with
  | none => rw [q] at h; cases h
  | some a => rw [q] at h; cases h; exact ⟨a, rfl, rfl⟩
/-- the sum over a cascade that stands -/
theorem four_at {s : Nat} {c : List Nat} {a : Addr} {H : Hp} {σ : L2.St} {tx te : TE} {i j : Nat} {vs : List Nat} (f : Nat → Nat → Nat) (hc : IsCas s c) (hs : s ≤ 60) (h : Ev tx σ H (.ref a)) (ha : TupN H a c)
    (hw : ∀ x y, wipe (((wipe σ vs).set i (some x)).set j (some y)) vs = wipe σ vs)
    (ht : ∀ (p b : Nat), p < s → s - p ≤ b → b ∈ c → Ev te (((wipe σ vs).set i (some (.int p))).set j (some (.int b))) H (.int (f b (s - p) : Nat))) :
    Ev (tCB (rSum K) (tCons (tLc (iEnumT K (tCons tx tNil)) (gTup K 2 (gCons (gName i) (gCons (gName j) gNil))) tYes te vs) tNil)) σ H (.int (sumC f s c : Nat)) := by
  have hl := hc.len
  have e := ev_sumL (K := K) (ns := (List.range c.length).map fun p => ((f (c.getD p 0) (s - p) : Nat) : Int)) (σ := σ) (H := H)
    (tx := tLc (iEnumT K (tCons tx tNil)) (gTup K 2 (gCons (gName i) (gCons (gName j) (gNil)))) tYes te vs)
    (el_is (el_enumT (xs := nats c) (fun _ => true) (fun p => .int (f (c.getD p 0) (s - p) : Nat)) h (st_of ha) (by rw [List.length_map]; omega) hw (fun p x hx => et_yes) (fun p x hx _ => by
      obtain ⟨b, q, rfl⟩ := nats_get hx
      obtain ⟨g1, g2⟩ := cas_ge hc q
      have eb : c.getD p 0 = b := by rw [List.getD_eq_getElem?_getD, q]; rfl
      rw [eb]
      exact ht p b g2 g1 (List.mem_of_getElem? q))) (by rw [given_all, List.length_map, List.map_map]; rfl))
  exact ev_is e (by rw [sum_range])
/-! ### is_falling, is_cascade, number_of, cascade_of -/
def sp_is_falling : Sp := fun vs H Q _ => ∃ (s : Nat) (a : Addr) (c : List Nat), vs = [.int s, .ref a] ∧ TupN H a c ∧ IsCas s c ∧ s ≤ 60 ∧ RetV (.bl true) H Q
theorem sv_is_falling {s : Nat} {a : Addr} {c : List Nat} {H : Hp} (h : TupN H a c) (hc : IsCas s c) (hs : s ≤ 60) : SpV sp_is_falling [.int s, .ref a] H (.bl true) := fun H1 e Q q E => ⟨s, a, c, rfl, e _ _ h, hc, hs, fun H2 e2 => q H2 e2⟩
def t_is_falling (K : PySem.W.Frag) : TS :=
    (tSeq (tIfS (tOr (tNot (tB (tCB (rIsi K) (tCons (tVar 1) (tCons (tC (.ty "tuple")) tNil))))) (tOr (tTest (tOp rGt0 (tCB (rLenS K) (tCons (tVar 1) tNil)) (tVar 0))) (tNot (tB (tCB (rAll K) (tCons (tLc (iTup K (tVar 1)) (gName 2) tYes (tCall sp_is_whole [] E0 (tCons (tVar 2) tNil)) [2]) tNil)))))) (tRet (tC (.bl false))) tNext)
    (tSeq (tIfS (tNot (tB (tCB (rAll K) (tCons (tLc (iEnumT K (tCons (tVar 1) tNil)) (gTup K 2 (gCons (gName 3) (gCons (gName 2) (gNil)))) tYes (tOp rGe0 (tVar 2) (tOp rSub0 (tVar 0) (tVar 3))) [3, 2]) tNil)))) (tRet (tC (.bl false))) tNext)
    (tRet (tCB (rAll K) (tCons (tLc (RZ.iZipA K (tCons (tVar 1) (tCons (tSl (rSlA K) (tVar 1) (tPart (tC (.int 1))) tNoPart) tNil))) (gTup K 2 (gCons (gName 4) (gCons (gName 5) (gNil)))) tYes (tOp rGt0 (tVar 4) (tVar 5)) [4, 5]) tNil)))))
theorem isi_tup {σ : L2.St} {H : Hp} {te : TE} {a : Addr} {xs : List V} (h : Ev te σ H (.ref a)) (ha : H a = some (.tup xs)) : Ev (tCB (rIsi K) (tCons te (tCons (tC (.ty "tuple")) tNil))) σ H (.bl true) :=
  ev_cb (ea_cons h (ea_cons ev_c ea_nil)) fun H1 e Q q => ⟨.ref a, .ty "tuple", .type "tuple", .type "tuple", true, rfl, .ty _, .base (.tup (e _ _ ha)), kit_ty (by decide +kernel), q H1 (Ex.refl H1)⟩
theorem IsCas.fall : ∀ {s : Nat} {c : List Nat} {p x y : Nat}, IsCas s c → c[p]? = some x → c[p + 1]? = some y → y < x
  | _, [], p, _, _, _, h, _ => by simp at h
  | 0, _ :: _, _, _, _, h, _, _ => h.elim
  | s + 1, b :: l, 0, x, y, h, h1, h2 => by
    have e : b = x := by simpa using h1
    subst e
    cases l with
    | nil => simp at h2
    | cons z l =>
      have e : z = y := by simpa using h2
      subst e
      exact h.2.1 z rfl
  | s + 1, b :: l, p + 1, x, y, h, h1, h2 => IsCas.fall h.2.2 (show l[p]? = some x by simpa using h1) (show l[p + 1]? = some y by simpa using h2)
theorem cut1 (xs : List V) : cutV xs (some 1) none = xs.drop 1 := by
  unfold cutV
  cases xs with
  | nil => rfl
  | cons x xs =>
    have e1 : HT.sIx (x :: xs).length 0 (some 1) = 1 := by
      show HT.sIx _ 0 (some ((1 : Nat) : Int)) = 1
      rw [HT.sIx_nat, List.length_cons]
      omega
    have e2 : HT.sIx (x :: xs).length (x :: xs).length none = (x :: xs).length := rfl
    rw [e1, e2, List.take_of_length_le]
    rw [List.length_drop]
    omega
theorem rc_lenT {H : Hp} {p : Addr} {xs : List V} (h : SqT K H p xs) : RC (rLenS K) [.ref p] H (.int (xs.length : Int)) := fun H1 e Q q => ⟨p, xs, rfl, Or.inr (ex_t e h), q H1 (Ex.refl H1)⟩
theorem rd_is_falling {vs : List V} {H : Hp} {Q : VK} {E : XK} (h : sp_is_falling vs H Q E) : t_is_falling K { nx := fun _ H2 => Q .non H2, rt := Q } (start ["size", "thing", "item", "at", "one", "other"] vs) H := by
  obtain ⟨s, a, c, rfl, ha, hc, hs, k⟩ := h
  have hl := hc.len
  have hS : SqT K H a (nats c) := st_of ha
  refine q_when (b := false) (et_is (et_or (et_not (et_B (isi_tup (ev_var rfl) ha))) fun _ => et_or (et_test (ev_op (ev_cb (ea_cons (ev_var rfl) ea_nil) (rc_lenT hS)) (ev_var rfl) rv_I0)) fun _ => et_not (et_B (ev_allT (el_tup (fun _ => true) (fun _ => .bl true) (es_ev (ev_var rfl) hS) (by rw [List.length_map]; omega) (fun x => rfl) (fun p x hx => et_yes) fun p x hx _ => by
    obtain ⟨b, q, rfl⟩ := nats_get hx
    exact ev_call (ea_cons (ev_var rfl) ea_nil) sv_is_whole)))) ?_) (fun hb => by cases hb) (fun _ H1 e1 => ?_)
  · have : decide ((s : Int) < ((nats c).length : Int)) = false := decide_eq_false (by rw [List.length_map]; omega)
    rw [this]; rfl
  refine q_when (b := false) (et_is (et_not (et_B (ev_allT (el_enumS (fun _ => true) (fun _ => .bl true) (es_ev (ev_var rfl) (ex_t e1 hS)) (by rw [List.length_map]; omega) (fun x y => rfl) (fun p x hx => et_yes) fun p x hx _ => by
    obtain ⟨b, q, rfl⟩ := nats_get hx
    obtain ⟨g1, g2⟩ := cas_ge hc q
    refine ev_is (ev_op (ev_var rfl) (ev_op (ev_var rfl) (ev_var rfl) rv_I0) rv_I0) ?_
    exact congrArg V.bl (decide_eq_true (by omega)))))) rfl) (fun hb => by cases hb) (fun _ H2 e2 => ?_)
  refine s_ret (ev_allT (el_zipS (n := c.length - 1) (fun _ => true) (fun _ => .bl true) (es_ev (ev_var rfl) (ex_t (e1.trans e2) hS)) (es_sl (es_ev (ev_var rfl) (ex_t (e1.trans e2) hS)) (eo_some ev_c) eo_none) (by rw [cut1, List.length_drop, List.length_map]; omega) (by omega) (fun x y => rfl) (fun p x y hx hy => et_yes) fun p x y hx hy _ => by
    obtain ⟨b, q, rfl⟩ := nats_get hx
    rw [cut1, List.getElem?_drop] at hy
    obtain ⟨z, q2, rfl⟩ := nats_get hy
    have := IsCas.fall hc q (by rw [Nat.add_comm]; exact q2)
    refine ev_is (ev_op (ev_var rfl) (ev_var rfl) rv_I0) ?_
    exact congrArg V.bl (decide_eq_true (by omega)))) fun H3 e3 => k H3 ((e1.trans e2).trans e3)

def sp_is_cascade : Sp := fun vs H Q _ => ∃ (s : Nat) (a : Addr) (c : List Nat), vs = [.int s, .ref a] ∧ 1 ≤ s ∧ TupN H a c ∧ IsCas s c ∧ s ≤ 60 ∧ RetV (.bl true) H Q
theorem sv_is_cascade {s : Nat} {a : Addr} {c : List Nat} {H : Hp} (h1 : 1 ≤ s) (h : TupN H a c) (hc : IsCas s c) (hs : s ≤ 60) : SpV sp_is_cascade [.int s, .ref a] H (.bl true) := fun H1 e Q q E => ⟨s, a, c, rfl, h1, e _ _ h, hc, hs, fun H2 e2 => q H2 e2⟩
def t_is_cascade (K : PySem.W.Frag) : TS :=
    (tSeq (tDrop (tCall sp_need_size [] E0 (tCons (tVar 0) tNil)))
    (tRet (tCall sp_is_falling [] E0 (tCons (tVar 0) (tCons (tVar 1) tNil)))))
theorem rd_is_cascade {vs : List V} {H : Hp} {Q : VK} {E : XK} (h : sp_is_cascade vs H Q E) : t_is_cascade K { nx := fun _ H2 => Q .non H2, rt := Q } (start ["size", "thing"] vs) H := by
  obtain ⟨s, a, c, rfl, h1, ha, hc, hs, k⟩ := h
  exact q_drop (ev_call (ea_cons (ev_var rfl) ea_nil) (sv_need_size h1)) fun H1 e1 => s_ret (ev_call (ea_cons (ev_var rfl) (ea_cons (ev_var rfl) ea_nil)) (sv_is_falling (e1 _ _ ha) hc hs)) fun H2 e2 => k H2 (e1.trans e2)
def sp_number_of : Sp := fun vs H Q _ => ∃ (s : Nat) (a : Addr) (c : List Nat), vs = [.int s, .ref a] ∧ 1 ≤ s ∧ TupN H a c ∧ IsCas s c ∧ s ≤ 60 ∧ (∀ b ∈ c, b < 2 ^ 2000) ∧ RetV (.int (val s c : Nat)) H Q
theorem sv_number_of {s : Nat} {a : Addr} {c : List Nat} {H : Hp} (h1 : 1 ≤ s) (h : TupN H a c) (hc : IsCas s c) (hs : s ≤ 60) (hb : ∀ b ∈ c, b < 2 ^ 2000) : SpV sp_number_of [.int s, .ref a] H (.int (val s c : Nat)) := fun H1 e Q q E => ⟨s, a, c, rfl, h1, e _ _ h, hc, hs, hb, fun H2 e2 => q H2 e2⟩
def t_number_of (K : PySem.W.Frag) : TS :=
    (tSeq (tDrop (tCall sp_need_size [] E0 (tCons (tVar 0) tNil)))
    (tSeq (tIfS (tNot (tB (tCall sp_is_falling [] E0 (tCons (tVar 0) (tCons (tVar 1) tNil))))) tNever tNext)
    (tRet (tCB (rSum K) (tCons (tLc (iEnumT K (tCons (tVar 1) tNil)) (gTup K 2 (gCons (gName 2) (gCons (gName 3) (gNil)))) tYes (tCall sp_choose [] E0 (tCons (tVar 3) (tCons (tOp rSub0 (tVar 0) (tVar 2)) tNil))) [2, 3]) tNil)))))
theorem item_big {b : Nat} (h : b < 2 ^ 2000) : b + 1 < 2 ^ big := by have := pow_small h 1; omega
theorem rd_number_of {vs : List V} {H : Hp} {Q : VK} {E : XK} (h : sp_number_of vs H Q E) : t_number_of K { nx := fun _ H2 => Q .non H2, rt := Q } (start ["size", "cascade", "at", "item"] vs) H := by
  obtain ⟨s, a, c, rfl, h1, ha, hc, hs, hb, k⟩ := h
  refine q_drop (ev_call (ea_cons (ev_var rfl) ea_nil) (sv_need_size h1)) fun H1 e1 => ?_
  refine q_when (b := false) (et_not (et_B (ev_call (ea_cons (ev_var rfl) (ea_cons (ev_var rfl) ea_nil)) (sv_is_falling (e1 _ _ ha) hc hs)))) (fun hb => by cases hb) (fun _ H2 e2 => ?_)
  refine s_ret (four_at (c := c) ch hc hs (ev_var rfl) ((e1.trans e2) _ _ ha) (fun x y => rfl) fun p b hp hl hm => ?_) fun H3 e3 => k H3 ((e1.trans e2).trans e3)
  have e : (s : Int) - (p : Int) = ((s - p : Nat) : Int) := by omega
  exact evc_choose (ev_var rfl) (ev_is (ev_op (ev_var rfl) (ev_var rfl) rv_I0) (by rw [e])) (by omega) (by have := item_big (hb b hm); omega)
def sp_cascade_of : Sp := sp_cascade_by
theorem su_cascade_of {n s : Nat} {H : Hp} (h2 : 1 ≤ s) (h3 : s ≤ 60) (h4 : n < 2 ^ 2000) : SpU sp_cascade_of [.int n, .int s] H (nats (cas s n)) := su_cascade_by h2 h3 h4
def t_cascade_of (K : PySem.W.Frag) : TS :=
    (tSeq (tDrop (tCall sp_need_both [] E0 (tCons (tVar 0) (tCons (tVar 1) tNil))))
    (tRet (tCall sp_cascade_by [] E0 (tCons (tVar 0) (tCons (tVar 1) tNil)))))
theorem rd_cascade_of {vs : List V} {H : Hp} {Q : VK} {E : XK} (h : sp_cascade_of vs H Q E) : t_cascade_of K { nx := fun _ H2 => Q .non H2, rt := Q } (start ["number", "size"] vs) H := by
  obtain ⟨n, s, rfl, h2, h3, h4, k⟩ := h
  exact q_drop (ev_call (ea_cons (ev_var rfl) (ea_cons (ev_var rfl) ea_nil)) (sv_need_both h2)) fun H1 e1 => eu_call (ea_cons (ev_var rfl) (ea_cons (ev_var rfl) ea_nil)) (su_cascade_by h2 h3 h4) H1 (Ex.refl _) _ fun p H2 hp e2 h2 => k p H2 (fresh_back e1 hp) (e1.trans e2) h2
end HCas

/-! The deck of draws: whatever is drawn. -/
namespace HD
open PySem PySem.Spec PyProof.Rows L2 Evl HG HL HC HR HN
variable {K : PySem.W.Frag}
/-! ### the deck -/
def kv3 (l : Addr) (m n : Int) : List (Key × V) := [(Sum.inr "cells", .ref l), (Sum.inr "mixed", .int m), (Sum.inr "draws", .int n)]
theorem ne_cm : ¬ ((Sum.inr ("cells" : Str) : Key) = Sum.inr ("mixed" : Str)) := by decide +kernel
theorem ne_cd : ¬ ((Sum.inr ("cells" : Str) : Key) = Sum.inr ("draws" : Str)) := by decide +kernel
theorem ne_md : ¬ ((Sum.inr ("mixed" : Str) : Key) = Sum.inr ("draws" : Str)) := by decide +kernel
theorem kv3_cells (l : Addr) (m n : Int) : valV (kv3 l m n) (Sum.inr ("cells" : Str)) = some (.ref l) := by simp [valV, kv3]
theorem kv3_mixed (l : Addr) (m n : Int) : valV (kv3 l m n) (Sum.inr ("mixed" : Str)) = some (.int m) := by simp only [valV, kv3, List.find?_cons, ne_cm, decide_false, decide_true, Option.map_some]
theorem kv3_draws (l : Addr) (m n : Int) : valV (kv3 l m n) (Sum.inr ("draws" : Str)) = some (.int n) := by simp only [valV, kv3, List.find?_cons, ne_cd, ne_md, decide_false, decide_true, Option.map_some]
theorem kv3_put (l : Addr) (m n k : Int) : putK (kv3 l m n) (Sum.inr ("draws" : Str)) (.int k) = kv3 l m k := by
  unfold putK kv3
  simp only [List.any_cons, List.any_nil, ne_cd, ne_md, decide_false, decide_true, Bool.or_true, Bool.true_or, if_true, List.map_cons, List.map_nil, if_false]
theorem kv3_merge (l : Addr) (m n : Int) : mergeK [] (kv3 l m n) = kv3 l m n := by
  unfold mergeK kv3
  simp only [List.foldl_cons, List.foldl_nil, putK, List.any_nil, List.any_cons, Bool.false_eq_true, if_false, List.nil_append, ne_cm, ne_cd, ne_md, decide_false, Bool.or_false, List.cons_append]
structure Dk (H : Hp) (d l : Addr) : Prop where
  ex : ∃ (cells : List Int) (m n : Int), H d = some (.dK (kv3 l m n)) ∧ H l = some (.lst (cells.map V.int)) ∧ cells.length ≤ 63 ∧ 0 ≤ m
theorem Dk.ne {H : Hp} {d l : Addr} (h : Dk H d l) : d ≠ l := by
  obtain ⟨c, m, n, h1, h2, _⟩ := h.ex
  exact ne_of h1 h2 (by intro z; cases z)
theorem Dk.up {H H1 : Hp} {d l : Addr} (h : Dk H d l) (e : Ex H H1) : Dk H1 d l := by
  obtain ⟨c, m, n, h1, h2, h3⟩ := h.ex
  exact ⟨c, m, n, e _ _ h1, e _ _ h2, h3⟩
/-- all but the deck stays -/
def Oth (d l : Addr) (H H1 : Hp) : Prop := ∀ b o, b ≠ d → b ≠ l → H b = some o → H1 b = some o
theorem Oth.refl {d l : Addr} (H : Hp) : Oth d l H H := fun _ _ _ _ h => h
theorem Oth.trans {d l : Addr} {H H1 H2 : Hp} (a : Oth d l H H1) (b : Oth d l H1 H2) : Oth d l H H2 := fun x o h1 h2 h => b x o h1 h2 (a x o h1 h2 h)
theorem Oth.ex {d l : Addr} {H H1 : Hp} (e : Ex H H1) : Oth d l H H1 := fun b o _ _ h => e b o h
theorem Oth.putd {d l : Addr} {H : Hp} {o : HO} : Oth d l H (upd H d o) := fun b u h1 _ h => by rw [upd_ne h1]; exact h
theorem Oth.putl {d l : Addr} {H : Hp} {o : HO} : Oth d l H (upd H l o) := fun b u _ h2 h => by rw [upd_ne h2]; exact h
/-- what the law knows: H0 and the deck -/
structure W (H0 : Hp) (d l : Addr) (H : Hp) : Prop where
  ex : Ex H0 H
  dk : Dk H d l
  nd : H0 d = none
  nl : H0 l = none
section
variable {H0 H H1 : Hp} {d l : Addr}
theorem W.up (w : W H0 d l H) (e : Ex H H1) : W H0 d l H1 := ⟨w.ex.trans e, w.dk.up e, w.nd, w.nl⟩
theorem W.oth (w : W H0 d l H) (o : Oth d l H H1) (k : Dk H1 d l) : W H0 d l H1 :=
  ⟨fun b u h => o b u (fun z => by rw [z, w.nd] at h; cases h) (fun z => by rw [z, w.nl] at h; cases h) (w.ex b u h), k, w.nd, w.nl⟩
theorem W.new {p : Addr} {o : HO} (w : W H0 d l H) (hp : H p = none) (e : Ex H H1) (h1 : H1 p = some o) : W (upd H0 p o) d l H1 := by
  obtain ⟨c, m, n, g1, g2, _⟩ := w.dk.ex
  have pd : d ≠ p := ne_of_none g1 hp
  have pl : l ≠ p := ne_of_none g2 hp
  refine ⟨fun b u h => ?_, w.dk.up e, by rw [upd_ne pd]; exact w.nd, by rw [upd_ne pl]; exact w.nl⟩
  by_cases q : b = p
  · subst q
    rw [upd_same] at h
    cases h
    exact h1
  · rw [upd_ne q] at h
    exact e b u (w.ex b u h)
theorem W.free {p : Addr} (w : W H0 d l H) (h : H p = none) : H0 p = none := fresh_back w.ex h
theorem W.ner {p : Addr} {o : HO} (w : W H0 d l H) (h : H0 p = some o) : p ≠ d ∧ p ≠ l := ⟨ne_of_none h w.nd, ne_of_none h w.nl⟩
end
/-! ### values that are drawn: P tells what is known of them -/
def EvN (d l : Addr) (te : TE) (σ : L2.St) (H0 : Hp) (P : V → Prop) : Prop := ∀ H, W H0 d l H → ∀ Q : VK, (∀ v H1, P v → W H0 d l H1 → Q v H1) → te σ H Q
def EvNA (d l : Addr) (ta : TA) (σ : L2.St) (H0 : Hp) (P : List V → Prop) : Prop := ∀ H, W H0 d l H → ∀ Q : List V → Hp → Prop, (∀ vs H1, P vs → W H0 d l H1 → Q vs H1) → ta σ H Q
def EvNT (d l : Addr) (tt : TT) (σ : L2.St) (H0 : Hp) (P : Bool → Prop) : Prop := ∀ H, W H0 d l H → ∀ Q : Bool → Hp → Prop, (∀ b H1, P b → W H0 d l H1 → Q b H1) → tt σ H Q
section
variable {H0 : Hp} {d l : Addr} {σ : L2.St} {ta tb te : TE} {P P1 P2 : V → Prop} {v x y z : V}
theorem en_ev (h : Ev te σ H0 v) : EvN d l te σ H0 (fun x => x = v) := fun H w Q q => h H w.ex Q fun H1 e => q v H1 rfl (w.up e)
theorem en_imp (h : EvN d l te σ H0 P) (k : ∀ v, P v → P1 v) : EvN d l te σ H0 P1 := fun H w Q q => h H w Q fun v H1 p w1 => q v H1 (k v p) w1
theorem en_op {r : R2} (ha : EvN d l ta σ H0 P1) (hb : EvN d l tb σ H0 P2) (hr : ∀ x y, P1 x → P2 y → ∃ z, RV r x y H0 z ∧ P z) : EvN d l (tOp r ta tb) σ H0 P := fun H w Q q =>
  ha H w _ fun x H1 p1 w1 => hb H1 w1 _ fun y H2 p2 w2 => by
    obtain ⟨z, h1, h2⟩ := hr x y p1 p2
    exact h1 H2 w2.ex Q fun H3 e => q z H3 h2 (w2.up e)
theorem ena_nil : EvNA d l tNil σ H0 (fun vs => vs = []) := fun H w Q q => q [] H rfl w
theorem ena_cons {tr : TA} {R : List V → Prop} (ha : EvN d l ta σ H0 P) (hr : EvNA d l tr σ H0 R) : EvNA d l (tCons ta tr) σ H0 (fun vs => ∃ x r, vs = x :: r ∧ P x ∧ R r) := fun H w Q q =>
  ha H w _ fun x H1 p w1 => hr H1 w1 _ fun vs H2 p2 w2 => q _ H2 ⟨x, vs, rfl, p, p2⟩ w2
theorem ena_ev {tr : TA} {vs : List V} (h : EvA tr σ H0 vs) : EvNA d l tr σ H0 (fun x => x = vs) := fun H w Q q => h H w.ex Q fun H1 e => q vs H1 rfl (w.up e)
theorem en_call {sp : Sp} {E : XK} {t : TA} {R : List V → Prop} (ha : EvNA d l t σ H0 R) (hs : ∀ vs H, R vs → W H0 d l H → ∀ Q : VK, (∀ v H1, P v → W H0 d l H1 → Q v H1) → sp vs H Q E) : EvN d l (tCall sp [] E t) σ H0 P := fun H w Q q =>
  ha H w _ fun vs H1 p w1 => by
    show sp (vs ++ []) H1 Q E
    rw [List.append_nil]
    exact hs vs H1 p w1 Q q
theorem en_cb {r : List V → Hp → VK → Prop} {t : TA} {R : List V → Prop} (ha : EvNA d l t σ H0 R) (hr : ∀ vs, R vs → ∃ z, RC r vs H0 z ∧ P z) : EvN d l (tCB r t) σ H0 P := fun H w Q q =>
  ha H w _ fun vs H1 p w1 => by
    obtain ⟨z, h1, h2⟩ := hr vs p
    exact h1 H1 w1.ex Q fun H2 e => q z H2 h2 (w1.up e)
theorem ent_test {R : Bool → Prop} (h : EvN d l te σ H0 P) (k : ∀ v, P v → ∃ b, v = .bl b ∧ R b) : EvNT d l (tTest te) σ H0 R := fun H w Q q =>
  h H w _ fun v H1 p w1 => by
    obtain ⟨b, rfl, hb⟩ := k v p
    exact ⟨b, rfl, q b H1 hb w1⟩
theorem ent_B {R : Bool → Prop} (h : EvN d l te σ H0 P) (k : ∀ v, P v → ∃ b, v = .bl b ∧ R b) : EvNT d l (tB te) σ H0 R := fun H w Q q =>
  h H w _ fun v H1 p w1 => by
    obtain ⟨b, rfl, hb⟩ := k v p
    exact ⟨b, rfl, q b H1 hb w1⟩
theorem ent_not {t : TT} {R R1 : Bool → Prop} (h : EvNT d l t σ H0 R) (k : ∀ b, R b → R1 (!b)) : EvNT d l (tNot t) σ H0 R1 := fun H w Q q => h H w _ fun b H1 p w1 => q (!b) H1 (k b p) w1
theorem ent_ev {t : TT} {b : Bool} (h : EvT t σ H0 b) : EvNT d l t σ H0 (fun x => x = b) := fun H w Q q => h H w.ex Q fun H1 e => q b H1 rfl (w.up e)
theorem en_if {t : TT} {R : Bool → Prop} (h : EvNT d l t σ H0 R) (h1 : R true → EvN d l ta σ H0 P) (h2 : R false → EvN d l tb σ H0 P) : EvN d l (tIf t ta tb) σ H0 P := fun H w Q q =>
  h H w _ fun b H1 p w1 => by
    cases b with
    | true => exact h1 p H1 w1 Q q
    | false => exact h2 p H1 w1 Q q
theorem ent_or {t u : TT} {R1 R2 R : Bool → Prop} (h : EvNT d l t σ H0 R1) (k : EvNT d l u σ H0 R2) (h1 : R1 true → R true) (h2 : ∀ b, R1 false → R2 b → R b) : EvNT d l (tOr t u) σ H0 R := fun H w Q q =>
  h H w _ fun b H1 p w1 => by
    cases b with
    | true => exact q true H1 (h1 p) w1
    | false => exact k H1 w1 Q fun b2 H2 p2 w2 => q b2 H2 (h2 b2 p p2) w2
end
/-! ### statements that draw -/
section
variable {H0 : Hp} {d l : Addr} {σ : L2.St} {te : TE} {t : TT} {tu tw tz : TS} {D : Ends} {P : V → Prop} {R : Bool → Prop} {H : Hp}
theorem k_asg {i : Nat} (h : EvN d l te σ H0 P) (w : W H0 d l H) (k : ∀ v H1, P v → W H0 d l H1 → tz D (σ.set i (some v)) H1) : tSeq (tAsg te (gName i)) tz D σ H := h H w _ fun v H1 p w1 => k v H1 p w1
theorem k_asg1 {i : Nat} (h : EvN d l te σ H0 P) (w : W H0 d l H) (k : ∀ v H1, P v → W H0 d l H1 → D.nx (σ.set i (some v)) H1) : tAsg te (gName i) D σ H := h H w _ fun v H1 p w1 => k v H1 p w1
theorem k_ret (h : EvN d l te σ H0 P) (w : W H0 d l H) (k : ∀ v H1, P v → W H0 d l H1 → D.rt v H1) : tRet te D σ H := h H w _ k
theorem k_par {i j : Nat} {ta : TA} {R : List V → Prop} (h : EvNA d l ta σ H0 R) (w : W H0 d l H) (e : ∀ vs, R vs → ∃ a b, vs = [a, b]) (k : ∀ a b H1, R [a, b] → W H0 d l H1 → tz D ((σ.set i (some a)).set j (some b)) H1) : tSeq (tPar i j ta) tz D σ H :=
  h H w _ fun vs H1 p w1 => by
    obtain ⟨a, b, rfl⟩ := e vs p
    exact ⟨a, b, rfl, k a b H1 p w1⟩
theorem k_when (h : EvNT d l t σ H0 R) (w : W H0 d l H) (h1 : R true → ∀ H1, W H0 d l H1 → tu { D with nx := tz D } σ H1) (h2 : R false → ∀ H1, W H0 d l H1 → tz D σ H1) : tSeq (tIfS t tu tNext) tz D σ H :=
  h H w _ fun b H1 p w1 => by
    cases b with
    | true => exact h1 p H1 w1
    | false => exact h2 p H1 w1
theorem k_if1 (h : EvNT d l t σ H0 R) (w : W H0 d l H) (h1 : R true → ∀ H1, W H0 d l H1 → tu D σ H1) (h2 : R false → ∀ H1, W H0 d l H1 → tw D σ H1) : tIfS t tu tw D σ H :=
  h H w _ fun b H1 p w1 => by
    cases b with
    | true => exact h1 p H1 w1
    | false => exact h2 p H1 w1
theorem k_if (h : EvNT d l t σ H0 R) (w : W H0 d l H) (h1 : R true → ∀ H1, W H0 d l H1 → tu { D with nx := tz D } σ H1) (h2 : R false → ∀ H1, W H0 d l H1 → tw { D with nx := tz D } σ H1) : tSeq (tIfS t tu tw) tz D σ H := k_if1 (D := { D with nx := tz D }) h w h1 h2
end
/-! ### the draws -/
def sp_law_draw : Sp := fun vs H Q _ => ∃ (d l : Addr) (many : Int), vs = [.ref d, .int many] ∧ 1 ≤ many ∧ many < 2 ^ 8000 ∧ Dk H d l ∧ ∀ (r : Int) (H1 : Hp), 0 ≤ r → r < many → Dk H1 d l → Oth d l H H1 → Q (.int r) H1
/-- _law_draw(deck, e) -/
theorem en_draw {H0 : Hp} {d l : Addr} {σ : L2.St} {ta tb : TE} {many : Int} (ha : Ev ta σ H0 (.ref d)) (hb : EvN d l tb σ H0 (fun v => v = .int many)) (h1 : 1 ≤ many) (h2 : many < 2 ^ 8000) :
    EvN d l (tCall sp_law_draw [] E0 (tCons ta (tCons tb tNil))) σ H0 (fun v => ∃ r : Int, v = .int r ∧ 0 ≤ r ∧ r < many) :=
  en_call (ena_cons (en_ev ha) (ena_cons hb ena_nil)) fun vs H hv w Q q => by
    obtain ⟨x, r, rfl, rfl, y, r2, rfl, rfl, rfl⟩ := hv
    exact ⟨d, l, many, rfl, h1, h2, w.dk, fun r H1 a b c o => q _ H1 ⟨r, rfl, a, b⟩ (w.oth o c)⟩
theorem en_drawP {H0 : Hp} {d l : Addr} {σ : L2.St} {ta tb : TE} {P : Int → Prop} (ha : Ev ta σ H0 (.ref d)) (hb : EvN d l tb σ H0 (fun v => ∃ many : Int, v = .int many ∧ P many)) (h1 : ∀ many, P many → 1 ≤ many ∧ many < 2 ^ 8000) :
    EvN d l (tCall sp_law_draw [] E0 (tCons ta (tCons tb tNil))) σ H0 (fun v => ∃ many r : Int, P many ∧ v = .int r ∧ 0 ≤ r ∧ r < many) :=
  en_call (ena_cons (en_ev ha) (ena_cons hb ena_nil)) fun vs H hv w Q q => by
    obtain ⟨x, r, rfl, rfl, y, r2, rfl, ⟨many, rfl, pm⟩, rfl⟩ := hv
    exact ⟨d, l, many, rfl, (h1 _ pm).1, (h1 _ pm).2, w.dk, fun r H1 a b c o => q _ H1 ⟨many, r, pm, rfl, a, b⟩ (w.oth o c)⟩
def t_law_draw (K : PySem.W.Frag) (c1 : Int) (c2 : Int) : TS :=
    (tSeq (sDPut (tVar 0) (tC (.str "draws")) (tOp rAdd0 (tDGet (tVar 0) (tC (.str "draws"))) (tC (.int 1))))
    (tSeq (tAsg (tOp rAdd0 (tDGet (tVar 0) (tC (.str "mixed"))) (tOp rMulW (tC (.int 61473)) (tDGet (tVar 0) (tC (.str "draws"))))) (gName 2))
    (tSeq (tIfS (tTest (tOp (rNeD K) (tDGet (tVar 0) (tC (.str "cells"))) (tLst tNil))) (tSeq (tAsg (tBM0 K "list" rPop (tDGet (tVar 0) (tC (.str "cells")))) (gName 3))
    (tSeq (tIfS (tTest (tOp rGe0 (tVar 3) (tOp rPow0 (tC (.int 10)) (tC (.int 18))))) (tSeq (tDrop (tBM K "list" rAppend (tDGet (tVar 0) (tC (.str "cells"))) (tCons (tOp rDivW (tVar 3) (tCB rMax2 (tCons (tC (.int 2)) (tCons (tVar 1) tNil)))) tNil)))
    (tRet (tOp rMod0 (tCB rInt1 (tCons (tVar 3) tNil)) (tVar 1)))) tNext)
    (tAsg (tOp rAdd0 (tVar 2) (tOp rMod0 (tCB rInt1 (tCons (tVar 3) tNil)) (tC (.int 2147483629)))) (gName 2)))) tNext)
    (tSeq (tAsg (tOp rMod0 (tCB rInt1 (tCons (tOp rAdd0 (tOp rMulW (tVar 2) (tC (.int 39373))) (tC (.int c1))) tNil)) (tC (.int 2147483647))) (gName 2))
    (tSeq (tAsg (tOp rMod0 (tCB rInt1 (tCons (tOp rAdd0 (tOp rAdd0 (tOp rMulW (tVar 2) (tVar 2)) (tOp rMulW (tC (.int 52713)) (tDGet (tVar 0) (tC (.str "draws"))))) (tC (.int c2))) tNil)) (tC (.int 2147483587))) (gName 2))
    (tSeq (tAsg (tOp rMod0 (tCB rInt1 (tCons (tOp rMulW (tVar 2) (tC (.int 40692))) tNil)) (tC (.int 2147483563))) (gName 2))
    (tRet (tOp rMod0 (tCB rInt1 (tCons (tOp rDivW (tVar 2) (tC (.int 64))) tNil)) (tVar 1)))))))))
theorem get_cells {σ : L2.St} {H : Hp} {d l : Addr} {m n : Int} {te : TE} (h : Ev te σ H (.ref d)) (hd : H d = some (.dK (kv3 l m n))) : Ev (tDGet te (tC (.str "cells"))) σ H (.ref l) := fun H1 e Q q =>
  h H1 e _ fun H2 e2 => ⟨d, .ref l, rfl, by rw [← kv3_cells l m n]; exact DGet.k (k := Sum.inr ("cells" : Str)) (e2 _ _ (e _ _ hd)), q H2 e2⟩
theorem get_mixed {σ : L2.St} {H : Hp} {d l : Addr} {m n : Int} {te : TE} (h : Ev te σ H (.ref d)) (hd : H d = some (.dK (kv3 l m n))) : Ev (tDGet te (tC (.str "mixed"))) σ H (.int m) := fun H1 e Q q =>
  h H1 e _ fun H2 e2 => ⟨d, .int m, rfl, by rw [← kv3_mixed l m n]; exact DGet.k (k := Sum.inr ("mixed" : Str)) (e2 _ _ (e _ _ hd)), q H2 e2⟩
theorem get_draws {σ : L2.St} {H : Hp} {d l : Addr} {m n : Int} {te : TE} (h : Ev te σ H (.ref d)) (hd : H d = some (.dK (kv3 l m n))) : Ev (tDGet te (tC (.str "draws"))) σ H (.int n) := fun H1 e Q q =>
  h H1 e _ fun H2 e2 => ⟨d, .int n, rfl, by rw [← kv3_draws l m n]; exact DGet.k (k := Sum.inr ("draws" : Str)) (e2 _ _ (e _ _ hd)), q H2 e2⟩
theorem dp_ints {H : Hp} : ∀ ns : List Int, DpAll K H (ns.map V.int) (ns.map PyData.int)
  | [] => .nil
  | n :: ns => .cons (.int n) (dp_ints ns)
theorem shaped_ints (ns : List Int) : SeqAt.shaped (.list (ns.map PyData.int)) = true := by
  have h1 : ∀ ns : List Int, PyData.canLayAll0 (ns.map PyData.int) = true := by
    intro ns
    induction ns with
    | nil => rfl
    | cons a ns ih => show (PyData.canLay0 (.int a) && PyData.canLayAll0 (ns.map PyData.int)) = true; rw [ih]; rfl
  have h2 : ∀ ns : List Int, PyData.depthAll (ns.map PyData.int) = 0 := by
    intro ns
    induction ns with
    | nil => rfl
    | cons a ns ih => show max (PyData.depth (.int a)) (PyData.depthAll (ns.map PyData.int)) = 0; rw [ih]; rfl
  unfold SeqAt.shaped
  show (PyData.canLayAll0 (ns.map PyData.int) && decide (PyData.depthAll (ns.map PyData.int) + 1 ≤ 64)) = true
  rw [h1, h2]
  rfl
/-- a list of ints against [] -/
theorem ev_neNil {σ : L2.St} {H : Hp} {te : TE} {a : Addr} {ns : List Int} (h : Ev te σ H (.ref a)) (hl : H a = some (.lst (ns.map V.int))) : Ev (tOp (rNeD K) te (tLst tNil)) σ H (.bl (!ns.isEmpty)) := by
  refine ev_opL (xs := []) h (el_lst ea_nil (by decide)) fun p H1 hp e => rv_val fun H2 e2 Q q => ?_
  refine ⟨.list (ns.map PyData.int), .list [], .lst (sq_of (e2 _ _ (e _ _ hl))) (dp_ints ns), .lst (sq_of (e2 _ _ hp)) .nil, shaped_ints ns, rfl, ?_⟩
  have : PyData.eqv (.list (ns.map PyData.int)) (.list []) = ns.isEmpty := by cases ns <;> rfl
  rw [this]
  exact q
theorem rd_law_draw {c1 c2 : Int} {vs : List V} {H : Hp} {Q : VK} {E : XK} (h : sp_law_draw vs H Q E) : t_law_draw K c1 c2 { nx := fun _ H2 => Q .non H2, rt := Q } (start ["deck", "many", "number", "cell"] vs) H := by
  obtain ⟨d, l, many, rfl, h1, h2, dk, k⟩ := h
  obtain ⟨cells, m, n, hd, hl, hc, hm⟩ := dk.ex
  have ndl := dk.ne
  -- deck['draws'] = deck['draws'] + 1
  show tSeq (sDPut _ _ _) _ _ _ _
  refine (ev_op (get_draws (ev_var rfl) hd) ev_c rv_I0 : Ev _ _ H (.int (n + 1))) H (Ex.refl H) _ fun H1 e1 => ?_
  refine ⟨.ref d, rfl, d, upd H1 d (.dK (kv3 l m (n + 1))), rfl, ?_, ?_⟩
  · have p := DPut.k (k := Sum.inr ("draws" : Str)) (v := .int (n + 1)) (e1 _ _ hd) (show (kv3 l m n).length < sizeLine by show 3 < sizeLine; decide)
    rw [kv3_put] at p
    exact p
  generalize hH2 : upd H1 d (.dK (kv3 l m (n + 1))) = H2
  have d2 : H2 d = some (.dK (kv3 l m (n + 1))) := by rw [← hH2]; exact upd_same
  have l2 : H2 l = some (.lst (cells.map V.int)) := by rw [← hH2, upd_ne ndl.symm]; exact e1 _ _ hl
  have o2 : Oth d l H H2 := (Oth.ex e1).trans (by rw [← hH2]; exact Oth.putd)
  clear hH2
  -- number = deck['mixed'] + 61473 * deck['draws']
  refine q_asg (ev_op (get_mixed (ev_var rfl) d2) (ev_op ev_c (get_draws (ev_var rfl) d2) (rv_I mulL)) rv_I0) fun H3 e3 => ?_
  -- the last rows: from any number and any deck
  have tail : ∀ (x : Int) (y : Option V) (H4 : Hp) (cs : List Int), cs.length ≤ 63 → H4 d = some (.dK (kv3 l m (n + 1))) → H4 l = some (.lst (cs.map V.int)) → Oth d l H H4 →
      tSeq (tAsg (tOp rMod0 (tCB rInt1 (tCons (tOp rAdd0 (tOp rMulW (tVar 2) (tC (.int 39373))) (tC (.int c1))) tNil)) (tC (.int 2147483647))) (gName 2))
      (tSeq (tAsg (tOp rMod0 (tCB rInt1 (tCons (tOp rAdd0 (tOp rAdd0 (tOp rMulW (tVar 2) (tVar 2)) (tOp rMulW (tC (.int 52713)) (tDGet (tVar 0) (tC (.str "draws"))))) (tC (.int c2))) tNil)) (tC (.int 2147483587))) (gName 2))
      (tSeq (tAsg (tOp rMod0 (tCB rInt1 (tCons (tOp rMulW (tVar 2) (tC (.int 40692))) tNil)) (tC (.int 2147483563))) (gName 2))
      (tRet (tOp rMod0 (tCB rInt1 (tCons (tOp rDivW (tVar 2) (tC (.int 64))) tNil)) (tVar 1))))) { nx := fun _ H2 => Q .non H2, rt := Q } [some (.ref d), some (.int many), some (.int x), y] H4 := by
    intro x y H4 cs hcs d4 l4 o4
    refine q_asg (ev_op (ev_cb (ea_cons (ev_op (ev_op (ev_var rfl) ev_c (rv_I mulR)) ev_c rv_I0) ea_nil) rc_int) ev_c (rv_I (by decide))) fun H5 e5 => ?_
    generalize hx1 : (x * 39373 + c1) % 2147483647 = x1
    have b1 : 0 ≤ x1 ∧ x1 < 2147483647 := by rw [← hx1]; omega
    refine q_asg (ev_op (ev_cb (ea_cons (ev_op (ev_op (ev_op (ev_var rfl) (ev_var rfl) (rv_I (mulL (by omega) (by omega)))) (ev_op ev_c (get_draws (ev_var rfl) (e5 _ _ d4)) (rv_I mulL)) rv_I0) ev_c rv_I0) ea_nil) rc_int) ev_c (rv_I (by decide))) fun H6 e6 => ?_
    generalize (x1 * x1 + 52713 * (n + 1) + c2) % 2147483587 = x2
    refine q_asg (ev_op (ev_cb (ea_cons (ev_op (ev_var rfl) ev_c (rv_I mulR)) ea_nil) rc_int) ev_c (rv_I (by decide))) fun H7 e7 => ?_
    generalize x2 * 40692 % 2147483563 = x3
    refine s_ret (ev_op (ev_cb (ea_cons (ev_op (ev_var rfl) ev_c (rv_I (divW (m := 64) (b := 7) (by decide) (by decide)))) ea_nil) rc_int) (ev_var rfl) (rv_I (by omega))) fun H8 e8 => ?_
    have e48 := ((e5.trans e6).trans e7).trans e8
    refine k _ H8 (Int.emod_nonneg _ (by omega)) (Int.emod_lt_of_pos _ (by omega)) ⟨cs, m, n + 1, e48 _ _ d4, e48 _ _ l4, hcs, hm⟩ (o4.trans (Oth.ex e48))
  -- if deck['cells'] != []
  refine q_if (et_test (ev_neNil (get_cells (ev_var rfl) (e3 _ _ d2)) (e3 _ _ l2))) (fun hb H4 e4 => ?_) (fun hb H4 e4 => ?_)
  · have e24 := e3.trans e4
    have d4 := e24 _ _ d2
    have l4 := e24 _ _ l2
    have o4 := o2.trans (Oth.ex e24)
    have hne : cells ≠ [] := by
      intro z
      subst z
      cases hb
    have hlast : (cells.map V.int)[(cells.map V.int).length - 1]? = some (.int (cells.getLast hne)) := by
      rw [List.getElem?_map, List.length_map, ← List.getLast?_eq_getElem?, List.getLast?_eq_some_getLast hne]
      rfl
    have hdrop : (cells.map V.int).dropLast = cells.dropLast.map V.int := by simp
    generalize hcl : cells.getLast hne = cell at hlast
    generalize hcs : cells.dropLast = cs at hdrop
    have lcs : cs.length + 1 = cells.length := by
      rw [← hcs, List.length_dropLast]
      have := List.length_pos_iff.mpr hne
      omega
    -- cell = deck['cells'].pop()
    show tSeq (tAsg (tBM0 K "list" rPop (tDGet (tVar 0) (tC (.str "cells")))) (gName 3)) _ _ _ _
    refine (get_cells (ev_var rfl) d4 : Ev _ _ H4 (.ref l)) H4 (Ex.refl H4) _ fun H5 e5 => ?_
    refine ⟨Or.inl ⟨rfl, _, sq_of (e5 _ _ l4)⟩, l, cells.map V.int, .int cell, rfl, rfl, e5 _ _ l4, hlast, ?_⟩
    rw [hdrop]
    generalize hH6 : upd H5 l (.lst (cs.map V.int)) = H6
    have d6 : H6 d = some (.dK (kv3 l m (n + 1))) := by rw [← hH6, upd_ne ndl]; exact e5 _ _ d4
    have l6 : H6 l = some (.lst (cs.map V.int)) := by rw [← hH6]; exact upd_same
    have o6 : Oth d l H H6 := (o4.trans (Oth.ex e5)).trans (by rw [← hH6]; exact Oth.putl)
    clear hH6
    -- if cell >= 10 ** 18
    refine q_when (et_test (ev_op (ev_var rfl) (ev_op ev_c ev_c (rv_I ⟨by decide, by decide, by decide⟩)) rv_I0)) (fun hb2 H7 e7 => ?_) (fun hb2 H7 e7 => ?_)
    · have d7 := e7 _ _ d6
      have l7 := e7 _ _ l6
      have hmax : ∀ i : Int, 1 ≤ i → i < 2 ^ 8000 → CDivW cell (if i > 2 then i else 2) := by
        intro i hi1 hi2
        have e : ∃ j : Nat, (if i > 2 then i else 2) = (j : Int) ∧ 0 < j ∧ j < 2 ^ 8001 := by
          by_cases q : i > 2
          · rw [if_pos q]
            refine ⟨i.toNat, by omega, by omega, ?_⟩
            have : ((2 ^ 8001 : Nat) : Int) = (2 : Int) ^ 8001 := Int.natCast_pow 2 8001
            have h3 : (2 : Int) ^ 8000 ≤ (2 : Int) ^ 8001 := by decide +kernel
            omega
          · rw [if_neg q]
            exact ⟨2, rfl, by decide, by decide +kernel⟩
        obtain ⟨j, e1, e2, e3⟩ := e
        rw [e1]
        exact divW e2 e3
      -- deck['cells'].append(cell // max(2, many))
      show tSeq (tDrop (tBM K "list" rAppend (tDGet (tVar 0) (tC (.str "cells"))) _)) _ _ _ _
      refine q_app (l := l) (xs := cs.map V.int) l7 (get_cells (ev_var rfl) d7) (ev_op (ev_var rfl) (ev_cb (ea_cons ev_c (ea_cons (ev_var rfl) ea_nil)) rc_max2) (rv_I (hmax many h1 h2))) (by rw [List.length_map]; omega) fun H8 e8 => ?_
      generalize cell / (if many > 2 then many else 2) = c9
      generalize hH9 : upd H8 l (.lst (cs.map V.int ++ [V.int c9])) = H9
      have d9 : H9 d = some (.dK (kv3 l m (n + 1))) := by rw [← hH9, upd_ne ndl]; exact e8 _ _ d7
      have l9 : H9 l = some (.lst ((cs ++ [c9]).map V.int)) := by rw [← hH9, List.map_append]; exact upd_same
      have o9 : Oth d l H H9 := ((o6.trans (Oth.ex e7)).trans (Oth.ex e8)).trans (by rw [← hH9]; exact Oth.putl)
      clear hH9
      refine s_ret (ev_op (ev_cb (ea_cons (ev_var rfl) ea_nil) rc_int) (ev_var rfl) (rv_I (by omega))) fun H10 e10 => ?_
      refine k _ H10 (Int.emod_nonneg _ (by omega)) (Int.emod_lt_of_pos _ (by omega)) ⟨cs ++ [c9], m, n + 1, e10 _ _ d9, e10 _ _ l9, by rw [List.length_append]; show cs.length + 1 ≤ 63; omega, hm⟩ (o9.trans (Oth.ex e10))
    · refine s_asg (ev_op (ev_var rfl) (ev_op (ev_cb (ea_cons (ev_var rfl) ea_nil) rc_int) ev_c (rv_I (by decide))) rv_I0) fun H8 e8 => ?_
      have e68 := e7.trans e8
      exact tail _ _ H8 cs (by omega) (e68 _ _ d6) (e68 _ _ l6) (o6.trans (Oth.ex e68))
  · have e24 := e3.trans e4
    exact tail _ _ H4 cells hc (e24 _ _ d2) (e24 _ _ l2) (o2.trans (Oth.ex e24))

/-! ### the deck made -/
theorem cut_ints (ns : List Int) (lo hi : Option Int) : ∃ cs : List Int, cutV (ns.map V.int) lo hi = cs.map V.int ∧ cs.length ≤ ns.length := by
  refine ⟨(ns.drop (HT.sIx (ns.map V.int).length 0 lo)).take (HT.sIx (ns.map V.int).length (ns.map V.int).length hi - HT.sIx (ns.map V.int).length 0 lo), ?_, ?_⟩
  · unfold cutV
    rw [List.map_take, List.map_drop]
  · rw [List.length_take, List.length_drop]
    omega
def sp_law_deck (K : PySem.W.Frag) : Sp := fun vs H Q _ => ∃ (a : Addr) (ns : List Int), vs = [.ref a] ∧ SqL K H a (ns.map V.int) ∧ ns.length ≤ 63 ∧ ∀ d l H1, H d = none → H l = none → Dk H1 d l → Ex H H1 → Q (.ref d) H1
def t_law_deck (K : PySem.W.Frag) (c0 : Int) (c1 : Int) : TS :=
    (tSeq (tAsg (tC (.int c0)) (gName 1))
    (tSeq (tFor (iList K (tSl (rSlL K) (tVar 0) tNoPart (tPart (tC (.int 63))))) (gName 2) (tAsg (tOp rMod0 (tCB rInt1 (tCons (tOp rAdd0 (tOp rAdd0 (tOp rMulW (tVar 1) (tC (.int 48271))) (tOp rMod0 (tCB rInt1 (tCons (tVar 2) tNil)) (tC (.int 2147483629)))) (tC (.int c1))) tNil)) (tC (.int 2147483587))) (gName 1)))
    (tRet (tDisp [((tC (.str "cells")), (tRevL K (tCB (rListS K) (tCons (tSl (rSlL K) (tVar 0) tNoPart (tPart (tC (.int 63)))) tNil)))), ((tC (.str "mixed")), (tVar 1)), ((tC (.str "draws")), (tC (.int 0)))]))))
theorem rd_law_deck {c0 c1 : Int} (hc0 : 0 ≤ c0) {vs : List V} {H : Hp} {Q : VK} {E : XK} (h : sp_law_deck K vs H Q E) : t_law_deck K c0 c1 { nx := fun _ H2 => Q .non H2, rt := Q } (start ["script", "mixed", "cell"] vs) H := by
  obtain ⟨a, ns, rfl, hs, hn, k⟩ := h
  obtain ⟨cs, ec, lc⟩ := cut_ints ns none (some 63)
  refine q_asg ev_c fun H1 e1 => ?_
  refine q_forNLn (xs := cs.map V.int) (el_is (el_sl (ev_var rfl) eo_none (eo_some ev_c) (ex_l e1 hs)) ec) (fun p i σ' H' => (∃ (m : Int) (x : Option V), σ' = [some (.ref a), some (.int m), x] ∧ 0 ≤ m) ∧ Ex H1 H' ∧ H' p = some (.lst (cs.map V.int)))
    (fun p H2 hp e2 h2 => ⟨⟨c0, none, rfl, hc0⟩, e2, h2⟩) (fun p i σ' H' _ q => sq_of q.2.2) ?_ ?_
  · rintro p i x σ' H' hx ⟨⟨m, y, rfl, hm⟩, e2, h2⟩
    rw [List.getElem?_map] at hx
    cases q : cs[i]? with
    | none => rw [q] at hx; cases hx
    | some c =>
      rw [q] at hx
      cases hx
      refine s_asg (ev_op (ev_cb (ea_cons (ev_op (ev_op (ev_op (ev_var rfl) ev_c (rv_I mulR)) (ev_op (ev_cb (ea_cons (ev_var rfl) ea_nil) rc_int) ev_c (rv_I (by decide))) rv_I0) ev_c rv_I0) ea_nil) rc_int) ev_c (rv_I (by decide))) fun H3 e3 => ?_
      exact ⟨⟨_, _, rfl, Int.emod_nonneg _ (by decide)⟩, e2.trans e3, e3 _ _ h2⟩
  · rintro p σ' H' ⟨⟨m, y, rfl, hm⟩, e2, h2⟩
    show tRet _ _ _ _
    intro d hd
    -- 'cells': list(script[:63])[::-1]
    have sl : EvL (tSl (rSlL K) (tVar 0) tNoPart (tPart (tC (.int 63)))) [some (V.ref a), some (V.int m), y] H' (cs.map V.int) := el_is (el_sl (ev_var rfl) eo_none (eo_some ev_c) (ex_l (e1.trans e2) hs)) ec
    refine (ev_c : Ev (tC (.str "cells")) [some (V.ref a), some (V.int m), y] H' _) (upd H' d (.dK [])) (Ex.new hd) _ fun H3 e3 => ?_
    have e13 : Ex H' H3 := (Ex.new hd).trans e3
    refine sl H3 e13 _ fun p1 H4 hp1 e4 h4 => ⟨p1, cs.map V.int, rfl, Or.inl (sq_of h4), fun p2 hp2 => ?_⟩
    refine ⟨p2, cs.map V.int, rfl, sq_of upd_same, fun l hl => ?_⟩
    generalize hH5 : upd (upd H4 p2 (.lst (cs.map V.int))) l (.lst (cs.map V.int).reverse) = H5
    have e45 : Ex H4 H5 := by rw [← hH5]; exact (Ex.new hp2).trans (Ex.new hl)
    have l5 : H5 l = some (.lst (cs.reverse.map V.int)) := by rw [← hH5, List.map_reverse]; exact upd_same
    have hl4 : H4 l = none := by
      by_cases q : l = p2
      · rw [q]; exact hp2
      · rw [upd_ne q] at hl; exact hl
    clear hH5
    refine (ev_c : Ev (tC (.str "mixed")) [some (V.ref a), some (V.int m), y] H5 _) H5 (Ex.refl _) _ fun H6 e6 => ?_
    refine (ev_var (i := 1) (v := .int m) rfl : Ev _ [some (V.ref a), some (V.int m), y] H6 _) H6 (Ex.refl _) _ fun H7 e7 => ?_
    refine (ev_c : Ev (tC (.str "draws")) [some (V.ref a), some (V.int m), y] H7 _) H7 (Ex.refl _) _ fun H8 e8 => ?_
    refine (ev_c : Ev (tC (.int 0)) [some (V.ref a), some (V.int m), y] H8 _) H8 (Ex.refl _) _ fun H9 e9 => ?_
    have e59 : Ex H5 H9 := ((e6.trans e7).trans e8).trans e9
    have d9 : H9 d = some (.dK []) := e59 _ _ (e45 _ _ (e4 _ _ (e3 _ _ upd_same)))
    have ll9 := e59 _ _ l5
    have e1' : Ex H H' := e1.trans e2
    refine ⟨d9, kv3 l m 0, rfl, by show 3 ≤ 15; decide, ?_⟩
    rw [kv3_merge]
    have ndl : l ≠ d := ne_of ll9 d9 (by intro z; cases z)
    have hdH : H d = none := fresh_back e1' hd
    have hlH : H l = none := fresh_back (e1'.trans (e13.trans e4)) hl4
    refine k d l _ hdH hlH ⟨cs.reverse, m, 0, upd_same, by rw [upd_ne ndl]; exact ll9, by rw [List.length_reverse]; omega, hm⟩ ?_
    exact Ex.mut (e1'.trans (e13.trans (e4.trans (e45.trans e59)))) hdH
/-! ### pick, below -/
def sp_law_pick : Sp := fun vs H Q _ => ∃ (d l a : Addr) (ns : List Int), vs = [.ref d, .ref a] ∧ H a = some (.lst (ns.map V.int)) ∧ a ≠ l ∧ ns ≠ [] ∧ ns.length ≤ 1000 ∧ Dk H d l ∧ ∀ (r : Int) (H1 : Hp), r ∈ ns → Dk H1 d l → Oth d l H H1 → Q (.int r) H1
def t_law_pick (K : PySem.W.Frag) : TS :=
    (tRet (tOp (rIxL K) (tVar 1) (tCall sp_law_draw [] E0 (tCons (tVar 0) (tCons (tCB (rLenS K) (tCons (tVar 1) tNil)) tNil)))))
theorem rd_law_pick {vs : List V} {H : Hp} {Q : VK} {E : XK} (h : sp_law_pick vs H Q E) : t_law_pick K { nx := fun _ H2 => Q .non H2, rt := Q } (start ["deck", "some"] vs) H := by
  obtain ⟨d, l, a, ns, rfl, ha, hal, hne, hlen, dk, k⟩ := h
  have hp : 1 ≤ ns.length := List.length_pos_iff.mpr hne
  have had : a ≠ d := by
    obtain ⟨c, m, n, h1, _⟩ := dk.ex
    exact ne_of ha h1 (by intro z; cases z)
  refine op_first (ev_var (i := 1) (v := .ref a) rfl) fun H1 e1 => ?_
  refine call_args (ea_cons (ev_var (i := 0) (v := .ref d) rfl) (ea_cons (ev_len (K := K) (ev_var (i := 1) (v := .ref a) rfl) (sq_of (e1 _ _ ha))) ea_nil)) fun H2 e2 => ?_
  refine ⟨d, l, _, rfl, by rw [List.length_map]; omega, ?_, dk.up (e1.trans e2), fun r H3 h0 h1 dk3 o3 => ?_⟩
  · rw [List.length_map]
    have : (1000 : Int) < 2 ^ 8000 := by decide +kernel
    omega
  · rw [List.length_map] at h1
    have hx : (ns.map V.int)[r.toNat]? = some (.int (ns[r.toNat]'(by omega))) := by
      rw [List.getElem?_map, List.getElem?_eq_getElem (by omega)]
      rfl
    refine ⟨a, ns.map V.int, r, _, rfl, rfl, sq_of (o3 a _ had hal (e2 _ _ (e1 _ _ ha))), at_of (by omega) hx, ?_⟩
    exact k _ H3 (List.getElem_mem _) dk3 ((Oth.ex (e1.trans e2)).trans o3)
/-- _law_pick(deck, [..]) -/
theorem en_pick {H0 : Hp} {d l : Addr} {σ : L2.St} {ta : TE} {tb : TA} {P : List V → Prop} (ha : Ev ta σ H0 (.ref d)) (hb : EvNA d l tb σ H0 P) (hP : ∀ vs, P vs → ∃ ns : List Int, vs = ns.map V.int ∧ ns ≠ [] ∧ ns.length ≤ 1000) :
    EvN d l (tCall sp_law_pick [] E0 (tCons ta (tCons (tLst tb) tNil))) σ H0 (fun v => ∃ (ns : List Int) (r : Int), P (ns.map V.int) ∧ v = .int r ∧ r ∈ ns) := fun H w Q q =>
  ha H w.ex _ fun H1 e1 => hb H1 (w.up e1) _ fun vs H2 p w2 => by
    obtain ⟨ns, rfl, hne, hlen⟩ := hP vs p
    refine ⟨sz_of (by rw [List.length_map]; omega), fun a hp => ?_⟩
    obtain ⟨c, m, n, g1, g2, _⟩ := w2.dk.ex
    refine ⟨d, l, a, ns, rfl, upd_same, (ne_of_none g2 hp).symm, hne, hlen, w2.dk.up (Ex.new hp), fun r H3 hr dk3 o3 => ?_⟩
    exact q _ H3 ⟨ns, r, p, rfl, hr⟩ ((w2.up (Ex.new hp)).oth o3 dk3)
theorem ints_inj : ∀ {ns ms : List Int}, ns.map V.int = ms.map V.int → ns = ms
  | [], [], _ => rfl
  | [], _ :: _, h => by cases h
  | _ :: _, [], h => by cases h
  | a :: ns, b :: ms, h => by
    injection h with h1 h2
    injection h1 with h3
    rw [h3, ints_inj h2]
theorem en_pickL {H0 : Hp} {d l : Addr} {σ : L2.St} {ta : TE} {tb : TA} (ms : List Int) (ha : Ev ta σ H0 (.ref d)) (hb : EvA tb σ H0 (ms.map V.int)) (hne : ms ≠ []) (hlen : ms.length ≤ 1000) :
    EvN d l (tCall sp_law_pick [] E0 (tCons ta (tCons (tLst tb) tNil))) σ H0 (fun v => ∃ r : Int, v = .int r ∧ r ∈ ms) :=
  en_imp (en_pick ha (ena_ev hb) (fun vs hv => ⟨ms, hv, hne, hlen⟩)) fun v hv => by
    obtain ⟨ns, r, h1, h2, h3⟩ := hv
    rw [ints_inj h1] at h3
    exact ⟨r, h2, h3⟩
def sp_law_below : Sp := fun vs H Q _ => ∃ (d l : Addr) (many : Int), vs = [.ref d, .int many] ∧ 1 ≤ many ∧ Dk H d l ∧ ∀ (r : Int) (H1 : Hp), 0 ≤ r → r < many → Dk H1 d l → Oth d l H H1 → Q (.int r) H1
theorem en_below {H0 : Hp} {d l : Addr} {σ : L2.St} {ta tb : TE} {P : Int → Prop} (ha : Ev ta σ H0 (.ref d)) (hb : EvN d l tb σ H0 (fun v => ∃ many : Int, v = .int many ∧ P many)) (h1 : ∀ many, P many → 1 ≤ many) :
    EvN d l (tCall sp_law_below [] E0 (tCons ta (tCons tb tNil))) σ H0 (fun v => ∃ many r : Int, P many ∧ v = .int r ∧ 0 ≤ r ∧ r < many) :=
  en_call (ena_cons (en_ev ha) (ena_cons hb ena_nil)) fun vs H hv w Q q => by
    obtain ⟨x, r, rfl, rfl, y, r2, rfl, ⟨many, rfl, pm⟩, rfl⟩ := hv
    exact ⟨d, l, many, rfl, h1 _ pm, w.dk, fun r H1 a b c o => q _ H1 ⟨many, r, pm, rfl, a, b⟩ (w.oth o c)⟩
def t_law_below (K : PySem.W.Frag) : TS :=
    (tSeq (tAsg (tC (.int 0)) (gName 2))
    (tSeq (tFor (iRng1 (tCons (tC (.int 5)) tNil)) (gName 3) (tAsg (tOp rAdd0 (tOp rMulW (tVar 2) (tC (.int 1000000))) (tCall sp_law_draw [] E0 (tCons (tVar 0) (tCons (tC (.int 1000000)) tNil)))) (gName 2)))
    (tRet (tOp rMod0 (tCB rInt1 (tCons (tVar 2) tNil)) (tVar 1)))))
theorem rd_law_below {vs : List V} {H : Hp} {Q : VK} {E : XK} (h : sp_law_below vs H Q E) : t_law_below K { nx := fun _ H2 => Q .non H2, rt := Q } (start ["deck", "many", "great", "turn"] vs) H := by
  obtain ⟨d, l, many, rfl, h1, dk, k⟩ := h
  refine q_asg ev_c fun H1 e1 => ?_
  refine q_forR1 (ea_cons ev_c ea_nil) ⟨by decide, by decide⟩ (fun i σ' H' => (∃ (g : Int) (x : Option V), σ' = [some (.ref d), some (.int many), some (.int g), x]) ∧ Dk H' d l ∧ Oth d l H H') (fun H2 e2 => ⟨⟨0, none, rfl⟩, dk.up (e1.trans e2), Oth.ex (e1.trans e2)⟩) ?_ ?_
  · rintro i σ' H' hi ⟨⟨g, x, rfl⟩, dk1, o1⟩
    -- great = great * 1000000 + _law_draw(deck, 1000000)
    refine op_first (ev_op (ev_var (i := 2) (v := .int g) rfl) ev_c (rv_I mulR)) fun H2 e2 => ?_
    refine call_args (ea_cons (ev_var (i := 0) (v := .ref d) rfl) (ea_cons ev_c ea_nil)) fun H3 e3 => ?_
    refine ⟨d, l, 1000000, rfl, by decide, by decide +kernel, dk1.up (e2.trans e3), fun r H4 r0 r1 dk4 o4 => ?_⟩
    exact ⟨_, _, rfl, rfl, ⟨_, _, rfl⟩, dk4, (o1.trans (Oth.ex (e2.trans e3))).trans o4⟩
  · rintro σ' H' ⟨⟨g, x, rfl⟩, dk1, o1⟩
    refine s_ret (ev_op (ev_cb (ea_cons (ev_var rfl) ea_nil) rc_int) (ev_var rfl) (rv_I (by omega))) fun H2 e2 => ?_
    exact k _ H2 (Int.emod_nonneg _ (by omega)) (Int.emod_lt_of_pos _ (by omega)) (dk1.up e2) (o1.trans (Oth.ex e2))
/-! ### the law's own choose: naturals -/
def sp_law_choose : Sp := fun vs H Q _ => ∃ m s : Nat, vs = [.int m, .int s] ∧ s ≤ 64 ∧ m < 2 ^ big ∧ RetV (.int (ch m s : Nat)) H Q
theorem sv_law_choose {m s : Nat} {H : Hp} (hs : s ≤ 64) (hm : m < 2 ^ big) : SpV sp_law_choose [.int m, .int s] H (.int (ch m s : Nat)) := fun H1 _ Q q E => ⟨m, s, rfl, hs, hm, fun H2 e => q H2 e⟩
def t_law_choose (K : PySem.W.Frag) : TS :=
    (tSeq (tAsg (tC (.int 1)) (gName 2))
    (tSeq (tFor (iRng1 (tCons (tCB rMin2 (tCons (tVar 0) (tCons (tVar 1) tNil))) tNil)) (gName 3) (tAsg (tOp rDivW (tOp rMulW (tVar 2) (tOp rSub0 (tVar 0) (tVar 3))) (tOp rAdd0 (tVar 3) (tC (.int 1)))) (gName 2)))
    (tRet (tIf (tTest (tOp rGe0 (tVar 0) (tVar 1))) (tVar 2) (tC (.int 0))))))
theorem rd_law_choose {vs : List V} {H : Hp} {Q : VK} {E : XK} (h : sp_law_choose vs H Q E) : t_law_choose K { nx := fun _ H2 => Q .non H2, rt := Q } (start ["a", "b", "found", "k"] vs) H := by
  obtain ⟨m, s, rfl, hs, hm, k⟩ := h
  refine q_asg ev_c fun H1 e1 => ?_
  have emin : (if (s : Int) < (m : Int) then (s : Int) else (m : Int)) = ((min m s : Nat) : Int) := by
    by_cases q : s < m
    · rw [if_pos (by omega)]; omega
    · rw [if_neg (by omega)]; omega
  refine q_forR1 (ea_cons (ev_is (ev_cb (ea_cons (ev_var rfl) (ea_cons (ev_var rfl) ea_nil)) rc_min2) (by rw [emin])) ea_nil) ⟨by omega, by omega⟩ (fun i σ' H' => (∃ x, σ' = [some (.int (m : Int)), some (.int (s : Int)), some (.int (ch m i : Int)), x]) ∧ Ex H1 H') (fun H3 e3 => ⟨⟨none, by rw [ch_zero]; rfl⟩, e3⟩) ?_ ?_
  · rintro i σ' H' hi ⟨⟨x, rfl⟩, e3⟩
    have hi1 : i < m := by omega
    have hi2 : i < s := by omega
    have e4 : (m : Int) - (i : Int) = ((m - i : Nat) : Int) := by omega
    have e5 : (i : Int) + 1 = ((i + 1 : Nat) : Int) := by omega
    have e6 : ((ch m i : Nat) : Int) * ((m - i : Nat) : Int) / ((i + 1 : Nat) : Int) = (ch m (i + 1) : Int) := by
      rw [← Int.natCast_mul, ← ch_mul, ← Int.natCast_ediv, Nat.mul_div_cancel _ (by omega)]
    refine s_asg (v := .int (ch m (i + 1) : Int)) (ev_is (ev_op (ev_op (ev_var rfl) (ev_op (ev_var rfl) (ev_var rfl) rv_I0) (rv_I ?_)) (ev_op (ev_var rfl) ev_c rv_I0) (rv_I ?_)) ?_) fun H3 e7 => ?_
    · rw [e4]
      exact mulW (a := big * 64 + 1) (b := big) (ch_bits hm (by omega)) (by omega)
    · rw [e5]
      exact divW (b := 7) (by omega) (by omega)
    · rw [e4, e5, e6]
    · exact ⟨⟨_, rfl⟩, e3.trans e7⟩
  · rintro σ' H' ⟨⟨x, rfl⟩, e3⟩
    refine s_ret (v := .int (ch m s : Nat)) (ev_if (et_test (ev_op (ev_var rfl) (ev_var rfl) rv_I0)) (fun hb => ?_) (fun hb => ?_)) fun H3 e4 => k H3 ((e1.trans e3).trans e4)
    · have hle : s ≤ m := by have := of_decide_eq_true hb; omega
      have e0 : ((min m s : Nat) : Int).toNat = s := by omega
      rw [e0]
      exact ev_var rfl
    · have hlt : m < s := by have := of_decide_eq_false hb; omega
      rw [ch_lt hlt]
      exact ev_c
/-- _law_choose(a, b) of naturals -/
theorem evl_choose {σ : L2.St} {H : Hp} {ta tb : TE} {m s : Nat} (ha : Ev ta σ H (.int m)) (hb : Ev tb σ H (.int s)) (hs : s ≤ 64) (hm : m < 2 ^ big) : Ev (tCall sp_law_choose [] E0 (tCons ta (tCons tb tNil))) σ H (.int (ch m s : Nat)) :=
  ev_call (ea_cons ha (ea_cons hb ea_nil)) (sv_law_choose hs hm)

/-! ### from a def's own heap: what is not the deck -/
def hid (H : Hp) (d l : Addr) : Hp := fun b => if b = d ∨ b = l then none else H b
theorem hid_at {H : Hp} {d l b : Addr} (h1 : b ≠ d) (h2 : b ≠ l) : hid H d l b = H b := if_neg fun q => q.elim h1 h2
theorem W.start {H : Hp} {d l : Addr} (k : Dk H d l) : W (hid H d l) d l H := by
  refine ⟨fun b o h => ?_, k, if_pos (Or.inl rfl), if_pos (Or.inr rfl)⟩
  unfold hid at h
  split at h
  · cases h
  · exact h
theorem W.done {H H0 H1 : Hp} {d l : Addr} (w : W H0 d l H1) (e : Ex (hid H d l) H0) : Oth d l H H1 := fun b o h1 h2 h => w.ex b o (e b o (by rw [hid_at h1 h2]; exact h))
section
variable {H0 : Hp} {d l : Addr} {σ : L2.St} {ta : TA} {tu tz : TS} {D : Ends} {H : Hp}
/-- for x in range(a, drawn, -1) -/
theorem k_forDown {j : Nat} {a : Int} (h : EvNA d l ta σ H0 (fun vs => ∃ b : Int, vs = [.int a, .int b, .int (-1)] ∧ 0 ≤ b ∧ b ≤ 100000)) (ha : 0 ≤ a ∧ a ≤ 100000) (w : W H0 d l H) (Pv : Nat → L2.St → Hp → Prop)
    (h0 : ∀ H1, W H0 d l H1 → Pv 0 σ H1) (hs : ∀ (i : Nat) σ' H', (i : Int) < a → Pv i σ' H' → tu { D with nx := Pv (i + 1), ct := Pv (i + 1), bk := tz D } (σ'.set j (some (.int (a - i)))) H')
    (hd : ∀ n σ' H', Pv n σ' H' → tz D σ' H') : tSeq (tFor (iRng3 ta) (gName j) tu) tz D σ H :=
  h H w _ fun vs H1 hv w1 => by
    obtain ⟨b, rfl, hb0, hb1⟩ := hv
    refine ⟨a, b, -1, (a - b).toNat, rfl, RgC.neg (by omega) (by omega) (by omega) (by omega), ?_⟩
    refine for_rangeC (D := { D with nx := tz D }) Pv (h0 H1 w1) (fun i σ' H' hi p => ?_) (fun σ' H' p => hd _ σ' H' p)
    have e : a + (i : Nat) * (-1) = a - (i : Int) := by omega
    show tu { D with nx := Pv (i + 1), ct := Pv (i + 1), bk := tz D } (σ'.set j (some (.int (a + (i : Nat) * (-1))))) H'
    rw [e]
    exact hs i σ' H' (by omega) p
end
end HD

namespace HR
/-! ### numbers of sets, reckoned -/
def ff (n : Nat) : Nat → Nat
  | 0 => 1
  | k + 1 => ff n k * (n - k)
def fac : Nat → Nat
  | 0 => 1
  | k + 1 => fac k * (k + 1)
theorem ch_ff (n : Nat) : ∀ k, ch n k * fac k = ff n k
  | 0 => by simp [fac, ff]
  | k + 1 => by
    show ch n (k + 1) * (fac k * (k + 1)) = ff n k * (n - k)
    rw [← ch_ff n k, Nat.mul_comm (fac k), ← Nat.mul_assoc, ch_mul, Nat.mul_right_comm]
theorem fac_pos : ∀ k, 0 < fac k
  | 0 => by decide
  | k + 1 => Nat.mul_pos (fac_pos k) (by omega)
theorem ch_div (n k : Nat) : ch n k = ff n k / fac k := by
  rw [← ch_ff, Nat.mul_div_cancel _ (fac_pos k)]
theorem LS_size1 (n : Nat) (h : 1 ≤ n) : LS n 1 = 1 := by
  have := LS_ch (s := 0) (a := n) (by omega)
  simpa using this
theorem cas_ch {s a : Nat} (hs : 1 ≤ s) (ha : s ≤ a) : cas s (ch a s) = [a] := by
  have h : IsCas s [a] := by
    cases s with
    | zero => omega
    | succ s => exact ⟨ha, (fun b hb => by cases hb), isCas_nil s⟩
  have e : val s [a] = ch a s := by show ch a s + 0 = ch a s; omega
  rw [← e]
  exact h.uniq
theorem US_ch {s a : Nat} (hs : 1 ≤ s) (ha : s ≤ a) : US (ch a s) s = ch a (s + 1) := by unfold US; rw [cas_ch hs ha]; show ch a (s + 1) + 0 = _; omega
theorem UP_ch {s a : Nat} (hs : 1 ≤ s) (ha : s ≤ a) : UP (ch a s) s = ch (a + 1) (s + 1) := by unfold UP; rw [cas_ch hs ha]; show ch (a + 1) (s + 1) + 0 = _; omega
/-! ### both kinds -/
def Lo (w n s : Nat) : Nat := if w = 0 then LS n s else LP n s
def Up (w n s : Nat) : Nat := if w = 0 then US n s else UP n s
theorem gal {w n m s : Nat} (hs : 1 ≤ s) : Lo w m (s + 1) ≤ n ↔ m ≤ Up w n s := by
  unfold Lo Up
  by_cases h : w = 0
  · rw [if_pos h, if_pos h]; exact galS hs
  · rw [if_neg h, if_neg h]; exact galP hs
theorem Lo_mono {w n m s : Nat} (hs : 1 ≤ s) (h : n ≤ m) : Lo w n s ≤ Lo w m s := by
  unfold Lo
  by_cases q : w = 0
  · rw [if_pos q, if_pos q]; exact LS_mono hs h
  · rw [if_neg q, if_neg q]; exact LP_mono hs h
theorem Up_mono {w n m s : Nat} (hs : 1 ≤ s) (h : n ≤ m) : Up w n s ≤ Up w m s := by
  unfold Up
  by_cases q : w = 0
  · rw [if_pos q, if_pos q]; exact US_mono hs h
  · rw [if_neg q, if_neg q]; exact UP_mono hs h
theorem UpLoUp {w n s : Nat} (hs : 1 ≤ s) : Up w (Lo w (Up w n s) (s + 1)) s = Up w n s := by
  have h1 : Lo w (Up w n s) (s + 1) ≤ n := (gal hs).mpr (Nat.le_refl _)
  have h2 := Up_mono (w := w) hs h1
  have h3 : Up w n s ≤ Up w (Lo w (Up w n s) (s + 1)) s := (gal hs).mp (Nat.le_refl _)
  omega
theorem LoUpLo {w m s : Nat} (hs : 1 ≤ s) : Lo w (Up w (Lo w m (s + 1)) s) (s + 1) = Lo w m (s + 1) := by
  have h1 : m ≤ Up w (Lo w m (s + 1)) s := (gal hs).mp (Nat.le_refl _)
  have h2 := Lo_mono (w := w) (s := s + 1) (by omega) h1
  have h3 : Lo w (Up w (Lo w m (s + 1)) s) (s + 1) ≤ Lo w m (s + 1) := (gal hs).mpr (Nat.le_refl _)
  omega
/-! ### a further item -/
theorem IsCas.snoc : ∀ {s : Nat} {l : List Nat} {x : Nat}, IsCas s l → l.length < s → s - l.length ≤ x → (∀ b, l.getLast? = some b → x < b) → IsCas s (l ++ [x])
  | 0, _, _, _, h, _, _ => by omega
  | s + 1, [], x, _, _, hx, _ => ⟨hx, (fun b hb => by cases hb), isCas_nil s⟩
  | s + 1, a :: l, x, h, hl, hx, hb => by
    have hl' : l.length < s := by rw [List.length_cons] at hl; omega
    have hx' : s - l.length ≤ x := by rw [List.length_cons] at hx; omega
    refine ⟨h.1, fun b e => ?_, IsCas.snoc h.2.2 hl' hx' fun b e => hb b ?_⟩
    · cases l with
      | nil =>
        have e' : some x = some b := e
        cases e'
        exact hb a rfl
      | cons c l => exact h.2.1 b e
    · cases l with
      | nil => cases e
      | cons c l => rw [List.getLast?_cons_cons]; exact e
end HR

/-! Drawing beside a list that grows; drawn cascades. -/
namespace HM
open PySem PySem.Spec PyProof.Rows L2 Evl HG HL HC HR HN HP HCas HD
variable {K : PySem.W.Frag}
section
variable {H00 H0 H H1 : Hp} {d l f : Addr} {σ : L2.St} {ta : TA} {te tb : TE} {t : TT} {tu tw tz : TS} {D : Ends} {P : V → Prop} {R : Bool → Prop}
theorem W.put {o u : HO} (w : W (upd H00 f o) d l H) : W (upd H00 f u) d l (upd H f u) := by
  obtain ⟨fd, fl⟩ := w.ner (p := f) (o := o) upd_same
  obtain ⟨c, m, n, h1, h2, h3, h4⟩ := w.dk.ex
  refine ⟨fun b x h => ?_, ⟨c, m, n, by rw [upd_ne (Ne.symm fd)]; exact h1, by rw [upd_ne (Ne.symm fl)]; exact h2, h3, h4⟩, ?_, ?_⟩
  · by_cases q : b = f
    · subst q
      rw [upd_same] at h ⊢
      exact h
    · rw [upd_ne q] at h ⊢
      exact w.ex b x (by rw [upd_ne q]; exact h)
  · have := w.nd
    rw [upd_ne (Ne.symm fd)] at this ⊢
    exact this
  · have := w.nl
    rw [upd_ne (Ne.symm fl)] at this ⊢
    exact this
/-- a new list of what is drawn -/
theorem k_asgL {i : Nat} {R : List V → Prop} (h : EvNA d l ta σ H0 R) (w : W H0 d l H) (hl : ∀ vs, R vs → vs.length ≤ 100000) (k : ∀ p vs H1, R vs → H0 p = none → W (upd H0 p (.lst vs)) d l H1 → tz D (σ.set i (some (.ref p))) H1) : tSeq (tAsg (tLst ta) (gName i)) tz D σ H :=
  h H w _ fun vs H1 hv w1 => ⟨sz_of (hl vs hv), fun p hp => k p vs _ hv (w1.free hp) (w1.new hp (Ex.new hp) upd_same)⟩
/-- x.append(..) of what is drawn -/
theorem k_app1 {xs : List V} (hf : Ev te σ (upd H00 f (.lst xs)) (.ref f)) (h : EvN d l tb σ (upd H00 f (.lst xs)) P) (w : W (upd H00 f (.lst xs)) d l H) (hz : xs.length ≤ 40000)
    (k : ∀ v H1, P v → W (upd H00 f (.lst (xs ++ [v]))) d l H1 → D.nx σ H1) : tDrop (tBM K "list" rAppend te (tCons tb tNil)) D σ H :=
  hf H w.ex _ fun H1 e1 => by
    have w1 := w.up e1
    have hx : H1 f = some (.lst xs) := w1.ex f _ upd_same
    refine ⟨.inl ⟨rfl, xs, sq_of hx⟩, ?_⟩
    refine h H1 w1 _ fun v H2 hv w2 => ?_
    exact ⟨f, xs, v, rfl, rfl, w2.ex f _ upd_same, sz_lt (by omega), k v _ hv (W.put w2)⟩
/-- the two ways meet again -/
theorem k_whenM (Mid : L2.St → Hp → Prop) (h : EvNT d l t σ H0 R) (w : W H0 d l H) (h1 : R true → ∀ H1, W H0 d l H1 → ∀ Nx : L2.St → Hp → Prop, (∀ σ' H', Mid σ' H' → Nx σ' H') → tu { D with nx := Nx } σ H1) (h2 : R false → ∀ H1, W H0 d l H1 → Mid σ H1) (k : ∀ σ' H', Mid σ' H' → tz D σ' H') : tSeq (tIfS t tu tNext) tz D σ H :=
  k_when h w (fun r H1 w1 => h1 r H1 w1 (tz D) k) fun r H1 w1 => k σ H1 (h2 r H1 w1)
/-- tuple(list) -/
theorem s_retTup {xs : List V} {p : Addr} (h : Ev te σ H (.ref p)) (hx : SqL K H p xs) (k : ∀ q H1, H q = none → Ex H H1 → H1 q = some (.tup xs) → D.rt (.ref q) H1) : tRet (tCB (rTupleOf K) (tCons te tNil)) D σ H :=
  h H (Ex.refl H) _ fun H1 e1 => ⟨p, xs, rfl, .inl ⟨ex_l e1 hx, fun q hq => k q _ (fresh_back e1 hq) (e1.trans (Ex.new hq)) upd_same⟩⟩
end
/-! ### a drawn cascade -/
/-- what the law's cascades are: t bounds the items -/
structure Good (t s : Nat) (c : List Nat) : Prop where
  cas : IsCas s c
  le : ∀ b ∈ c, b ≤ t
  ne : c ≠ []
def t_casc (K : PySem.W.Frag) : TS :=
    (tSeq (tAsg (tLst (tCons (tOp rAdd0 (tVar 1) (tCall sp_law_below [] E0 (tCons (tVar 0) (tCons (tOp rAdd0 (tOp rSub0 (tVar 3) (tVar 1)) (tC (.int 1))) tNil)))) tNil)) (gName 4))
    (tSeq (tFor (iRng3 (tCons (tOp rSub0 (tVar 1) (tC (.int 1))) (tCons (tCall sp_law_draw [] E0 (tCons (tVar 0) (tCons (tVar 1) tNil))) (tCons (tUn rNeg (tC (.int 1))) tNil)))) (gName 5) (tSeq (tPar 6 7 (tCons (tCall sp_law_draw [] E0 (tCons (tVar 0) (tCons (tC (.int 4)) tNil))) (tCons (tOp (rIxL K) (tVar 4) (tUn rNeg (tC (.int 1)))) tNil)))
    (tIfS (tTest (tOp rEq (tVar 6) (tC (.int 0)))) (tDrop (tBM K "list" rAppend (tVar 4) (tCons (tOp rSub0 (tVar 7) (tC (.int 1))) tNil))) (tIfS (tTest (tOp rEq (tVar 6) (tC (.int 1)))) (tDrop (tBM K "list" rAppend (tVar 4) (tCons (tVar 5) tNil))) (tDrop (tBM K "list" rAppend (tVar 4) (tCons (tOp rAdd0 (tVar 5) (tCall sp_law_below [] E0 (tCons (tVar 0) (tCons (tCB rMin2 (tCons (tOp rSub0 (tVar 7) (tVar 5)) (tCons (tCall sp_law_pick [] E0 (tCons (tVar 0) (tCons (tLst (tCons (tC (.int 3)) (tCons (tOp rPow0 (tC (.int 10)) (tC (.int 30))) tNil))) tNil))) tNil))) tNil)))) tNil)))))))
    (tRet (tCB (rTupleOf K) (tCons (tVar 4) tNil)))))
theorem isCas_item : ∀ {s : Nat} {c : List Nat} {a : Nat}, IsCas s c → c.head? = some a → ∀ b ∈ c, b ≤ a
  | _, [], _, _, h, _, _ => by cases h
  | 0, _ :: _, _, h, _, _, _ => h.elim
  | s + 1, x :: c, a, h, hh, b, hb => by
    have e : x = a := by simpa using hh
    subst e
    rcases List.mem_cons.mp hb with q | q
    · omega
    · cases c with
      | nil => cases q
      | cons y c =>
        have h1 := h.2.1 y rfl
        have h2 := isCas_item h.2.2 rfl b q
        omega
theorem last_get {L : List Nat} {la : Nat} : atI (nats (L ++ [la])) (-1) = some (.int la) := by
  have e : nats (L ++ [la]) = nats L ++ [V.int (la : Int)] := by simp [nats]
  rw [e]
  exact atI_last _ _
theorem W.drop {H0 H : Hp} {d l f : Addr} {o : HO} (w : W (upd H0 f o) d l H) (hf : H0 f = none) : W H0 d l H := by
  refine ⟨(Ex.new hf).trans w.ex, w.dk, ?_, ?_⟩
  · obtain ⟨fd, fl⟩ := w.ner (p := f) (o := o) upd_same
    have := w.nd
    rw [upd_ne (Ne.symm fd)] at this
    exact this
  · obtain ⟨fd, fl⟩ := w.ner (p := f) (o := o) upd_same
    have := w.nl
    rw [upd_ne (Ne.symm fl)] at this
    exact this
theorem ea_is {σ : L2.St} {H : Hp} {ta : TA} {vs ws : List V} (h : EvA ta σ H vs) (e : vs = ws) : EvA ta σ H ws := e ▸ h
theorem rd_casc {d l : Addr} {s t g : Nat} {H0 H : Hp} {x2 : Option V} {Q : VK} (h1 : 1 ≤ s) (h2 : s ≤ 60) (g0 : s ≤ g) (g1 : g ≤ t) (w : W H0 d l H)
    (k : ∀ p c H1 H2, Good t s c → W H0 d l H1 → H1 p = none → Ex H1 H2 → TupN H2 p c → Q (.ref p) H2) :
    t_casc K { nx := fun _ H2 => Q .non H2, rt := Q } [some (.ref d), some (.int s), x2, some (.int g), none, none, none, none] H := by
  have sm : ∀ m : Int, m ≤ 10 ^ 16 → m < 2 ^ 8000 := fun m h => by
    have : (10 : Int) ^ 16 < 2 ^ 8000 := by decide +kernel
    omega
  refine k_asgL (R := fun vs => ∃ a : Nat, vs = nats [a] ∧ s ≤ a ∧ a ≤ t) (fun H' w' Q' q => (ena_cons (en_op (P1 := fun v => v = .int (s : Int)) (P := fun v => ∃ a : Nat, v = .int (a : Int) ∧ s ≤ a ∧ a ≤ t) (en_ev (ev_var rfl)) (en_below (P := fun m => m = (g : Int) - (s : Int) + 1) (ev_var rfl) (en_imp (en_ev (ev_op (ev_op (ev_var rfl) (ev_var rfl) rv_I0) ev_c rv_I0)) fun v hv => ⟨_, hv, rfl⟩) (fun m hm => by omega)) (by
    rintro x y rfl ⟨m, r, rfl, rfl, r0, r1⟩
    exact ⟨_, rv_I0, s + r.toNat, by congr 1; omega, by omega, by omega⟩)) ena_nil) H' w' Q' fun vs H'' hv w'' => q vs H'' (by
      obtain ⟨x, r, rfl, ⟨a, rfl, h⟩, rfl⟩ := hv
      exact ⟨a, rfl, h⟩) w'') w (fun vs hv => by obtain ⟨a, rfl, _⟩ := hv; show 1 ≤ 100000; decide) fun f vs H2 hv hf W1 => ?_
  obtain ⟨a, rfl, a0, a1⟩ := hv
  have es : (s : Int) - 1 = ((s - 1 : Nat) : Int) := by omega
  have IC : IsCas s [a] := by
    obtain ⟨s', rfl⟩ : ∃ s', s = s' + 1 := ⟨s - 1, by omega⟩
    exact ⟨a0, (fun b hb => by cases hb), isCas_nil _⟩
  refine k_forDown (a := ((s - 1 : Nat) : Int)) (fun H' w Q' q => (ena_cons (en_ev (ev_is (ev_op (ev_var rfl) ev_c rv_I0) (by rw [es]))) (ena_cons (en_draw (many := (s : Int)) (ev_var rfl) (en_ev (ev_var rfl)) (by omega) (sm _ (by omega))) (ena_ev (ea_cons (ev_un ev_c ru_neg) ea_nil)))) H' w Q' fun vs H'' hv w' => q vs H'' (by
      obtain ⟨x, r, rfl, rfl, y, r2, rfl, ⟨b, rfl, b0, b1⟩, rfl⟩ := hv
      exact ⟨b, rfl, b0, by omega⟩) w') (by omega) W1
    (fun i σ' H' => ∃ (L0 : List Nat) (la : Nat) (x5 x6 x7 : Option V), σ' = [some (.ref d), some (.int (s : Int)), x2, some (.int (g : Int)), some (.ref f), x5, x6, x7] ∧ IsCas s (L0 ++ [la]) ∧ (L0 ++ [la]).length = i + 1 ∧ (∀ b ∈ L0 ++ [la], b ≤ t) ∧ s - i ≤ la ∧ W (upd H0 f (.lst (nats (L0 ++ [la])))) d l H')
    (fun H7 W7 => ⟨[], a, none, none, none, rfl, IC, rfl, fun b hb => by rw [List.mem_singleton.mp hb]; exact a1, a0, W7⟩) ?_ ?_
  · rintro i σ' H7 hi ⟨L0, la, x5, x6, x7, rfl, hL, hlen, hle, hla, W7⟩
    have hi' : i < s - 1 := by omega
    have el : ((s - 1 : Nat) : Int) - (i : Int) = ((s - 1 - i : Nat) : Int) := by omega
    rw [el]
    generalize hlf : s - 1 - i = left
    have hf7 : upd H0 f (.lst (nats (L0 ++ [la]))) f = some (.lst (nats (L0 ++ [la]))) := upd_same
    -- way, ahead = _law_draw(deck, 4), found[-1]
    refine k_par (ena_cons (en_draw (many := 4) (ev_var rfl) (en_ev ev_c) (by decide) (sm _ (by decide))) (ena_ev (ea_cons (ev_op (ev_var rfl) (ev_un ev_c ru_neg) (rv_ixL (sq_of hf7) last_get)) ea_nil))) W7 (fun vs hv => by obtain ⟨x, r, rfl, _, rfl⟩ := hv; exact ⟨_, _, rfl⟩) fun u v H8 hv W8 => ?_
    obtain ⟨x, r, he, ⟨way, rfl, w0, w1⟩, rfl⟩ := hv
    injection he with ea eb
    injection eb with eb _
    subst ea eb
    have step : ∀ (b : Nat) (H9 : Hp) (y6 y7 : Option V), left ≤ b → b < la → W (upd H0 f (.lst (nats (L0 ++ [la]) ++ [.int b]))) d l H9 → ∃ (L1 : List Nat) (lb : Nat) (x5 x6 x7 : Option V), [some (V.ref d), some (V.int (s : Int)), x2, some (V.int (g : Int)), some (V.ref f), some (V.int (left : Int)), y6, y7] = [some (V.ref d), some (V.int (s : Int)), x2, some (V.int (g : Int)), some (V.ref f), x5, x6, x7] ∧ IsCas s (L1 ++ [lb]) ∧ (L1 ++ [lb]).length = (i + 1) + 1 ∧ (∀ b ∈ L1 ++ [lb], b ≤ t) ∧ s - (i + 1) ≤ lb ∧ W (upd H0 f (.lst (nats (L1 ++ [lb])))) d l H9 := by
      intro b H9 y6 y7 b0 b1 W9
      refine ⟨L0 ++ [la], b, _, _, _, rfl, hL.snoc (by omega) (by omega) (fun z hz => ?_), by rw [List.length_append, hlen]; rfl, ?_, by omega, ?_⟩
      · rw [List.getLast?_append] at hz
        have : la = z := by simpa using hz
        omega
      · intro z hz
        rcases List.mem_append.mp hz with q | q
        · exact hle z q
        · rw [List.mem_singleton.mp q]
          have := hle la (List.mem_append.mpr (.inr (List.mem_singleton.mpr rfl)))
          omega
      · have e8 : nats (L0 ++ [la]) ++ [V.int (b : Nat)] = nats ((L0 ++ [la]) ++ [b]) := by simp [nats]
        rw [← e8]
        exact W9
    refine k_if1 (ent_ev (et_test (ev_op (ev_var rfl) ev_c (rv_eq rfl)))) W8 (fun _ H9 W9 => ?_) (fun _ H9 W9 => ?_)
    · refine k_app1 (P := fun v => v = .int ((la : Int) - 1)) (ev_var rfl) (en_ev (ev_op (ev_var rfl) ev_c rv_I0)) W9 (by rw [List.length_map, hlen]; omega) fun v HA hv WA => ?_
      subst hv
      have e1 : (la : Int) - 1 = ((la - 1 : Nat) : Int) := by omega
      rw [e1] at WA
      exact step (la - 1) HA _ _ (by omega) (by omega) WA
    refine k_if1 (ent_ev (et_test (ev_op (ev_var rfl) ev_c (rv_eq rfl)))) W9 (fun _ HA WA => ?_) (fun _ HA WA => ?_)
    · refine k_app1 (P := fun v => v = .int (left : Int)) (ev_var rfl) (en_ev (ev_var rfl)) WA (by rw [List.length_map, hlen]; omega) fun v HB hv WB => ?_
      subst hv
      exact step left HB _ _ (Nat.le_refl _) (by omega) WB
    · refine k_app1 (P := fun v => ∃ b : Nat, v = .int (b : Int) ∧ left ≤ b ∧ b < la) (ev_var rfl) (en_op (P1 := fun v => v = .int (left : Int)) (en_ev (ev_var rfl)) (en_below (P := fun m => 1 ≤ m ∧ m ≤ (la : Int) - left) (ev_var rfl) (en_cb (ena_cons (en_ev (ev_op (ev_var rfl) (ev_var rfl) rv_I0)) (ena_cons (en_pickL [3, 10 ^ 30] (ev_var rfl) (ea_is (ea_cons ev_c (ea_cons (ev_op ev_c ev_c (rv_I ⟨by decide, by decide, by decide⟩)) ea_nil)) (by decide +kernel)) (by simp) (by simp)) ena_nil)) ?_) (fun m hm => hm.1)) ?_) WA (by rw [List.length_map, hlen]; omega) fun v HB hv WB => ?_
      · rintro vs ⟨x, r, rfl, rfl, y, r2, rfl, ⟨z, rfl, hz⟩, rfl⟩
        refine ⟨_, rc_min2, ?_⟩
        have hz1 : 3 ≤ z := by
          simp only [List.mem_cons, List.not_mem_nil, or_false] at hz
          rcases hz with q | q
          · omega
          · rw [q]; decide +kernel
        by_cases q : z < (la : Int) - (left : Int)
        · rw [if_pos q]
          exact ⟨_, rfl, by omega, by omega⟩
        · rw [if_neg q]
          exact ⟨_, rfl, by omega, by omega⟩
      · rintro x y rfl ⟨m, r, ⟨m0, m1⟩, rfl, r0, r1⟩
        exact ⟨_, rv_I0, left + r.toNat, by congr 1; omega, by omega, by omega⟩
      · obtain ⟨b, rfl, b0, b1⟩ := hv
        exact step b HB _ _ b0 b1 WB
  · rintro i σ' H7 ⟨L0, la, x5, x6, x7, rfl, hL, hlen, hle, hla, W7⟩
    refine s_retTup (ev_var rfl) (sq_of (W7.ex f _ upd_same)) fun p H8 hp e8 h8 => ?_
    exact k p _ H7 H8 ⟨hL, hle, by simp⟩ (W.drop W7 hf) hp e8 h8

/-! ### calls by keywords, either way -/
section
variable {σ : L2.St} {H : Hp} {sp : Sp} {E : XK} {tk : TA} {m : Nat} {is : List Nat} {zs xs : List V} {z v : V} {ta tb te : TE} {t : TT} {b : Bool}
theorem ev_callK (h : EvA tk σ H zs) (hm : zs.length = m) (hs : SpV sp (perm is zs) H z) : Ev (tCallK0 m sp (perm is) E tk) σ H z := fun H1 e Q q =>
  h H1 e _ fun H2 e2 => ⟨hm, hs H2 (e.trans e2) Q (fun H3 e3 => q H3 (e2.trans e3)) E⟩
theorem eu_callK (h : EvA tk σ H zs) (hm : zs.length = m) (hs : SpU sp (perm is zs) H xs) : EvU (tCallK0 m sp (perm is) E tk) σ H xs := fun H1 e Q q =>
  h H1 e _ fun H2 e2 => ⟨hm, hs H2 (e.trans e2) Q (fun p H3 hp e3 h3 => q p H3 (fresh_back e2 hp) (e2.trans e3) h3) E⟩
theorem eu_if (h : EvT t σ H b) (h1 : b = true → EvU ta σ H xs) (h2 : b = false → EvU tb σ H xs) : EvU (tIf t ta tb) σ H xs := fun H1 e Q q => h H1 e _ fun H2 e2 => by
  cases b with
  | true =>
    show ta σ H2 Q
    exact h1 rfl H2 (e.trans e2) Q fun p H3 hp e3 h3 => q p H3 (fresh_back e2 hp) (e2.trans e3) h3
  | false =>
    show tb σ H2 Q
    exact h2 rfl H2 (e.trans e2) Q fun p H3 hp e3 h3 => q p H3 (fresh_back e2 hp) (e2.trans e3) h3
theorem ed_newT {c : List Nat} (h : EvU te σ H (nats c)) : EvD K te σ H (dN c) := fun H1 e Q q => h H1 e Q fun p H2 _ e2 h2 => q (.ref p) H2 e2 (dp_nats h2)
theorem s_retOpU {D : Ends} {r : R2} {x : V} {ys : List V} (ha : Ev ta σ H x) (hb : EvU tb σ H ys) (k : ∀ q H1, Ex H H1 → H1 q = some (.tup ys) → r x (.ref q) H1 D.rt) : tRet (tOp r ta tb) D σ H :=
  ha H (Ex.refl _) _ fun H1 e1 => hb H1 e1 _ fun q H2 _ e2 h2 => k q H2 (e1.trans e2) h2
theorem q_asgC {vs : List V} {i : Nat} {t : TA} {tz : TS} {D : Ends} (ha : EvA t σ H vs) (k : ∀ H1, Ex H H1 → sp vs H1 (fun v H2 => tz D (σ.set i (some v)) H2) E) : tSeq (tAsg (tCall sp [] E t) (gName i)) tz D σ H := call_args ha k
/-- x[i] = v of a list -/
theorem q_setL {D : Ends} {tz : TS} {to ti : TE} {a : Addr} {k : Int} {j : Nat} (h : Ev te σ H v) (ho : Ev to σ H (.ref a)) (hi : Ev ti σ H (.int k)) (hl : H a = some (.lst xs)) (hj : ixN xs.length k = some j) (kk : ∀ H1, Ex H H1 → tz D σ (upd H1 a (.lst (xs.set j v)))) : tSeq (tAsg te (gSub to ti rSetL)) tz D σ H :=
  h H (Ex.refl H) _ fun H1 e1 => ho H1 e1 _ fun H2 e2 => hi H2 (e1.trans e2) _ fun H3 e3 => ⟨a, xs, k, j, rfl, rfl, ((e1.trans e2).trans e3) _ _ hl, hj, kk H3 ((e1.trans e2).trans e3)⟩
theorem s_setL {D : Ends} {to ti : TE} {a : Addr} {k : Int} {j : Nat} (h : Ev te σ H v) (ho : Ev to σ H (.ref a)) (hi : Ev ti σ H (.int k)) (hl : H a = some (.lst xs)) (hj : ixN xs.length k = some j) (kk : ∀ H1, Ex H H1 → D.nx σ (upd H1 a (.lst (xs.set j v)))) : tAsg te (gSub to ti rSetL) D σ H :=
  h H (Ex.refl H) _ fun H1 e1 => ho H1 e1 _ fun H2 e2 => hi H2 (e1.trans e2) _ fun H3 e3 => ⟨a, xs, k, j, rfl, rfl, ((e1.trans e2).trans e3) _ _ hl, hj, kk H3 ((e1.trans e2).trans e3)⟩
/-- x.pop() as a statement -/
theorem q_popL {D : Ends} {tz : TS} {a : Addr} (ho : Ev te σ H (.ref a)) (hl : H a = some (.lst (xs ++ [v]))) (kk : ∀ H1, Ex H H1 → tz D σ (upd H1 a (.lst xs))) : tSeq (tDrop (tBM0 K "list" rPop te)) tz D σ H :=
  ho H (Ex.refl H) _ fun H1 e1 => by
    have h1 := e1 _ _ hl
    refine ⟨.inl ⟨rfl, _, sq_of h1⟩, a, _, v, rfl, rfl, h1, by simp, ?_⟩
    rw [List.dropLast_concat]
    exact kk H1 e1
theorem ix_last {α : Type} (xs : List α) (v : α) : ixN (xs ++ [v]).length (-1) = some xs.length := by
  have hl : (xs ++ [v]).length = xs.length + 1 := by simp
  unfold ixN
  rw [hl, if_neg (by decide), if_pos (by omega)]
  congr 1
  omega
theorem atI_last2 {α : Type} (xs : List α) (u v : α) : atI (xs ++ [u, v]) (-2) = some u := by
  have hl : (xs ++ [u, v]).length = xs.length + 2 := by simp
  have e : ixN (xs ++ [u, v]).length (-2) = some xs.length := by
    unfold ixN
    rw [hl, if_neg (by decide), if_pos (by omega)]
    congr 1
    omega
  unfold atI
  rw [e]
  show (xs ++ [u, v])[xs.length]? = some u
  simp
theorem set_last {α : Type} (xs : List α) (u v : α) : (xs ++ [u]).set xs.length v = xs ++ [v] := by simp
end
end HM

/-! Lists of pairs; the base of the heap that the deck leaves alone. -/
namespace HQ
open PySem PySem.Spec PyProof.Rows L2 Evl HG HL HC HR HN HP HCas HD HM
variable {K : PySem.W.Frag}
theorem W.low {H0 G H : Hp} {d l : Addr} (e : Ex H0 G) (w : W G d l H) : W H0 d l H := by
  refine ⟨e.trans w.ex, w.dk, ?_, ?_⟩
  · cases q : H0 d with
    | none => rfl
    | some o =>
      have := e d o q
      rw [w.nd] at this
      cases this
  · cases q : H0 l with
    | none => rfl
    | some o =>
      have := e l o q
      rw [w.nl] at this
      cases this
/-- what a value stands for -/
inductive All2 {α β : Type} (R : α → β → Prop) : List α → List β → Prop where
  | nil : All2 R [] []
  | cons {a : α} {b : β} {as : List α} {bs : List β} : R a b → All2 R as bs → All2 R (a :: as) (b :: bs)
theorem All2.length {α β : Type} {R : α → β → Prop} {as : List α} {bs : List β} (h : All2 R as bs) : as.length = bs.length := by
  induction h with
  | nil => rfl
  | cons _ _ ih => rw [List.length_cons, List.length_cons, ih]
theorem All2.imp {α β : Type} {R S : α → β → Prop} (k : ∀ a b, R a b → S a b) {as : List α} {bs : List β} (h : All2 R as bs) : All2 S as bs := by
  induction h with
  | nil => exact .nil
  | cons h _ ih => exact .cons (k _ _ h) ih
theorem All2.snoc {α β : Type} {R : α → β → Prop} {as : List α} {bs : List β} {a : α} {b : β} (h : All2 R as bs) (r : R a b) : All2 R (as ++ [a]) (bs ++ [b]) := by
  induction h with
  | nil => exact .cons r .nil
  | cons h _ ih => exact .cons h ih
theorem All2.get {α β : Type} {R : α → β → Prop} {as : List α} {bs : List β} (h : All2 R as bs) {i : Nat} {a : α} (e : as[i]? = some a) : ∃ b, bs[i]? = some b ∧ R a b := by
  induction h generalizing i with
  | nil => simp at e
  | cons h _ ih =>
    cases i with
    | zero =>
      have := Option.some.inj (show some _ = some a from e)
      subst this
      exact ⟨_, rfl, h⟩
    | succ i => exact ih (show _ = some a from e)
/-- v is a tuple of ys -/
def IsT (H : Hp) (v : V) (ys : List V) : Prop := ∃ p, v = .ref p ∧ H p = some (.tup ys)
theorem IsT.up {H H1 : Hp} {v : V} {ys : List V} (e : Ex H H1) (h : IsT H v ys) : IsT H1 v ys := by
  obtain ⟨p, h1, h2⟩ := h
  exact ⟨p, h1, e _ _ h2⟩
/-- a list of tuples -/
def Rows (H : Hp) (a : Addr) (rs : List (List V)) : Prop := ∃ acc, H a = some (.lst acc) ∧ All2 (IsT H) acc rs
theorem Rows.up {H H1 : Hp} {a : Addr} {rs : List (List V)} (e : Ex H H1) (h : Rows H a rs) : Rows H1 a rs := by
  obtain ⟨acc, h1, h2⟩ := h
  exact ⟨acc, e _ _ h1, h2.imp fun _ _ => IsT.up e⟩
section
variable {σ : L2.St} {H : Hp} {tt : TT} {te tx : TE} {vs : List Nat} {xs : List V}
/-- a comprehension whose items are new tuples -/
theorem lc_rows {J : It} {g : TG} {n : Nat} (v : Nat → List V) {d : Addr} {Q : VK} (hn : n ≤ 40000) (hd : H d = none)
    (stop : ∀ H1, Ex H H1 → J.stop n H1) (go : ∀ i H1, i < n → Ex H H1 → J.go i H1)
    (turn : ∀ i x H1 H2, i < n → Ex H H1 → J.yld i H1 x H2 → ∃ (σ2 : L2.St), Ex H1 H2 ∧ wipe σ2 vs = wipe σ vs ∧ EvT tt σ2 H true ∧ EvU te σ2 H (v i) ∧ ∀ R : L2.St → Hp → Prop, R σ2 H2 → g x (wipe σ vs) H2 R)
    (q : ∀ H1, Ex H H1 → Rows H1 d ((List.range n).map v) → Q (.ref d) H1) :
    ∃ W : Nat → Nat → Hp → Prop, (∃ m, W 0 m (upd H d (.lst []))) ∧ ∀ i m H1, W i m H1 →
      (J.stop i H1 ∧ Q (.ref d) H1) ∨ (J.go i H1 ∧ ∃ Nx : Hp → Prop, (∀ H2, Nx H2 → ∃ m2, m2 < m ∧ W (i + 1) m2 H2) ∧ ∀ x H2, J.yld i H1 x H2 → g x (wipe σ vs) H2 fun σ2 H3 => wipe σ2 vs = wipe σ vs ∧ tt σ2 H3 fun b H4 =>
        if b = true then te σ2 H4 fun y H5 => ∃ acc, H5 d = some (.lst acc) ∧ acc.length < sizeLine ∧ Nx (upd H5 d (.lst (acc ++ [y]))) else Nx H4) := by
  have P : ∀ {i : Nat} {H1 : Hp}, (∃ acc, Ex H H1 ∧ H1 d = some (.lst acc) ∧ All2 (IsT H1) acc ((List.range i).map v)) → Ex H H1 := fun h => h.choose_spec.1
  refine ⟨fun i m H1 => m = n - i ∧ i ≤ n ∧ ∃ acc, Ex H H1 ∧ H1 d = some (.lst acc) ∧ All2 (IsT H1) acc ((List.range i).map v), ⟨n, by omega, Nat.zero_le _, [], Ex.new hd, upd_same, .nil⟩, ?_⟩
  rintro i m H1 ⟨rfl, hi, acc, e1, h1, ha⟩
  by_cases h : i = n
  · subst h
    exact Or.inl ⟨stop H1 e1, q H1 e1 ⟨acc, h1, ha⟩⟩
  · refine Or.inr ⟨go i H1 (by omega) e1, fun H2 => ∃ acc, Ex H H2 ∧ H2 d = some (.lst acc) ∧ All2 (IsT H2) acc ((List.range (i + 1)).map v), fun H2 p2 => ⟨n - (i + 1), by omega, rfl, by omega, p2⟩, ?_⟩
    intro x H2 hy
    obtain ⟨σ2, e, w, ht, he, hg⟩ := turn i x H1 H2 (by omega) e1 hy
    refine hg _ ⟨w, ?_⟩
    refine ht H2 (e1.trans e) _ fun H3 e3 => ?_
    refine he H3 ((e1.trans e).trans e3) _ fun p H4 hp e4 h4 => ?_
    have x14 := (e.trans e3).trans e4
    have hl : acc.length = i := by
      have := ha.length
      rw [List.length_map, List.length_range] at this
      exact this
    refine ⟨acc, x14 _ _ h1, sz_lt (by omega), acc ++ [.ref p], Ex.mut (e1.trans x14) hd, upd_same, ?_⟩
    rw [List.range_succ, List.map_append]
    have pd : p ≠ d := fun z => by
      rw [z, (e.trans e3) _ _ h1] at hp
      cases hp
    refine All2.snoc (ha.imp fun u ys hu => ?_) ⟨p, rfl, by rw [upd_ne pd]; exact h4⟩
    obtain ⟨r, rfl, hr⟩ := hu
    have rd : r ≠ d := fun z => by
      rw [z, h1] at hr
      cases hr
    exact ⟨r, rfl, by rw [upd_ne rd]; exact x14 _ _ hr⟩
/-- evaluates to a new list of tuples -/
def EvR (te : TE) (σ : L2.St) (H : Hp) (rs : List (List V)) : Prop := ∀ H1, Ex H H1 → ∀ Q : VK, (∀ d H2, H1 d = none → Ex H1 H2 → Rows H2 d rs → Q (.ref d) H2) → te σ H1 Q
theorem er_enumS {i j : Nat} (v : Nat → List V) (h : EvS K tx σ H xs) (hz : xs.length ≤ 40000)
    (hw : ∀ x y, wipe (((wipe σ vs).set i (some x)).set j (some y)) vs = wipe σ vs)
    (ht : ∀ (p : Nat) (x : V), xs[p]? = some x → EvT tt (((wipe σ vs).set i (some (.int (p : Nat)))).set j (some x)) H true)
    (he : ∀ (p : Nat) (x : V), xs[p]? = some x → EvU te (((wipe σ vs).set i (some (.int (p : Nat)))).set j (some x)) H (v p)) :
    EvR (tLc (iEnumT K (tCons tx tNil)) (gTup K 2 (gCons (gName i) (gCons (gName j) gNil))) tt te vs) σ H ((List.range xs.length).map v) := fun H0 e Q q =>
  h H0 e _ fun a H1 e1 hx => ⟨a, xs, rfl, hx, fun d hd => by
    refine lc_rows (H := H1) v hz hd (fun H2 e3 => ⟨xs, ex_t e3 hx, Nat.le_refl _⟩) (fun p H2 hp e3 => ⟨xs, xs[p], ex_t e3 hx, by simp [hp]⟩) ?_ (fun H2 e3 h => q d H2 (fresh_back e1 hd) (e1.trans e3) h)
    rintro p x H2 H3 hp e3 ⟨t, y, rfl, nt, rfl, hy⟩
    have hy2 := hy xs (ex_t e3 hx)
    have e2 : Ex H H1 := e.trans e1
    refine ⟨((wipe σ vs).set i (some (.int (p : Nat)))).set j (some y), Ex.new nt, hw _ _, (ht p y hy2).mono e2, fun H5 e5 => he p y hy2 H5 (e2.trans e5), fun R r => ?_⟩
    exact ⟨t, _, rfl, st_of upd_same, rfl, _, _, rfl, _, _, rfl, rfl, r⟩⟩
theorem q_asgR {i : Nat} {rs : List (List V)} {tz : TS} {D : Ends} (h : EvR te σ H rs) (k : ∀ p H1, H p = none → Ex H H1 → Rows H1 p rs → tz D (σ.set i (some (.ref p))) H1) : tSeq (tAsg te (gName i)) tz D σ H := h H (Ex.refl H) _ k
/-- [te for x, y in rows] -/
theorem el_rows {a : Addr} {i j : Nat} (rs : List (V × V)) (f : Nat → Bool) (v : Nat → V) (h : Ev tx σ H (.ref a)) (hr : Rows H a (rs.map fun r => [r.1, r.2])) (hz : rs.length ≤ 40000)
    (hw : ∀ x y, wipe (((wipe σ vs).set i (some x)).set j (some y)) vs = wipe σ vs)
    (ht : ∀ (p : Nat) (r : V × V), rs[p]? = some r → EvT tt (((wipe σ vs).set i (some r.1)).set j (some r.2)) H (f p))
    (he : ∀ (p : Nat) (r : V × V), rs[p]? = some r → f p = true → Ev te (((wipe σ vs).set i (some r.1)).set j (some r.2)) H (v p)) :
    EvL (tLc (iList K tx) (gTup K 2 (gCons (gName i) (gCons (gName j) gNil))) tt te vs) σ H (given rs.length f v) := fun H0 e Q q =>
  h H0 e _ fun H1 e1 => by
    have e2 : Ex H H1 := e.trans e1
    obtain ⟨acc, ha, hA⟩ := hr
    have hl : acc.length = rs.length := by have := hA.length; rw [List.length_map] at this; exact this
    refine ⟨a, rfl, ⟨acc, sq_of (e2 _ _ ha)⟩, fun d hd => ?_⟩
    refine lc_by (H := H1) f v hz hd (fun H2 e3 => ⟨acc, sq_of ((e2.trans e3) _ _ ha), by omega⟩) (fun p H2 hp e3 => ⟨acc, acc[p]'(by omega), sq_of ((e2.trans e3) _ _ ha), by simp [hl, hp]⟩) ?_ (fun H2 e3 h => q d H2 (fresh_back e1 hd) (e1.trans e3) h)
    rintro p x H2 H3 hp e3 ⟨rfl, hy⟩
    have hx := hy acc (sq_of ((e2.trans e3) _ _ ha))
    obtain ⟨ys, g1, g2⟩ := hA.get hx
    rw [List.getElem?_map] at g1
    cases hrs : rs[p]? with
    | none => rw [hrs] at g1; cases g1
    | some r =>
      rw [hrs] at g1
      cases g1
      obtain ⟨z, rfl, hz2⟩ := g2
      refine ⟨((wipe σ vs).set i (some r.1)).set j (some r.2), Ex.refl _, hw _ _, (ht p r hrs).mono e2, fun hf => (he p r hrs hf).mono e2, fun R k => ?_⟩
      exact ⟨z, _, rfl, st_of ((e2.trans e3) _ _ hz2), rfl, _, _, rfl, _, _, rfl, rfl, k⟩
end
section
variable {σ : L2.St} {H : Hp} {t : TT} {tu tw tz : TS} {D : Ends} {b : Bool}
/-- both ways of an if meet again -/
theorem q_ifM (Mid : L2.St → Hp → Prop) (h : EvT t σ H b) (h1 : b = true → ∀ H1, Ex H H1 → ∀ Nx : L2.St → Hp → Prop, (∀ σ' H', Mid σ' H' → Nx σ' H') → tu { D with nx := Nx } σ H1)
    (h2 : b = false → ∀ H1, Ex H H1 → ∀ Nx : L2.St → Hp → Prop, (∀ σ' H', Mid σ' H' → Nx σ' H') → tw { D with nx := Nx } σ H1) (k : ∀ σ' H', Mid σ' H' → tz D σ' H') : tSeq (tIfS t tu tw) tz D σ H :=
  q_if h (fun hb H1 e1 => h1 hb H1 e1 (tz D) k) fun hb H1 e1 => h2 hb H1 e1 (tz D) k
end
/-- return a list + a new list -/
theorem s_retCat {σ : L2.St} {H : Hp} {ta tb : TE} {D : Ends} {f : Addr} {xs ys : List V} (ha : Ev ta σ H (.ref f)) (hf : H f = some (.lst xs)) (hb : EvL tb σ H ys) (hz : xs.length + ys.length ≤ 100000) (k : ∀ p H1, H p = none → Ex H H1 → H1 p = some (.lst (xs ++ ys)) → D.rt (.ref p) H1) : tRet (tOp rCat ta tb) D σ H :=
  ha H (Ex.refl H) _ fun H1 e1 => hb H1 e1 _ fun b H2 _ e2 h2 => ⟨f, b, xs, ys, rfl, rfl, (e1.trans e2) _ _ hf, h2, sz_of hz, fun p hp => k p _ (fresh_back (e1.trans e2) hp) ((e1.trans e2).trans (Ex.new hp)) upd_same⟩
theorem q_asgCat {σ : L2.St} {H : Hp} {ta tb : TE} {D : Ends} {f : Addr} {i : Nat} {xs ys : List V} {tz : TS} (ha : Ev ta σ H (.ref f)) (hf : H f = some (.lst xs)) (hb : EvL tb σ H ys) (hz : xs.length + ys.length ≤ 100000) (k : ∀ p H1, H p = none → Ex H H1 → H1 p = some (.lst (xs ++ ys)) → tz D (σ.set i (some (.ref p))) H1) : tSeq (tAsg (tOp rCat ta tb) (gName i)) tz D σ H :=
  ha H (Ex.refl H) _ fun H1 e1 => hb H1 e1 _ fun b H2 _ e2 h2 => ⟨f, b, xs, ys, rfl, rfl, (e1.trans e2) _ _ hf, h2, sz_of hz, fun p hp => k p _ (fresh_back (e1.trans e2) hp) ((e1.trans e2).trans (Ex.new hp)) upd_same⟩
theorem s_asgCat {σ : L2.St} {H : Hp} {ta tb : TE} {D : Ends} {f : Addr} {i : Nat} {xs ys : List V} (ha : Ev ta σ H (.ref f)) (hf : H f = some (.lst xs)) (hb : EvL tb σ H ys) (hz : xs.length + ys.length ≤ 100000) (k : ∀ p H1, H p = none → Ex H H1 → H1 p = some (.lst (xs ++ ys)) → D.nx (σ.set i (some (.ref p))) H1) : tAsg (tOp rCat ta tb) (gName i) D σ H :=
  ha H (Ex.refl H) _ fun H1 e1 => hb H1 e1 _ fun b H2 _ e2 h2 => ⟨f, b, xs, ys, rfl, rfl, (e1.trans e2) _ _ hf, h2, sz_of hz, fun p hp => k p _ (fresh_back (e1.trans e2) hp) ((e1.trans e2).trans (Ex.new hp)) upd_same⟩
section
variable {σ : L2.St} {H0 H : Hp} {d l : Addr} {ta : TA} {te tx : TE} {tz : TS} {D : Ends} {xs : List V} {i j : Nat}
/-- a pair of names, by a tuple that is made -/
theorem k_tup2 {R : List V → Prop} (h : EvNA d l ta σ H0 R) (w : W H0 d l H) (e : ∀ vs, R vs → ∃ a b, vs = [a, b]) (k : ∀ a b H1, R [a, b] → W H0 d l H1 → tz D ((σ.set i (some a)).set j (some b)) H1) : tSeq (tAsg (tTup ta) (gTup K 2 (gCons (gName i) (gCons (gName j) gNil)))) tz D σ H :=
  h H w _ fun vs H1 p w1 => by
    obtain ⟨a, b, rfl⟩ := e vs p
    exact ⟨sz_of (by simp), fun q hq => ⟨q, [a, b], rfl, st_of upd_same, rfl, _, _, rfl, _, _, rfl, rfl, k a b _ p (w1.up (Ex.new hq))⟩⟩
theorem k_tup21 {R : List V → Prop} (h : EvNA d l ta σ H0 R) (w : W H0 d l H) (e : ∀ vs, R vs → ∃ a b, vs = [a, b]) (k : ∀ a b H1, R [a, b] → W H0 d l H1 → D.nx ((σ.set i (some a)).set j (some b)) H1) : tAsg (tTup ta) (gTup K 2 (gCons (gName i) (gCons (gName j) gNil))) D σ H :=
  h H w _ fun vs H1 p w1 => by
    obtain ⟨a, b, rfl⟩ := e vs p
    exact ⟨sz_of (by simp), fun q hq => ⟨q, [a, b], rfl, st_of upd_same, rfl, _, _, rfl, _, _, rfl, rfl, k a b _ p (w1.up (Ex.new hq))⟩⟩
/-- a new list, a new tuple, beside the deck -/
theorem k_newL (h : EvL te σ H0 xs) (w : W H0 d l H) (k : ∀ p H1, H0 p = none → W (upd H0 p (.lst xs)) d l H1 → tz D (σ.set i (some (.ref p))) H1) : tSeq (tAsg te (gName i)) tz D σ H := h H w.ex _ fun p H1 hp e h1 => k p H1 (w.free hp) (w.new hp e h1)
theorem k_newU (h : EvU te σ H0 xs) (w : W H0 d l H) (k : ∀ p H1, H0 p = none → W (upd H0 p (.tup xs)) d l H1 → tz D (σ.set i (some (.ref p))) H1) : tSeq (tAsg te (gName i)) tz D σ H := h H w.ex _ fun p H1 hp e h1 => k p H1 (w.free hp) (w.new hp e h1)
theorem eu_tupOf (h : EvL tx σ H xs) : EvU (tCB (rTupleOf K) (tCons tx tNil)) σ H xs := fun H1 e Q q =>
  h H1 e _ fun p H2 hp e2 h2 => ⟨p, xs, rfl, .inl ⟨sq_of h2, fun r hr => q r _ (fresh_back e2 hr) (e2.trans (Ex.new hr)) upd_same⟩⟩
theorem el_rep {tk : TE} {n : Nat} (h : EvL tx σ H xs) (hk : Ev tk σ H (.int n)) (hn : xs.length * n ≤ 100000) (hn2 : n ≤ 100000) : EvL (tOp rRep tx tk) σ H (List.replicate n xs).flatten := fun H1 e Q q =>
  h H1 e _ fun p H2 hp e2 h2 => hk H2 (e.trans e2) _ fun H3 e3 => ⟨p, n, xs, rfl, rfl, e3 _ _ h2, by omega, by omega, by rw [Int.toNat_natCast]; exact sz_of hn, fun r hr => by
    rw [Int.toNat_natCast]
    exact q r _ (fresh_back (e2.trans e3) hr) ((e2.trans e3).trans (Ex.new hr)) upd_same⟩
/-- the data of a list of naturals -/
abbrev dL (c : List Nat) : PyData := .list ((c.map fun n : Nat => (n : Int)).map PyData.int)
theorem dp_lst {H : Hp} {a : Addr} {c : List Nat} (h : H a = some (.lst (nats c))) : Dp K H (.ref a) (dL c) := .lst (sq_of h) (dps_nats c)
theorem sw_dL {c : List Nat} (h : ∀ a ∈ c, a < 2 ^ 1900) : SW c.length 1 (dL c) := by
  have := sws_ints (ns := c.map fun n : Nat => (n : Int)) fun i hi => by
    obtain ⟨a, ha, rfl⟩ := List.mem_map.mp hi
    rw [Int.natAbs_natCast]
    exact h a ha
  rw [List.length_map] at this
  exact sw_lst this
theorem ed_newL {c : List Nat} (h : EvL te σ H (nats c)) : EvD K te σ H (dL c) := fun H1 e Q q => h H1 e Q fun p H2 _ e2 h2 => q (.ref p) H2 e2 (dp_lst h2)
end
/-! ### how great the four numbers are -/
theorem ch_sq {a i : Nat} (hi : 1 ≤ i) (h : i ≤ a) : ch a (i + 1) ≤ ch a i * ch a i := by
  have h1 := ch_mul a i
  have h2 : ch a (i + 1) ≤ ch a (i + 1) * (i + 1) := Nat.le_mul_of_pos_right _ (by omega)
  have h3 := ch_ge hi h
  have h4 : ch a i * (a - i) ≤ ch a i * ch a i := Nat.mul_le_mul_left _ (by omega)
  omega
theorem sumC_sq (f : Nat → Nat → Nat) (hf : ∀ a i, 1 ≤ i → i ≤ a → f a i ≤ ch a i * ch a i + ch a i) : ∀ {s : Nat} {c : List Nat}, IsCas s c → sumC f s c ≤ val s c * val s c + val s c
  | _, [], _ => Nat.zero_le _
  | 0, _ :: _, h => h.elim
  | s + 1, a :: c, h => by
    have ih := sumC_sq f hf h.2.2
    have h1 := hf a (s + 1) (by omega) h.1
    show f a (s + 1) + sumC f s c ≤ (ch a (s + 1) + val s c) * (ch a (s + 1) + val s c) + (ch a (s + 1) + val s c)
    rw [Nat.add_mul, Nat.mul_add, Nat.mul_add]
    have ih' : sumC f s c ≤ val s c * val s c + val s c := ih
    have := Nat.zero_le (ch a (s + 1) * val s c)
    have := Nat.zero_le (val s c * ch a (s + 1))
    omega
theorem fUS_sq (a i : Nat) (hi : 1 ≤ i) (h : i ≤ a) : fUS a i ≤ ch a i * ch a i + ch a i := by
  have := ch_sq hi h
  show ch a (i + 1) ≤ _
  omega
theorem fUP_sq (a i : Nat) (hi : 1 ≤ i) (h : i ≤ a) : fUP a i ≤ ch a i * ch a i + ch a i := by
  have := ch_sq hi h
  show ch a i + ch a (i + 1) ≤ _
  omega
theorem ch_up {a i : Nat} (hi : 1 ≤ i) (h : i ≤ a) : ch a (i - 1) ≤ ch a i * i := by
  obtain ⟨k, rfl⟩ : ∃ k, i = k + 1 := ⟨i - 1, by omega⟩
  rw [Nat.add_sub_cancel, ch_mul]
  exact Nat.le_mul_of_pos_right _ (by omega)
theorem sumC_lin (f : Nat → Nat → Nat) (m : Nat) : ∀ {s : Nat} {c : List Nat}, s ≤ m → (∀ a i, 1 ≤ i → i ≤ a → i ≤ m → f a i ≤ ch a i * m) → IsCas s c → sumC f s c ≤ val s c * m
  | _, [], _, _, _ => Nat.zero_le _
  | 0, _ :: _, _, _, h => h.elim
  | s + 1, a :: c, hs, hf, h => by
    have ih := sumC_lin f m (by omega) hf h.2.2
    have h1 := hf a (s + 1) (by omega) h.1 hs
    show f a (s + 1) + sumC f s c ≤ (ch a (s + 1) + val s c) * m
    rw [Nat.add_mul]
    have ih' : sumC f s c ≤ val s c * m := ih
    omega
theorem fLS_lin (m a i : Nat) (hi : 1 ≤ i) (h : i ≤ a) (hm : i ≤ m) : fLS a i ≤ ch a i * m := by
  have h1 := ch_up hi h
  have h2 : ch a i * i ≤ ch a i * m := Nat.mul_le_mul_left _ hm
  show ch a (i - 1) ≤ _
  omega
theorem fLP_lin (m a i : Nat) (hi : 1 ≤ i) (h : i ≤ a) (hm : i ≤ m) : fLP a i ≤ ch a i * m := by
  have h1 := fLS_lin m a i hi h hm
  have h2 : ch (a - 1) (i - 1) ≤ ch a (i - 1) := ch_mono (by omega)
  have h3 : fLS a i = ch a (i - 1) := rfl
  show ch (a - 1) (i - 1) ≤ _
  omega
theorem US_le (n s : Nat) (hs : 1 ≤ s) : US n s ≤ n * n + n := by
  have := sumC_sq fUS fUS_sq (cas_is s n)
  rw [cas_val s n (by omega)] at this
  exact this
theorem UP_le (n s : Nat) (hs : 1 ≤ s) : UP n s ≤ n * n + n := by
  have := sumC_sq fUP fUP_sq (cas_is s n)
  rw [cas_val s n (by omega)] at this
  exact this
theorem LS_le (n s : Nat) (hs : 1 ≤ s) : LS n s ≤ n * s := by
  have := sumC_lin fLS s (Nat.le_refl s) (fLS_lin s) (cas_is s n)
  rw [cas_val s n (by omega)] at this
  exact this
end HQ

/-! The law of the four numbers: its own defs. -/
namespace HK03
open PySem PySem.Spec PyProof.Rows L2 Evl HG HL HC HR HN HP HCas HD HM HQ
variable {K : PySem.W.Frag}
/-! ### the plain law -/
theorem val_split : ∀ {s : Nat} {c : List Nat}, IsCas s c → val s c = sumC fLP s c + sumC (fun a i => ch (a - 1) i) s c
  | _, [], _ => rfl
  | 0, _ :: _, h => h.elim
  | s + 1, a :: c, h => by
    have ih := val_split h.2.2
    show ch a (s + 1) + val s c = (ch (a - 1) s + sumC fLP s c) + (ch (a - 1) (s + 1) + sumC (fun a i => ch (a - 1) i) s c)
    have h1 := h.1
    have := ch_add a (s + 1) (by omega) (by omega)
    rw [ih, this]
    show ch (a - 1) s + ch (a - 1) (s + 1) + _ = _
    omega
/-- the five sums -/
def five (s : Nat) (c : List Nat) : List Nat := [val s c, sumC fLS s c, sumC fUS s c, sumC fLP s c, sumC fUP s c]
theorem fives {s : Nat} {c : List Nat} (h : IsCas s c) : five s c = [val s c, LS (val s c) s, US (val s c) s, LP (val s c) s, UP (val s c) s] := by
  unfold five LS US LP UP
  rw [h.uniq]
theorem rv_neE {H : Hp} {p q : Addr} (hp : H p = some (.lst [])) (hq : H q = some (.lst [])) : RV (rNeD K) (.ref p) (.ref q) H (.bl false) := rv_val fun H2 e2 Q q => ⟨.list [], .list [], .lst (sq_of (e2 _ _ hp)) .nil, .lst (sq_of (e2 _ _ hq)) .nil, rfl, rfl, q⟩
/-! ### the law's own sums -/
def sp_law_four : Sp := fun vs H Q _ => ∃ (s : Nat) (a : Addr) (c : List Nat), vs = [.int s, .ref a] ∧ TupN H a c ∧ IsCas s c ∧ s ≤ 60 ∧ (∀ b ∈ c, b < 2 ^ 2000) ∧ ∀ p H2, H p = none → Ex H H2 → H2 p = some (.lst (nats (five s c))) → Q (.ref p) H2
theorem sl_law_four {s : Nat} {a : Addr} {c : List Nat} {H : Hp} (h : TupN H a c) (hc : IsCas s c) (hs : s ≤ 60) (hb : ∀ b ∈ c, b < 2 ^ 2000) : SpL sp_law_four [.int s, .ref a] H (nats (five s c)) := fun H1 e Q q E => ⟨s, a, c, rfl, e _ _ h, hc, hs, hb, fun p H2 x y z => q p H2 x y z⟩
def t_law_four (K : PySem.W.Frag) : TS :=
    (tSeq (tAsg (tLc (iEnumT K (tCons (tVar 1) tNil)) (gTup K 2 (gCons (gName 4) (gCons (gName 5) (gNil)))) tYes (tTup (tCons (tVar 5) (tCons (tOp rSub0 (tVar 0) (tVar 4)) tNil))) [4, 5]) (gName 2))
    (tSeq (tAsg (tLst (tCons (tCB (rSum K) (tCons (tLc (iList K (tVar 2)) (gTup K 2 (gCons (gName 5) (gCons (gName 6) (gNil)))) tYes (tCall sp_law_choose [] E0 (tCons (tVar 5) (tCons (tVar 6) tNil))) [5, 6]) tNil)) (tCons (tCB (rSum K) (tCons (tLc (iList K (tVar 2)) (gTup K 2 (gCons (gName 5) (gCons (gName 6) (gNil)))) tYes (tCall sp_law_choose [] E0 (tCons (tVar 5) (tCons (tOp rSub0 (tVar 6) (tC (.int 1))) tNil))) [5, 6]) tNil)) tNil))) (gName 3))
    (tSeq (tDrop (tBM K "list" rAppend (tVar 3) (tCons (tCB (rSum K) (tCons (tLc (iList K (tVar 2)) (gTup K 2 (gCons (gName 5) (gCons (gName 6) (gNil)))) tYes (tCall sp_law_choose [] E0 (tCons (tVar 5) (tCons (tOp rAdd0 (tVar 6) (tC (.int 1))) tNil))) [5, 6]) tNil)) tNil)))
    (tRet (tOp rCat (tVar 3) (tLst (tCons (tCB (rSum K) (tCons (tLc (iList K (tVar 2)) (gTup K 2 (gCons (gName 5) (gCons (gName 6) (gNil)))) tYes (tCall sp_law_choose [] E0 (tCons (tOp rSub0 (tVar 5) (tC (.int 1))) (tCons (tOp rSub0 (tVar 6) (tC (.int 1))) tNil))) [5, 6]) tNil)) (tCons (tCB (rSum K) (tCons (tLc (iList K (tVar 2)) (gTup K 2 (gCons (gName 5) (gCons (gName 6) (gNil)))) tYes (tCall sp_law_choose [] E0 (tCons (tOp rAdd0 (tVar 5) (tC (.int 1))) (tCons (tOp rAdd0 (tVar 6) (tC (.int 1))) tNil))) [5, 6]) tNil)) tNil))))))))
def rws (s : Nat) (c : List Nat) : List (V × V) := (List.range c.length).map fun p => (V.int (c.getD p 0 : Nat), V.int (s - p : Nat))
theorem four_rows {s : Nat} {c : List Nat} {a : Addr} {H : Hp} {σ : L2.St} {tx te : TE} {i j : Nat} {vs : List Nat} (f : Nat → Nat → Nat) (hc : IsCas s c) (hs : s ≤ 60) (h : Ev tx σ H (.ref a)) (hr : Rows H a ((rws s c).map fun r => [r.1, r.2]))
    (hw : ∀ x y, wipe (((wipe σ vs).set i (some x)).set j (some y)) vs = wipe σ vs)
    (ht : ∀ (b k : Nat), 1 ≤ k → k ≤ s → k ≤ b → b ∈ c → Ev te (((wipe σ vs).set i (some (.int b))).set j (some (.int k))) H (.int (f b k : Nat))) :
    Ev (tCB (rSum K) (tCons (tLc (iList K tx) (gTup K 2 (gCons (gName i) (gCons (gName j) gNil))) tYes te vs) tNil)) σ H (.int (sumC f s c : Nat)) := by
  have hl := hc.len
  have rl : (rws s c).length = c.length := by unfold rws; rw [List.length_map, List.length_range]
  have e := ev_sumL (K := K) (ns := (List.range c.length).map fun p => ((f (c.getD p 0) (s - p) : Nat) : Int)) (σ := σ) (H := H)
    (tx := tLc (iList K tx) (gTup K 2 (gCons (gName i) (gCons (gName j) (gNil)))) tYes te vs)
    (el_is (el_rows (rws s c) (fun _ => true) (fun p => .int (f (c.getD p 0) (s - p) : Nat)) h hr (by omega) hw (fun p r hx => et_yes) (fun p r hx _ => by
      unfold rws at hx
      rw [List.getElem?_map] at hx
      cases q : (List.range c.length)[p]? with
      | none => rw [q] at hx; cases hx
      | some z =>
        rw [q] at hx
        cases hx
        have hp : p < c.length := by
          have := (List.getElem?_eq_some_iff.mp q).1
          rw [List.length_range] at this
          exact this
        have hz : z = p := by
          rw [List.getElem?_range hp] at q
          exact (Option.some.inj q).symm
        subst hz
        have g : c[z]? = some c[z] := List.getElem?_eq_getElem hp
        have eb : c.getD z 0 = c[z] := by rw [List.getD_eq_getElem?_getD, g]; rfl
        obtain ⟨g1, g2⟩ := cas_ge hc g
        show Ev te (((wipe σ vs).set i (some (.int (c.getD z 0 : Nat)))).set j (some (.int (s - z : Nat)))) H (.int (f (c.getD z 0) (s - z) : Nat))
        rw [eb]
        exact ht _ _ (by omega) (by omega) g1 (List.mem_of_getElem? g))) (by rw [given_all, rl, List.map_map]; rfl))
  exact ev_is e (by rw [sum_range])
theorem rd_law_four {vs : List V} {H : Hp} {Q : VK} {E : XK} (h : sp_law_four vs H Q E) : t_law_four K { nx := fun _ H2 => Q .non H2, rt := Q } (start ["size", "cascade", "rows", "found", "at", "a", "i"] vs) H := by
  obtain ⟨s, a, c, rfl, ha, hc, hs, hb, k⟩ := h
  have hl := hc.len
  have hS : SqT K H a (nats c) := st_of ha
  have big : ∀ b ∈ c, b + 1 < 2 ^ big := fun b h => item_big (hb b h)
  refine q_asgR (rs := (rws s c).map fun r => [r.1, r.2]) (fun H' e' Q' q' => er_enumS (fun p => [.int (c.getD p 0 : Nat), .int (s - p : Nat)]) (es_ev (ev_var rfl) hS) (by rw [List.length_map]; omega) (fun x y => rfl) (fun p x hx => et_yes) (fun p x hx => by
    obtain ⟨b, q, rfl⟩ := nats_get hx
    obtain ⟨g1, g2⟩ := cas_ge hc q
    have eb : c.getD p 0 = b := by rw [List.getD_eq_getElem?_getD, q]; rfl
    have e : (s : Int) - (p : Int) = ((s - p : Nat) : Int) := by omega
    rw [eb]
    exact eu_tup (ea_cons (ev_var rfl) (ea_cons (ev_is (ev_op (ev_var rfl) (ev_var rfl) rv_I0) (by rw [e])) ea_nil)) (by simp)) H' e' Q' fun d H2 h1 e2 h2 => q' d H2 h1 e2 (by
      unfold rws
      rw [List.map_map]
      rw [List.length_map] at h2
      exact h2)) fun r H1 hr e1 hR => ?_
  -- found = [.., ..]
  refine q_asgL (xs := nats [val s c, sumC fLS s c]) (el_lst (ea_cons (four_rows ch hc hs (ev_var rfl) hR (fun x y => rfl) fun b k h1 h2 h3 hm => evl_choose (ev_var rfl) (ev_var rfl) (by omega) (by have := big b hm; omega)) (ea_cons (four_rows fLS hc hs (ev_var rfl) hR (fun x y => rfl) fun b k h1 h2 h3 hm => evl_choose (s := k - 1) (ev_var rfl) (ev_is (ev_op (ev_var rfl) ev_c rv_I0) (by congr 1; omega)) (by omega) (by have := big b hm; omega)) ea_nil)) (by simp)) fun f H2 hf e2 h2 => ?_
  have hR2 := hR.up e2
  -- found.append(..)
  refine q_app (l := f) h2 (ev_var rfl) (four_rows fUS hc hs (ev_var rfl) hR2 (fun x y => rfl) fun b k h1 h2 h3 hm => evl_choose (s := k + 1) (ev_var rfl) (ev_is (ev_op (ev_var rfl) ev_c rv_I0) (by congr 1)) (by omega) (by have := big b hm; omega)) (by simp) fun H3 e3 => ?_
  have fr : r ≠ f := fun z => by
    obtain ⟨acc, q, _⟩ := hR
    rw [z, hf] at q
    cases q
  have hR3 : Rows (upd H3 f (.lst (nats [val s c, sumC fLS s c] ++ [.int (sumC fUS s c : Nat)]))) r ((rws s c).map fun r => [r.1, r.2]) := by
    obtain ⟨acc, q, hA⟩ := hR.up (e2.trans e3)
    refine ⟨acc, by rw [upd_ne fr]; exact q, hA.imp fun v ys hv => ?_⟩
    obtain ⟨p, rfl, hp⟩ := hv
    have pf : p ≠ f := fun z => by
      rw [z, e3 _ _ h2] at hp
      cases hp
    exact ⟨p, rfl, by rw [upd_ne pf]; exact hp⟩
  have ee : Ex H (upd H3 f (.lst (nats [val s c, sumC fLS s c] ++ [.int (sumC fUS s c : Nat)]))) := Ex.mut ((e1.trans e2).trans e3) (fresh_back e1 hf)
  have hf4 : upd H3 f (.lst (nats [val s c, sumC fLS s c] ++ [.int (sumC fUS s c : Nat)])) f = some (.lst (nats [val s c, sumC fLS s c] ++ [.int (sumC fUS s c : Nat)])) := upd_same
  generalize upd H3 f (.lst (nats [val s c, sumC fLS s c] ++ [.int (sumC fUS s c : Nat)])) = H4 at hR3 ee hf4
  -- return found + [..]
  refine s_retCat (xs := nats [val s c, sumC fLS s c] ++ [.int (sumC fUS s c : Nat)]) (ys := nats [sumC fLP s c, sumC fUP s c]) (f := f) (ev_var rfl) hf4 (el_lst (ea_cons (four_rows fLP hc hs (ev_var rfl) hR3 (fun x y => rfl) fun b k h1 h2 h3 hm => evl_choose (m := b - 1) (s := k - 1) (ev_is (ev_op (ev_var rfl) ev_c rv_I0) (by congr 1; omega)) (ev_is (ev_op (ev_var rfl) ev_c rv_I0) (by congr 1; omega)) (by omega) (by have := big b hm; omega)) (ea_cons (four_rows fUP hc hs (ev_var rfl) hR3 (fun x y => rfl) fun b k h1 h2 h3 hm => evl_choose (m := b + 1) (s := k + 1) (ev_is (ev_op (ev_var rfl) ev_c rv_I0) (by congr 1)) (ev_is (ev_op (ev_var rfl) ev_c rv_I0) (by congr 1)) (by omega) (by have := big b hm; omega)) ea_nil)) (by simp)) (by simp) fun p H5 hp e5 h5 => ?_
  exact k p H5 (fresh_back ee hp) (ee.trans e5) h5
/-! ### a drawn cascade -/
def tops : List Nat := [0, 10 ^ 15 - 9, 10 ^ 10, 3 * 10 ^ 7, 10 ^ 6, 10 ^ 5, 2 * 10 ^ 4, 6000, 2500, 1200, 700, 450, 300, 220, 170, 140]
def top (s : Nat) : Nat := tops.getD s 0
theorem tops_ok : ((List.range 15).all fun i => decide (i + 1 ≤ top (i + 1)) && decide (top (i + 1) < 10 ^ 15)) = true := by decide +kernel
theorem of_tops {s : Nat} (h1 : 1 ≤ s) (h2 : s ≤ 15) : s ≤ top s ∧ top s < 10 ^ 15 := by
  have h := List.all_eq_true.mp tops_ok (s - 1) (List.mem_range.mpr (by omega))
  rw [Bool.and_eq_true] at h
  have e : s - 1 + 1 = s := by omega
  rw [e] at h
  exact ⟨of_decide_eq_true h.1, of_decide_eq_true h.2⟩
theorem top_at {s : Nat} (h2 : s ≤ 15) : (nats tops)[s]? = some (.int (top s : Nat)) := by
  have hl : s < tops.length := by show s < 16; omega
  rw [List.getElem?_map, List.getElem?_eq_getElem hl]
  have : top s = tops[s] := by unfold top; rw [List.getD_eq_getElem?_getD, List.getElem?_eq_getElem hl]; rfl
  rw [this]
  rfl
def sp_law_cascade : Sp := fun vs H Q _ => ∃ (d l : Addr) (s : Nat), vs = [.ref d, .int s] ∧ 1 ≤ s ∧ s ≤ 15 ∧ Dk H d l ∧ ∀ (p : Addr) (c : List Nat) H1, Good (top s) s c → H p = none → p ≠ d → p ≠ l → TupN H1 p c → Dk H1 d l → Oth d l H H1 → Q (.ref p) H1
def t_law_cascade (K : PySem.W.Frag) : TS :=
    (tSeq (tAsg (tLst (tCons (tC (.int 0)) (tCons (tOp rSub0 (tOp rPow0 (tC (.int 10)) (tC (.int 15))) (tC (.int 9))) (tCons (tOp rPow0 (tC (.int 10)) (tC (.int 10))) (tCons (tOp rMulW (tC (.int 3)) (tOp rPow0 (tC (.int 10)) (tC (.int 7)))) (tCons (tOp rPow0 (tC (.int 10)) (tC (.int 6))) (tCons (tOp rPow0 (tC (.int 10)) (tC (.int 5))) (tCons (tOp rMulW (tC (.int 2)) (tOp rPow0 (tC (.int 10)) (tC (.int 4)))) (tCons (tC (.int 6000)) (tCons (tC (.int 2500)) (tCons (tC (.int 1200)) (tCons (tC (.int 700)) (tCons (tC (.int 450)) (tCons (tC (.int 300)) (tCons (tC (.int 220)) (tCons (tC (.int 170)) (tCons (tC (.int 140)) tNil))))))))))))))))) (gName 2))
    (tSeq (tAsg (tCB rMin2 (tCons (tOp (rIxL K) (tVar 2) (tVar 1)) (tCons (tCall sp_law_pick [] E0 (tCons (tVar 0) (tCons (tLst (tCons (tOp (rIxL K) (tVar 2) (tVar 1)) (tCons (tOp rAdd0 (tVar 1) (tC (.int 3))) (tCons (tOp rAdd0 (tVar 1) (tC (.int 40))) (tCons (tVar 1) tNil))))) tNil))) tNil))) (gName 3))
    (tSeq (tAsg (tLst (tCons (tOp rAdd0 (tVar 1) (tCall sp_law_below [] E0 (tCons (tVar 0) (tCons (tOp rAdd0 (tOp rSub0 (tVar 3) (tVar 1)) (tC (.int 1))) tNil)))) tNil)) (gName 4))
    (tSeq (tFor (iRng3 (tCons (tOp rSub0 (tVar 1) (tC (.int 1))) (tCons (tCall sp_law_draw [] E0 (tCons (tVar 0) (tCons (tVar 1) tNil))) (tCons (tUn rNeg (tC (.int 1))) tNil)))) (gName 5) (tSeq (tPar 6 7 (tCons (tCall sp_law_draw [] E0 (tCons (tVar 0) (tCons (tC (.int 4)) tNil))) (tCons (tOp (rIxL K) (tVar 4) (tUn rNeg (tC (.int 1)))) tNil)))
    (tIfS (tTest (tOp rEq (tVar 6) (tC (.int 0)))) (tDrop (tBM K "list" rAppend (tVar 4) (tCons (tOp rSub0 (tVar 7) (tC (.int 1))) tNil))) (tIfS (tTest (tOp rEq (tVar 6) (tC (.int 1)))) (tDrop (tBM K "list" rAppend (tVar 4) (tCons (tVar 5) tNil))) (tDrop (tBM K "list" rAppend (tVar 4) (tCons (tOp rAdd0 (tVar 5) (tCall sp_law_below [] E0 (tCons (tVar 0) (tCons (tCB rMin2 (tCons (tOp rSub0 (tVar 7) (tVar 5)) (tCons (tCall sp_law_pick [] E0 (tCons (tVar 0) (tCons (tLst (tCons (tC (.int 3)) (tCons (tOp rPow0 (tC (.int 10)) (tC (.int 30))) tNil))) tNil))) tNil))) tNil)))) tNil)))))))
    (tRet (tCB (rTupleOf K) (tCons (tVar 4) tNil)))))))
theorem ev_tops {σ : L2.St} {H : Hp} : EvL (tLst (tCons (tC (.int 0)) (tCons (tOp rSub0 (tOp rPow0 (tC (.int 10)) (tC (.int 15))) (tC (.int 9))) (tCons (tOp rPow0 (tC (.int 10)) (tC (.int 10))) (tCons (tOp rMulW (tC (.int 3)) (tOp rPow0 (tC (.int 10)) (tC (.int 7)))) (tCons (tOp rPow0 (tC (.int 10)) (tC (.int 6))) (tCons (tOp rPow0 (tC (.int 10)) (tC (.int 5))) (tCons (tOp rMulW (tC (.int 2)) (tOp rPow0 (tC (.int 10)) (tC (.int 4)))) (tCons (tC (.int 6000)) (tCons (tC (.int 2500)) (tCons (tC (.int 1200)) (tCons (tC (.int 700)) (tCons (tC (.int 450)) (tCons (tC (.int 300)) (tCons (tC (.int 220)) (tCons (tC (.int 170)) (tCons (tC (.int 140)) tNil))))))))))))))))) σ H (nats tops) := by
  have pw : ∀ {k : Int}, 0 ≤ k → k ≤ 1000000 → CPow 10 k := fun h1 h2 => ⟨h1, h2, by decide⟩
  refine el_is (el_lst (ea_cons ev_c (ea_cons (ev_op (ev_op ev_c ev_c (rv_I (pw (by decide) (by decide)))) ev_c rv_I0) (ea_cons (ev_op ev_c ev_c (rv_I (pw (by decide) (by decide)))) (ea_cons (ev_op ev_c (ev_op ev_c ev_c (rv_I (pw (by decide) (by decide)))) (rv_I mulL)) (ea_cons (ev_op ev_c ev_c (rv_I (pw (by decide) (by decide)))) (ea_cons (ev_op ev_c ev_c (rv_I (pw (by decide) (by decide)))) (ea_cons (ev_op ev_c (ev_op ev_c ev_c (rv_I (pw (by decide) (by decide)))) (rv_I mulL)) (ea_cons ev_c (ea_cons ev_c (ea_cons ev_c (ea_cons ev_c (ea_cons ev_c (ea_cons ev_c (ea_cons ev_c (ea_cons ev_c (ea_cons ev_c ea_nil)))))))))))))))) (by decide)) (by decide +kernel)
theorem rd_law_cascade {vs : List V} {H : Hp} {Q : VK} {E : XK} (h : sp_law_cascade vs H Q E) : t_law_cascade K { nx := fun _ H2 => Q .non H2, rt := Q } (start ["deck", "size", "tops", "great", "found", "left", "way", "ahead"] vs) H := by
  obtain ⟨d, l, s, rfl, h1, h2, dk, k⟩ := h
  obtain ⟨t1, t2⟩ := of_tops h1 h2
  refine q_asgL ev_tops fun p H1 hp e1 hp1 => ?_
  have W1 : W (upd (hid H d l) p (.lst (nats tops))) d l H1 := (W.start dk).new hp e1 hp1
  have hpH : (hid H d l) p = none := (W.start dk).free hp
  generalize hH0 : upd (hid H d l) p (.lst (nats tops)) = H0 at W1
  have hp0 : H0 p = some (.lst (nats tops)) := by rw [← hH0]; exact upd_same
  have done : ∀ {H2 : Hp}, W H0 d l H2 → Dk H2 d l ∧ Oth d l H H2 := fun w => ⟨w.dk, w.done (by rw [← hH0]; exact Ex.new hpH)⟩
  have eT : ∀ {σ : L2.St}, σ[2]? = some (some (.ref p)) → σ[1]? = some (some (.int (s : Int))) → Ev (tOp (rIxL K) (tVar 2) (tVar 1)) σ H0 (.int (top s : Nat)) := fun a b => ev_op (ev_var a) (ev_var b) (rv_ixL (sq_of hp0) (at_of rfl (top_at h2)))
  -- great = min(tops[size], _law_pick(deck, [..]))
  refine k_asg (P := fun v => ∃ g : Nat, v = .int (g : Int) ∧ s ≤ g ∧ g ≤ top s) (en_cb (ena_cons (en_ev (eT rfl rfl)) (ena_cons (en_pickL [(top s : Int), (s : Int) + 3, (s : Int) + 40, (s : Int)] (ev_var rfl) (ea_cons (eT rfl rfl) (ea_cons (ev_op (ev_var rfl) ev_c rv_I0) (ea_cons (ev_op (ev_var rfl) ev_c rv_I0) (ea_cons (ev_var rfl) ea_nil)))) (by simp) (by simp)) ena_nil)) ?_) W1 fun v H4 hv W4 => ?_
  · rintro vs ⟨x, r, rfl, rfl, y, r2, rfl, ⟨g, rfl, hg⟩, rfl⟩
    refine ⟨_, rc_min2, ?_⟩
    simp only [List.mem_cons, List.not_mem_nil, or_false] at hg
    by_cases q : g < (top s : Int)
    · rw [if_pos q]
      exact ⟨g.toNat, by congr 1; omega, by omega, by omega⟩
    · rw [if_neg q]
      exact ⟨top s, rfl, t1, Nat.le_refl _⟩
  · obtain ⟨g1, rfl, g2, g3⟩ := hv
    refine rd_casc h1 (by omega) g2 g3 W4 fun q c H5 H6 hc W5 hq e6 h6 => ?_
    have W6 := W5.up e6
    obtain ⟨o1, o2⟩ := done W6
    have qn : H q = none ∧ q ≠ d ∧ q ≠ l := by
      have hd : q ≠ d := by
        obtain ⟨_, _, _, z, _⟩ := W5.dk.ex
        intro e
        rw [← e, hq] at z
        cases z
      have hl : q ≠ l := by
        obtain ⟨_, _, _, _, z, _⟩ := W5.dk.ex
        intro e
        rw [← e, hq] at z
        cases z
      refine ⟨?_, hd, hl⟩
      cases z : H q with
      | none => rfl
      | some o =>
        have := (done W5).2 q o hd hl z
        rw [hq] at this
        cases this
    exact k q c H6 hc qn.1 qn.2.1 qn.2.2 h6 o1 o2
/-! ### all four are right -/
def sp_law_is_right : Sp := fun vs H Q _ => ∃ (n s : Nat) (a : Addr) (w : Int), vs = [.int n, .int s, .ref a, .int w] ∧ 1 ≤ s ∧ s ≤ 40 ∧ n < 10 ^ 31 ∧ H a = some (.lst (nats [LS n s, US n s, LP n s, UP n s])) ∧ RetV (.bl true) H Q
abbrev pm_lower_products_size_number : List Nat := [1, 0]
abbrev pm_upper_products_size_number : List Nat := [1, 0]
abbrev pm_lower_sets_size_number : List Nat := [1, 0]
abbrev pm_upper_sets_size_number : List Nat := [1, 0]
def t_law_is_right (K : PySem.W.Frag) : TS :=
    (tSeq (tIfS (tTest (tOp rEq (tVar 3) (tC (.int 0)))) (tAsg (tLst (tCons (tCall sp_lower_sets [] E0 (tCons (tVar 0) (tCons (tVar 1) tNil))) (tCons (tCall sp_upper_sets [] E0 (tCons (tVar 0) (tCons (tVar 1) tNil))) (tCons (tCall sp_lower_products [] E0 (tCons (tVar 0) (tCons (tVar 1) tNil))) (tCons (tCall sp_upper_products [] E0 (tCons (tVar 0) (tCons (tVar 1) tNil))) tNil))))) (gName 4)) (tSeq (tAsg (tLst (tCons (tCallK0 2 sp_lower_sets (perm pm_lower_sets_size_number) E0 (tCons (tVar 1) (tCons (tVar 0) tNil))) (tCons (tCallK0 2 sp_upper_sets (perm pm_upper_sets_size_number) E0 (tCons (tVar 1) (tCons (tVar 0) tNil))) tNil))) (gName 4))
    (tAsg (tOp rCat (tVar 4) (tLst (tCons (tCallK0 2 sp_lower_products (perm pm_lower_products_size_number) E0 (tCons (tVar 1) (tCons (tVar 0) tNil))) (tCons (tCallK0 2 sp_upper_products (perm pm_upper_products_size_number) E0 (tCons (tVar 1) (tCons (tVar 0) tNil))) tNil)))) (gName 4))))
    (tRet (tOp rEq (tCB (rRepr K) (tCons (tVar 4) tNil)) (tCB (rRepr K) (tCons (tVar 2) tNil)))))

theorem sv_is_right {n s : Nat} {a : Addr} {w : Int} {H : Hp} (h1 : 1 ≤ s) (h2 : s ≤ 40) (hn : n < 10 ^ 31) (h : H a = some (.lst (nats [LS n s, US n s, LP n s, UP n s]))) : SpV sp_law_is_right [.int n, .int s, .ref a, .int w] H (.bl true) := fun H1 e Q q E => ⟨n, s, a, w, rfl, h1, h2, hn, e _ _ h, fun H2 e2 => q H2 e2⟩
theorem small4 {n s : Nat} (h1 : 1 ≤ s) (h2 : s ≤ 40) (hn : n < 10 ^ 31) : ∀ b ∈ [LS n s, US n s, LP n s, UP n s], b < 2 ^ 1900 := by
  have a1 := LS_le n s h1
  have a2 := US_le n s h1
  have a3 := UP_le n s h1
  have a4 := LP_le (n := n) h1
  have b1 : n * s ≤ 10 ^ 31 * 40 := Nat.mul_le_mul (by omega) h2
  have b2 : n * n ≤ 10 ^ 31 * 10 ^ 31 := Nat.mul_le_mul (by omega) (by omega)
  have b3 : 10 ^ 31 * 10 ^ 31 + 10 ^ 31 * 40 < 2 ^ 1900 := by decide +kernel
  intro b hb
  simp only [List.mem_cons, List.not_mem_nil, or_false] at hb
  omega
theorem rd_law_is_right {vs : List V} {H : Hp} {Q : VK} {E : XK} (h : sp_law_is_right vs H Q E) : t_law_is_right K { nx := fun _ H2 => Q .non H2, rt := Q } (start ["number", "size", "due", "way", "told"] vs) H := by
  obtain ⟨n, s, a, w, rfl, h1, h2, hn, ha, k⟩ := h
  have n20 : n < 2 ^ 2000 := Nat.lt_trans hn (by decide +kernel)
  have s60 : s ≤ 60 := by omega
  have e1 : ∀ {σ : L2.St} {H : Hp}, σ[0]? = some (some (V.int (n : Int))) → σ[1]? = some (some (V.int (s : Int))) → Ev (tCall sp_lower_sets [] E0 (tCons (tVar 0) (tCons (tVar 1) tNil))) σ H (.int (LS n s : Nat)) := fun x y => ev_call (ea_cons (ev_var x) (ea_cons (ev_var y) ea_nil)) (sv_lower h1 s60 n20)
  have e2 : ∀ {σ : L2.St} {H : Hp}, σ[0]? = some (some (V.int (n : Int))) → σ[1]? = some (some (V.int (s : Int))) → Ev (tCall sp_upper_sets [] E0 (tCons (tVar 0) (tCons (tVar 1) tNil))) σ H (.int (US n s : Nat)) := fun x y => ev_call (ea_cons (ev_var x) (ea_cons (ev_var y) ea_nil)) (sv_upper h1 s60 n20)
  have e3 : ∀ {σ : L2.St} {H : Hp}, σ[0]? = some (some (V.int (n : Int))) → σ[1]? = some (some (V.int (s : Int))) → Ev (tCall sp_lower_products [] E0 (tCons (tVar 0) (tCons (tVar 1) tNil))) σ H (.int (LP n s : Nat)) := fun x y => ev_call (ea_cons (ev_var x) (ea_cons (ev_var y) ea_nil)) (sv_lower_product h1 s60 n20)
  have e4 : ∀ {σ : L2.St} {H : Hp}, σ[0]? = some (some (V.int (n : Int))) → σ[1]? = some (some (V.int (s : Int))) → Ev (tCall sp_upper_products [] E0 (tCons (tVar 0) (tCons (tVar 1) tNil))) σ H (.int (UP n s : Nat)) := fun x y => ev_call (ea_cons (ev_var x) (ea_cons (ev_var y) ea_nil)) (sv_upper_product h1 s60 n20)
  have f1 : ∀ {σ : L2.St} {H : Hp}, σ[0]? = some (some (V.int (n : Int))) → σ[1]? = some (some (V.int (s : Int))) → Ev (tCallK0 2 sp_lower_sets (perm pm_lower_sets_size_number) E0 (tCons (tVar 1) (tCons (tVar 0) tNil))) σ H (.int (LS n s : Nat)) := fun x y => ev_callK (ea_cons (ev_var y) (ea_cons (ev_var x) ea_nil)) rfl (sv_lower h1 s60 n20)
  have f2 : ∀ {σ : L2.St} {H : Hp}, σ[0]? = some (some (V.int (n : Int))) → σ[1]? = some (some (V.int (s : Int))) → Ev (tCallK0 2 sp_upper_sets (perm pm_upper_sets_size_number) E0 (tCons (tVar 1) (tCons (tVar 0) tNil))) σ H (.int (US n s : Nat)) := fun x y => ev_callK (ea_cons (ev_var y) (ea_cons (ev_var x) ea_nil)) rfl (sv_upper h1 s60 n20)
  have f3 : ∀ {σ : L2.St} {H : Hp}, σ[0]? = some (some (V.int (n : Int))) → σ[1]? = some (some (V.int (s : Int))) → Ev (tCallK0 2 sp_lower_products (perm pm_lower_products_size_number) E0 (tCons (tVar 1) (tCons (tVar 0) tNil))) σ H (.int (LP n s : Nat)) := fun x y => ev_callK (ea_cons (ev_var y) (ea_cons (ev_var x) ea_nil)) rfl (sv_lower_product h1 s60 n20)
  have f4 : ∀ {σ : L2.St} {H : Hp}, σ[0]? = some (some (V.int (n : Int))) → σ[1]? = some (some (V.int (s : Int))) → Ev (tCallK0 2 sp_upper_products (perm pm_upper_products_size_number) E0 (tCons (tVar 1) (tCons (tVar 0) tNil))) σ H (.int (UP n s : Nat)) := fun x y => ev_callK (ea_cons (ev_var y) (ea_cons (ev_var x) ea_nil)) rfl (sv_upper_product h1 s60 n20)
  refine q_ifM (fun σ' H' => ∃ p, σ' = [some (.int (n : Int)), some (.int (s : Int)), some (.ref a), some (.int w), some (.ref p)] ∧ Ex H H' ∧ H' p = some (.lst (nats [LS n s, US n s, LP n s, UP n s]))) (et_test (ev_op (ev_var rfl) ev_c (rv_eq rfl))) (fun _ H1 x1 Nx kN => ?_) (fun _ H1 x1 Nx kN => ?_) ?_
  · refine s_asgL (xs := nats [LS n s, US n s, LP n s, UP n s]) (el_lst (ea_cons (e1 rfl rfl) (ea_cons (e2 rfl rfl) (ea_cons (e3 rfl rfl) (ea_cons (e4 rfl rfl) ea_nil)))) (by simp)) fun p H2 hp x2 h2 => ?_
    exact kN _ H2 ⟨p, rfl, x1.trans x2, h2⟩
  · refine q_asgL (xs := nats [LS n s, US n s]) (el_lst (ea_cons (f1 rfl rfl) (ea_cons (f2 rfl rfl) ea_nil)) (by simp)) fun p H2 hp x2 h2 => ?_
    refine s_asgCat (f := p) (xs := nats [LS n s, US n s]) (ys := nats [LP n s, UP n s]) (ev_var rfl) h2 (el_lst (ea_cons (f3 rfl rfl) (ea_cons (f4 rfl rfl) ea_nil)) (by simp)) (by simp) fun q H3 hq x3 h3 => ?_
    exact kN _ H3 ⟨q, rfl, (x1.trans x2).trans x3, h3⟩
  · rintro σ' H2 ⟨p, rfl, x2, hp⟩
    have sw := sw_dL (small4 h1 h2 hn)
    refine s_ret (v := .bl true) (ev_is (ev_op (ev_reprL (ed_ev (ev_var rfl) (dp_lst hp)) sw (by simp)) (ev_reprL (ed_ev (ev_var rfl) (dp_lst (x2 _ _ ha))) sw (by simp)) (rv_eq rfl)) ?_) fun H3 x3 => k H3 (x2.trans x3)
    rw [decide_eq_true rfl]

/-! ### the law -/
theorem lim_ok : ((List.range 15).all fun i => decide (ff (top (i + 1) + 1) (i + 1) / fac (i + 1) < 10 ^ 31)) = true := by decide +kernel
theorem lim_of {s : Nat} (h1 : 1 ≤ s) (h2 : s ≤ 15) : ch (top s + 1) s < 10 ^ 31 := by
  have h := List.all_eq_true.mp lim_ok (s - 1) (List.mem_range.mpr (by omega))
  have e : s - 1 + 1 = s := by omega
  rw [e, ← ch_div] at h
  exact of_decide_eq_true h
theorem good_val_lt {t s : Nat} {c : List Nat} (g : Good t s c) (ht : s ≤ t + 1) : val s c < ch (t + 1) s := HR.val_lt g.cas ht fun b hb => by
  have := g.le b (List.mem_of_mem_head? hb)
  omega
def sp_law (K : PySem.W.Frag) : Sp := fun vs H Q _ => ∃ (a : Addr) (ns : List Int), vs = [.ref a] ∧ SqL K H a (ns.map V.int) ∧ ns.length ≤ 63 ∧ ∀ H1, Q (.bl true) H1
def t_law (K : PySem.W.Frag) : TS :=
    (tSeq (tAsg (tCall (sp_law_deck K) [] E0 (tCons (tVar 0) tNil)) (gName 1))
    (tSeq (tFor (iRng1 (tCons (tC (.int 2)) tNil)) (gName 2) (tSeq (tAsg (tTup (tCons (tOp rAdd0 (tC (.int 1)) (tCall sp_law_draw [] E0 (tCons (tVar 1) (tCons (tIf (tTest (tOp rEq (tCall sp_law_draw [] E0 (tCons (tVar 1) (tCons (tC (.int 4)) tNil))) (tC (.int 0)))) (tC (.int 15)) (tC (.int 7))) tNil)))) (tCons (tOp rAnd0 (tVar 2) (tC (.int 1))) tNil))) (gTup K 2 (gCons (gName 3) (gCons (gName 4) (gNil)))))
    (tSeq (tAsg (tCall sp_law_cascade [] E0 (tCons (tVar 1) (tCons (tVar 3) tNil))) (gName 5))
    (tSeq (tAsg (tCall sp_law_four [] E0 (tCons (tVar 3) (tCons (tVar 5) tNil))) (gName 6))
    (tSeq (tIfS (tNot (tB (tCall sp_law_is_right [] E0 (tCons (tOp (rIxL K) (tVar 6) (tC (.int 0))) (tCons (tVar 3) (tCons (tSl (rSlL K) (tVar 6) (tPart (tC (.int 1))) tNoPart) (tCons (tVar 4) tNil))))))) (tRet (tC (.bl false))) tNext)
    (tSeq (tAsg (tCB (rTupleOf K) (tCons (tLc (iTup K (tVar 5)) (gName 12) tYes (tOp rAdd0 (tVar 12) (tC (.int 1))) [12]) tNil)) (gName 7))
    (tSeq (tIfS (tTest (tOp rNe (tCB (rRepr K) (tCons (tTup (tCons (tCall sp_number_of [] E0 (tCons (tOp rAdd0 (tVar 3) (tC (.int 1))) (tCons (tVar 7) tNil))) (tCons (tCall sp_number_of [] E0 (tCons (tVar 3) (tCons (tVar 5) tNil))) tNil))) tNil)) (tCB (rRepr K) (tCons (tTup (tCons (tOp (rIxL K) (tVar 6) (tC (.int 4))) (tCons (tOp (rIxL K) (tVar 6) (tC (.int 0))) tNil))) tNil)))) (tRet (tC (.bl false))) tNext)
    (tSeq (tAsg (tCB (rSum K) (tCons (tLc (iEnumT K (tCons (tVar 5) tNil)) (gTup K 2 (gCons (gName 13) (gCons (gName 12) (gNil)))) tYes (tCall sp_law_choose [] E0 (tCons (tOp rSub0 (tVar 12) (tC (.int 1))) (tCons (tOp rSub0 (tVar 3) (tVar 13)) tNil))) [13, 12]) tNil)) (gName 8))
    (tSeq (tIfS (tTest (tOp rNe (tOp rSub0 (tOp (rIxL K) (tVar 6) (tC (.int 0))) (tCallK0 2 sp_lower_products (perm pm_lower_products_size_number) E0 (tCons (tVar 3) (tCons (tOp (rIxL K) (tVar 6) (tC (.int 0))) tNil)))) (tVar 8))) (tRet (tC (.bl false))) tNext)
    (tSeq (tAsg (tCall sp_law_draw [] E0 (tCons (tVar 1) (tCons (tCall sp_law_pick [] E0 (tCons (tVar 1) (tCons (tLst (tCons (tC (.int 8)) (tCons (tC (.int 60)) (tCons (tC (.int 2000)) tNil)))) tNil))) tNil))) (gName 9))
    (tSeq (tIfS (tTest (tOp rEq (tVar 2) (tC (.int 1)))) (tAsg (tTup (tCons (tOp rAdd0 (tC (.int 1)) (tCall sp_law_below [] E0 (tCons (tVar 1) (tCons (tOp rPow0 (tC (.int 10)) (tC (.int 30))) tNil)))) (tCons (tOp rAdd0 (tC (.int 1)) (tCall sp_law_draw [] E0 (tCons (tVar 1) (tCons (tC (.int 16)) tNil)))) tNil))) (gTup K 2 (gCons (gName 9) (gCons (gName 3) (gNil))))) tNext)
    (tSeq (tAsg (tCall sp_cascade_of [] E0 (tCons (tVar 9) (tCons (tVar 3) tNil))) (gName 10))
    (tSeq (tIfS (tOr (tNot (tB (tCB (rIsi K) (tCons (tVar 10) (tCons (tC (.ty "tuple")) tNil))))) (tOr (tTest (tOp rGt0 (tCB (rLenS K) (tCons (tVar 10) tNil)) (tVar 3))) (tTest (tOp (rNeD K) (tLc (iTup K (tVar 10)) (gName 12) (tOr (tNot (tB (tCB (rIsi K) (tCons (tVar 12) (tCons (tC (.ty "int")) tNil))))) (tB (tCB (rIsi K) (tCons (tVar 12) (tCons (tC (.ty "bool")) tNil))))) (tVar 12) [12]) (tLst tNil))))) (tRet (tC (.bl false))) tNext)
    (tSeq (tAsg (tCall sp_law_four [] E0 (tCons (tVar 3) (tCons (tVar 10) tNil))) (gName 11))
    (tIfS (tOr (tTest (tOp rNe (tOp (rIxL K) (tVar 11) (tC (.int 0))) (tVar 9))) (tNot (tB (tCall sp_law_is_right [] E0 (tCons (tVar 9) (tCons (tVar 3) (tCons (tSl (rSlL K) (tVar 11) (tPart (tC (.int 1))) tNoPart) (tCons (tOp rSub0 (tC (.int 1)) (tVar 4)) tNil)))))))) (tRet (tC (.bl false))) tNext)))))))))))))))
    (tRet (tOp rEq (tCB (rRepr K) (tCons (tLst (tCons (tCall sp_lower_sets [] E0 (tCons (tC (.int 0)) (tCons (tC (.int 3)) tNil))) (tCons (tCall sp_upper_sets [] E0 (tCons (tC (.int 0)) (tCons (tC (.int 3)) tNil))) (tCons (tCall sp_lower_products [] E0 (tCons (tC (.int 0)) (tCons (tC (.int 3)) tNil))) (tCons (tCall sp_upper_products [] E0 (tCons (tC (.int 0)) (tCons (tC (.int 3)) tNil))) tNil))))) tNil)) (tCB (rRepr K) (tCons (tOp rRep (tLst (tCons (tC (.int 0)) tNil)) (tC (.int 4))) tNil))))))
/-- the call with the list cut -/
theorem ev_right {σ : L2.St} {H : Hp} {ta tb tc td : TE} {n s : Nat} {w : Int} (ha : Ev ta σ H (.int n)) (hb : Ev tb σ H (.int s)) (hc : EvL tc σ H (nats [LS n s, US n s, LP n s, UP n s])) (hd : Ev td σ H (.int w)) (h1 : 1 ≤ s) (h2 : s ≤ 40) (hn : n < 10 ^ 31) :
    Ev (tCall sp_law_is_right [] E0 (tCons ta (tCons tb (tCons tc (tCons td tNil))))) σ H (.bl true) := fun H1 x Q q =>
  ha H1 x _ fun H2 x2 => hb H2 (x.trans x2) _ fun H3 x3 => hc H3 ((x.trans x2).trans x3) _ fun p H4 _ x4 h4 => hd H4 (((x.trans x2).trans x3).trans x4) _ fun H5 x5 =>
    ⟨n, s, p, w, rfl, h1, h2, hn, x5 _ _ h4, fun H6 x6 => q H6 ((((x2.trans x3).trans x4).trans x5).trans x6)⟩
theorem cut_five {s : Nat} {c : List Nat} (h : IsCas s c) : cutV (nats (five s c)) (some 1) none = nats [LS (val s c) s, US (val s c) s, LP (val s c) s, UP (val s c) s] := by
  rw [cut1, fives h]
  rfl
/-- one drawn cascade -/
theorem k_cas1 {H0 H : Hp} {d l : Addr} {s i : Nat} {σ : L2.St} {ta tb : TE} {tz : TS} {D : Ends} (w : W H0 d l H) (h1 : 1 ≤ s) (h2 : s ≤ 15) (ha : Ev ta σ H0 (.ref d)) (hb : Ev tb σ H0 (.int s))
    (k : ∀ p c H1, Good (top s) s c → H0 p = none → W (upd H0 p (.tup (nats c))) d l H1 → tz D (σ.set i (some (.ref p))) H1) :
    tSeq (tAsg (tCall sp_law_cascade [] E0 (tCons ta (tCons tb tNil))) (gName i)) tz D σ H := by
  refine q_asgC (sp := sp_law_cascade) (vs := [.ref d, .int s]) (ea_cons (ha.mono w.ex) (ea_cons (hb.mono w.ex) ea_nil)) fun H1 e1 => ?_
  have w1 := w.up e1
  refine ⟨d, l, s, rfl, h1, h2, w1.dk, fun p c H2 gc hp pd pl hpc dk o => ?_⟩
  have h0 := w1.free hp
  refine k p c H2 gc h0 ⟨fun b u hb => ?_, dk, by rw [upd_ne (Ne.symm pd)]; exact w1.nd, by rw [upd_ne (Ne.symm pl)]; exact w1.nl⟩
  by_cases q : b = p
  · subst q
    rw [upd_same] at hb
    cases hb
    exact hpc
  · rw [upd_ne q] at hb
    exact (w1.oth o dk).ex b u hb
theorem given_plus (c : List Nat) : given (nats c).length (fun _ => true) (fun p => V.int ((c.getD p 0 + 1 : Nat) : Int)) = nats (c.map (· + 1)) := by
  rw [given_all, List.length_map]
  apply List.ext_getElem?
  intro i
  rw [List.getElem?_map, List.getElem?_map, List.getElem?_map]
  by_cases h : i < c.length
  · rw [List.getElem?_range h, List.getElem?_eq_getElem h]
    show some (V.int ((c.getD i 0 + 1 : Nat) : Int)) = some (V.int ((c[i] + 1 : Nat) : Int))
    rw [List.getD_eq_getElem?_getD, List.getElem?_eq_getElem h]
    rfl
  · rw [List.getElem?_eq_none (by rw [List.length_range]; omega), List.getElem?_eq_none (by omega)]
    rfl
theorem rd_law {vs : List V} {H : Hp} {Q : VK} {E : XK} (h : sp_law K vs H Q E) : t_law K { nx := fun _ H2 => Q .non H2, rt := Q } (start ["script", "deck", "turn", "size", "way", "cascade", "due", "raised", "less", "small", "told", "near", "a", "at"] vs) H := by
  obtain ⟨a, ns, rfl, hs, hl, k⟩ := h
  have sm : ∀ m : Int, m ≤ 10 ^ 16 → m < 2 ^ 8000 := fun m h => by
    have : (10 : Int) ^ 16 < 2 ^ 8000 := by decide +kernel
    omega
  have b31 : 10 ^ 31 < 2 ^ 1900 := by decide +kernel
  have b312 : 10 ^ 31 * 10 ^ 31 + 10 ^ 31 < 2 ^ 1900 := by decide +kernel
  have b312' : 10 ^ 31 + 200 < 2 ^ 2000 := by decide +kernel
  refine q_asgC (vs := [.ref a]) (ea_cons (ev_var rfl) ea_nil) fun H1 e1 => ?_
  refine ⟨a, ns, rfl, ex_l e1 hs, hl, fun d l H2 hd hl2 dk e2 => ?_⟩
  have W0 : W H1 d l H2 := ⟨e2, dk, hd, hl2⟩
  refine q_forR1 (n := 2) (ea_cons ev_c ea_nil) ⟨by decide, by decide⟩ (fun i σ' H' => (∃ y2 y3 y4 y5 y6 y7 y8 y9 y10 y11 y12 y13, σ' = [some (.ref a), some (.ref d), y2, y3, y4, y5, y6, y7, y8, y9, y10, y11, y12, y13]) ∧ W H1 d l H') (fun H3 e3 => ⟨⟨_, _, _, _, _, _, _, _, _, _, _, _, rfl⟩, W0.up e3⟩) ?_ ?_
  · rintro turn σ' H3 _ ⟨⟨y2, y3, y4, y5, y6, y7, y8, y9, y10, y11, y12, y13, rfl⟩, W1⟩
    -- size, way
    refine k_tup2 (ena_cons (P := fun v => ∃ s : Nat, v = .int (s : Int) ∧ 1 ≤ s ∧ s ≤ 15) (en_op (P1 := fun v => v = .int 1) (en_ev ev_c) (en_drawP (P := fun m => m = 15 ∨ m = 7) (ev_var rfl) (en_if (R := fun _ => True) (ent_test (P := fun v => ∃ b, v = .bl b) (en_op (P2 := fun v => v = .int 0) (en_draw (many := 4) (ev_var rfl) (en_ev ev_c) (by decide) (sm _ (by decide))) (en_ev ev_c) ?_) ?_) (fun _ => en_imp (en_ev ev_c) fun v hv => ⟨15, hv, .inl rfl⟩) (fun _ => en_imp (en_ev ev_c) fun v hv => ⟨7, hv, .inr rfl⟩)) ?_) ?_) (ena_ev (ea_cons (ev_op (ev_var rfl) ev_c rv_I0) ea_nil))) W1 (fun vs hv => by obtain ⟨x, r, rfl, _, rfl⟩ := hv; exact ⟨_, _, rfl⟩) fun u v H4 hv W2 => ?_
    · rintro x y ⟨r, rfl, _, _⟩ rfl
      exact ⟨_, rv_eq rfl, _, rfl⟩
    · rintro v ⟨b, rfl⟩
      exact ⟨b, rfl, trivial⟩
    · rintro m (rfl | rfl)
      · exact ⟨by decide, sm _ (by decide)⟩
      · exact ⟨by decide, sm _ (by decide)⟩
    · rintro x y rfl ⟨m, r, hm, rfl, r0, r1⟩
      exact ⟨_, rv_I0, 1 + r.toNat, by congr 1; omega, by omega, by omega⟩
    obtain ⟨x, r, he, ⟨s, rfl, h1, h2⟩, rfl⟩ := hv
    injection he with ea eb
    injection eb with eb _
    subst ea eb
    generalize Builtin.bitAnd (turn : Int) 1 = way
    obtain ⟨t1, t2⟩ := of_tops h1 h2
    -- cascade
    refine k_cas1 (s := s) W2 h1 h2 (ev_var rfl) (ev_var rfl) fun p c H5 gc hp0 W3 => ?_
    have vc : val s c < 10 ^ 31 := Nat.lt_trans (good_val_lt gc (by omega)) (lim_of h1 h2)
    have ic : ∀ b ∈ c, b < 2 ^ 2000 := fun b hb => by have := gc.le b hb; omega
    have s60 : s ≤ 60 := by omega
    have lc := gc.cas.len
    -- due
    refine k_newL (el_call (ea_cons (ev_var rfl) (ea_cons (ev_var rfl) ea_nil)) (sl_law_four (show TupN (upd H1 p (.tup (nats c))) p c from upd_same) gc.cas s60 ic)) W3 fun q H6 hq0 W4 => ?_
    have pq : p ≠ q := fun z => by rw [z, upd_same] at hq0; cases hq0
    have x0 : Ex H1 (upd (upd H1 p (.tup (nats c))) q (.lst (nats (five s c)))) := (Ex.new hp0).trans (Ex.new hq0)
    have hp : TupN (upd (upd H1 p (.tup (nats c))) q (.lst (nats (five s c)))) p c := by
      show upd _ q _ p = _
      rw [upd_ne pq, upd_same]
    have hq : (upd (upd H1 p (.tup (nats c))) q (.lst (nats (five s c)))) q = some (.lst (nats (five s c))) := upd_same
    generalize upd (upd H1 p (.tup (nats c))) q (.lst (nats (five s c))) = G at x0 hp hq W4
    have five0 : atI (nats (five s c)) 0 = some (.int (val s c : Nat)) := at_of (j := 0) rfl rfl
    have five4 : atI (nats (five s c)) 4 = some (.int (sumC fUP s c : Nat)) := at_of (j := 4) rfl rfl
    -- the four numbers of the cascade
    refine k_when (R := fun b => b = false) (ent_ev (et_is (et_not (et_B (ev_right (n := val s c) (s := s) (ev_op (ev_var rfl) ev_c (rv_ixL (sq_of hq) five0)) (ev_var rfl) (el_is (el_sl (ev_var rfl) (eo_some ev_c) eo_none (sq_of hq)) (cut_five gc.cas)) (ev_var rfl) h1 (by omega) vc))) rfl)) W4 (fun hb => by cases hb) fun _ H7 W5 => ?_
    -- raised
    refine k_newU (eu_tupOf (el_is (el_tup (fun _ => true) (fun p => .int ((c.getD p 0 + 1 : Nat) : Int)) (es_ev (ev_var rfl) (st_of hp)) (by rw [List.length_map]; omega) (fun x => rfl) (fun p x hx => et_yes) (fun z x hx _ => by
      obtain ⟨b, g, rfl⟩ := nats_get hx
      have eb : c.getD z 0 = b := by rw [List.getD_eq_getElem?_getD, g]; rfl
      rw [eb]
      exact ev_is (ev_op (ev_var rfl) ev_c rv_I0) (by congr 1))) (given_plus c))) W5 fun r H8 hr0 W6 => ?_
    have x1 : Ex G (upd G r (.tup (nats (c.map (· + 1))))) := Ex.new hr0
    have hr : TupN (upd G r (.tup (nats (c.map (· + 1))))) r (c.map (· + 1)) := upd_same
    have hp := x1 _ _ hp
    have hq := x1 _ _ hq
    have x0 := x0.trans x1
    generalize upd G r (.tup (nats (c.map (· + 1)))) = G1 at x0 hp hq hr W6
    have upc := gc.cas.up
    have vup : val (s + 1) (c.map (· + 1)) = sumC fUP s c := sumC_up ch gc.cas
    have iup : ∀ b ∈ c.map (· + 1), b < 2 ^ 2000 := fun b hb => by
      obtain ⟨z, hz, rfl⟩ := List.mem_map.mp hb
      have := gc.le z hz
      omega
    have cN : cas s (val s c) = c := gc.cas.uniq
    have uple : sumC fUP s c < 2 ^ 1900 := by
      have := sumC_sq fUP fUP_sq gc.cas
      have : val s c * val s c ≤ 10 ^ 31 * 10 ^ 31 := Nat.mul_le_mul (by omega) (by omega)
      omega
    have s1 : (s : Int) + 1 = ((s + 1 : Nat) : Int) := by omega
    have swp : SW (0 + 1 + (0 + 1 + 0)) (max 0 (max 0 0) + 1) (.tuple [.int ((sumC fUP s c : Nat) : Int), .int ((val s c : Nat) : Int)]) := sw_tup (sws_cons (sw_int (by rw [Int.natAbs_natCast]; exact uple)) (sws_cons (sw_int (by rw [Int.natAbs_natCast]; omega)) sws_nil))
    refine k_when (R := fun b => b = false) (ent_ev (et_is (et_test (ev_op (ev_reprT (ed_tup (eds_cons (ed_int (ev_is (ev_call (ea_cons (ev_is (ev_op (ev_var rfl) ev_c rv_I0) (by rw [s1])) (ea_cons (ev_var rfl) ea_nil)) (sv_number_of (by omega) hr upc (by omega) iup)) (by rw [vup]))) (eds_cons (ed_int (ev_call (ea_cons (ev_var rfl) (ea_cons (ev_var rfl) ea_nil)) (sv_number_of h1 hp gc.cas s60 ic))) eds_nil)) (by simp)) swp) (ev_reprT (ed_tup (eds_cons (ed_int (ev_op (ev_var rfl) ev_c (rv_ixL (sq_of hq) five4))) (eds_cons (ed_int (ev_op (ev_var rfl) ev_c (rv_ixL (sq_of hq) five0))) eds_nil)) (by simp)) swp) (rv_ne rfl))) (by rw [decide_eq_true rfl]; rfl))) W6 (fun hb => by cases hb) fun _ H9 W7 => ?_
    -- less
    refine k_asg (P := fun v => v = .int (sumC (fun a i => ch (a - 1) i) s c : Nat)) (en_ev (four_at (c := c) (fun a i => ch (a - 1) i) gc.cas s60 (ev_var rfl) hp (fun x y => rfl) fun z b hz hlb hm => evl_choose (m := b - 1) (s := s - z) (ev_is (ev_op (ev_var rfl) ev_c rv_I0) (by congr 1; omega)) (ev_is (ev_op (ev_var rfl) (ev_var rfl) rv_I0) (by congr 1; omega)) (by omega) (by have := item_big (ic b hm); omega))) W7 fun v HA hv W8 => ?_
    subst hv
    refine k_when (R := fun b => b = false) (ent_ev (et_is (et_test (ev_op (ev_op (ev_op (ev_var rfl) ev_c (rv_ixL (sq_of hq) five0)) (ev_callK (z := .int (LP (val s c) s : Nat)) (ea_cons (ev_var rfl) (ea_cons (ev_op (ev_var rfl) ev_c (rv_ixL (sq_of hq) five0)) ea_nil)) rfl (sv_lower_product h1 s60 (by omega))) rv_I0) (ev_var rfl) (rv_ne rfl))) ?_)) W8 (fun hb => by cases hb) fun _ HB W9 => ?_
    · have h3 := val_split gc.cas
      have h4 : LP (val s c) s = sumC fLP s c := by unfold LP; rw [cN]
      have h5 : ((val s c : Nat) : Int) - (LP (val s c) s : Nat) = ((sumC (fun a i => ch (a - 1) i) s c : Nat) : Int) := by omega
      rw [h5, decide_eq_true rfl]
      rfl
    -- small
    refine k_asg (P := fun v => ∃ z : Nat, v = .int (z : Int) ∧ z < 10 ^ 31) (en_imp (en_drawP (P := fun m => m ∈ ([8, 60, 2000] : List Int)) (ev_var rfl) (en_pickL [8, 60, 2000] (ev_var rfl) (ea_cons ev_c (ea_cons ev_c (ea_cons ev_c ea_nil))) (by simp) (by simp)) ?_) ?_) W9 fun v HC hv WA => ?_
    · intro m hm
      simp only [List.mem_cons, List.not_mem_nil, or_false] at hm
      exact ⟨by omega, sm _ (by omega)⟩
    · rintro v ⟨m, r, hm, rfl, r0, r1⟩
      simp only [List.mem_cons, List.not_mem_nil, or_false] at hm
      exact ⟨r.toNat, by congr 1; omega, by omega⟩
    obtain ⟨z, rfl, hz⟩ := hv
    -- if turn == 1: small, size = ..
    refine k_whenM (fun σ' H' => ∃ z s' : Nat, σ' = [some (.ref a), some (.ref d), some (.int (turn : Int)), some (.int (s' : Int)), some (.int way), some (.ref p), some (.ref q), some (.ref r), some (.int (sumC (fun a i => ch (a - 1) i) s c : Nat)), some (.int (z : Int)), y10, y11, y12, y13] ∧ z < 10 ^ 31 ∧ 1 ≤ s' ∧ s' ≤ 16 ∧ W G1 d l H') (ent_ev (et_test (ev_op (ev_var rfl) ev_c (rv_eq rfl)))) WA (fun _ HD WB Nx kN => ?_) (fun _ HD WB => ⟨z, s, rfl, hz, h1, by omega, WB⟩) ?_
    · refine k_tup21 (ena_cons (P := fun v => ∃ z : Nat, v = .int z ∧ z < 10 ^ 31) (en_op (P1 := fun v => v = .int 1) (en_ev ev_c) (en_below (P := fun m => m = 10 ^ 30) (ev_var rfl) (en_imp (en_ev (ev_op ev_c ev_c (rv_I ⟨by decide, by decide, by decide⟩))) fun v hv => ⟨10 ^ 30, hv, rfl⟩) (fun m hm => by rw [hm]; decide +kernel)) ?_) (ena_cons (P := fun v => ∃ s : Nat, v = .int s ∧ 1 ≤ s ∧ s ≤ 16) (en_op (P1 := fun v => v = .int 1) (en_ev ev_c) (en_draw (many := 16) (ev_var rfl) (en_ev ev_c) (by decide) (sm _ (by decide))) ?_) ena_nil)) WB (fun vs hv => by obtain ⟨x, r, rfl, _, y, r2, rfl, _, rfl⟩ := hv; exact ⟨_, _, rfl⟩) fun u v HE hv WC => ?_
      · rintro x y rfl ⟨m, r, rfl, rfl, r0, r1⟩
        exact ⟨_, rv_I0, 1 + r.toNat, by congr 1; omega, by omega⟩
      · rintro x y rfl ⟨r, rfl, r0, r1⟩
        exact ⟨_, rv_I0, 1 + r.toNat, by congr 1; omega, by omega, by omega⟩
      · obtain ⟨x, r, he, ⟨z, rfl, hz⟩, y, r2, rfl, ⟨s', rfl, h3, h4⟩, rfl⟩ := hv
        injection he with ea eb
        injection eb with eb _
        subst ea eb
        exact kN _ HE ⟨z, s', rfl, hz, h3, h4, WC⟩
    clear hz
    clear z
    rintro σ' HD ⟨z, s', rfl, hz, h3, h4, WB⟩
    -- told
    have z20 : z < 2 ^ 2000 := by omega
    have hct := cas_is s' z
    have hvt : val s' (cas s' z) = z := cas_val s' z (by omega)
    have lct := hct.len
    have ict : ∀ b ∈ cas s' z, b < 2 ^ 2000 := fun b hb => by have := cas_item b hb; omega
    refine k_newU (eu_call (ea_cons (ev_var rfl) (ea_cons (ev_var rfl) ea_nil)) (su_cascade_of (n := z) h3 (by omega) z20)) WB fun t HE ht0 WC => ?_
    have x2 : Ex G1 (upd G1 t (.tup (nats (cas s' z)))) := Ex.new ht0
    have ht : TupN (upd G1 t (.tup (nats (cas s' z)))) t (cas s' z) := upd_same
    have x0 := x0.trans x2
    generalize upd G1 t (.tup (nats (cas s' z))) = G2 at x0 ht WC
    have hT : SqT K G2 t (nats (cas s' z)) := st_of ht
    refine k_when (R := fun b => b = false) (ent_ev (et_is (et_or (et_not (et_B (isi_tup (ev_var rfl) ht))) fun _ => et_or (et_test (ev_op (ev_cb (ea_cons (ev_var rfl) ea_nil) (rc_lenT hT)) (ev_var rfl) rv_I0)) fun _ => et_test (ev_opLL (el_is (el_tup (fun _ => false) (fun _ => .non) (es_ev (ev_var rfl) hT) (by rw [List.length_map]; omega) (fun x => rfl) (fun p x hx => ?_) (fun p x hx hf => by cases hf)) (given_none _)) (el_lst ea_nil (by decide)) fun p q H2 hp hq e2 => rv_neE hp hq)) ?_)) WC (fun hb => by cases hb) fun _ HF WD => ?_
    · obtain ⟨b, q, rfl⟩ := nats_get hx
      exact et_is (et_or (et_not (et_B (isi_int (ev_var rfl)))) fun _ => et_B (isi_bool (ev_var rfl))) rfl
    · have : decide ((s' : Int) < ((nats (cas s' z)).length : Int)) = false := decide_eq_false (by rw [List.length_map]; omega)
      rw [this]; rfl
    -- near
    refine k_newL (el_call (ea_cons (ev_var rfl) (ea_cons (ev_var rfl) ea_nil)) (sl_law_four ht hct (by omega) ict)) WD fun u HG hu0 WE => ?_
    have x3 : Ex G2 (upd G2 u (.lst (nats (five s' (cas s' z))))) := Ex.new hu0
    have hu : (upd G2 u (.lst (nats (five s' (cas s' z))))) u = some (.lst (nats (five s' (cas s' z)))) := upd_same
    have x0 := x0.trans x3
    generalize upd G2 u (.lst (nats (five s' (cas s' z)))) = G3 at x0 hu WE
    have near0 : atI (nats (five s' (cas s' z))) 0 = some (.int (z : Int)) := at_of (j := 0) rfl (by show some (V.int (val s' (cas s' z) : Nat)) = _; rw [hvt])
    have cutn : cutV (nats (five s' (cas s' z))) (some 1) none = nats [LS z s', US z s', LP z s', UP z s'] := by
      rw [cut_five hct, hvt]
    refine k_if1 (R := fun b => b = false) (ent_ev (et_is (et_or (et_test (ev_op (ev_op (ev_var rfl) ev_c (rv_ixL (sq_of hu) near0)) (ev_var rfl) (rv_ne rfl))) fun _ => et_not (et_B (ev_right (n := z) (s := s') (ev_var rfl) (ev_var rfl) (el_is (el_sl (ev_var rfl) (eo_some ev_c) eo_none (sq_of hu)) cutn) (ev_op ev_c (ev_var rfl) rv_I0) h3 (by omega) hz))) (by rw [decide_eq_true rfl]; rfl))) WE (fun hb => by cases hb) fun _ HH WF => ?_
    exact ⟨⟨_, _, _, _, _, _, _, _, _, _, _, _, rfl⟩, W.low x0 WF⟩
  · rintro σ' H3 ⟨⟨y2, y3, y4, y5, y6, y7, y8, y9, y10, y11, y12, y13, rfl⟩, W1⟩
    have n0 : (0 : Nat) < 2 ^ 2000 := by decide +kernel
    have i0 : ∀ {σ : L2.St} {H : Hp}, Ev (tC (.int 0)) σ H (.int ((0 : Nat) : Int)) := ev_c
    have i3 : ∀ {σ : L2.St} {H : Hp}, Ev (tC (.int 3)) σ H (.int ((3 : Nat) : Int)) := ev_c
    have sw0 : SW 4 1 (dL [0, 0, 0, 0]) := sw_dL (c := [0, 0, 0, 0]) fun b hb => by
      have : b = 0 := by simpa using hb
      rw [this]
      decide +kernel
    refine s_ret (v := .bl true) (ev_is (ev_op (ev_reprL (ed_newL (c := [0, 0, 0, 0]) (el_is (el_lst (ea_cons (ev_call (ea_cons i0 (ea_cons i3 ea_nil)) (sv_lower (n := 0) (s := 3) (by decide) (by decide) n0)) (ea_cons (ev_call (ea_cons i0 (ea_cons i3 ea_nil)) (sv_upper (n := 0) (s := 3) (by decide) (by decide) n0)) (ea_cons (ev_call (ea_cons i0 (ea_cons i3 ea_nil)) (sv_lower_product (n := 0) (s := 3) (by decide) (by decide) n0)) (ea_cons (ev_call (ea_cons i0 (ea_cons i3 ea_nil)) (sv_upper_product (n := 0) (s := 3) (by decide) (by decide) n0)) ea_nil)))) (by simp)) rfl)) sw0) (ev_reprL (ed_newL (c := [0, 0, 0, 0]) (el_is (el_rep (n := 4) (el_lst (ea_cons ev_c ea_nil) (by simp)) ev_c (by simp) (by decide)) rfl)) sw0) (rv_eq rfl)) ?_) fun H4 _ => k H4
    rw [decide_eq_true rfl]
end HK03

namespace Hd
open PySem PySem.Spec PyProof.Rows L2
def top (i : Nat) : Stmt := PySem.Challenge.pw_holerows_k03_the_four_numbers_of_a_casca.main.body.getD i (.Pass ⟨0, 0, 0, 0⟩)
abbrev s_is_whole : Stmt := top 1
abbrev s_is_count : Stmt := top 2
abbrev s_is_size : Stmt := top 3
abbrev s_choose : Stmt := top 4
abbrev s_greatest_many : Stmt := top 5
abbrev s_cascade_by : Stmt := top 6
abbrev s_lower : Stmt := top 7
abbrev s_upper : Stmt := top 8
abbrev s_lower_product : Stmt := top 9
abbrev s_upper_product : Stmt := top 10
abbrev s_need_both : Stmt := top 17
abbrev s_need_size : Stmt := top 18
abbrev s_cascade_of : Stmt := top 19
abbrev s_lower_sets : Stmt := top 20
abbrev s_upper_sets : Stmt := top 21
abbrev s_lower_products : Stmt := top 22
abbrev s_upper_products : Stmt := top 23
abbrev s_is_falling : Stmt := top 24
abbrev s_number_of : Stmt := top 25
abbrev s_law_deck : Stmt := top 27
abbrev s_law_draw : Stmt := top 28
abbrev s_law_pick : Stmt := top 29
abbrev s_law_below : Stmt := top 30
abbrev s_law_choose : Stmt := top 31
abbrev s_law_cascade : Stmt := top 32
abbrev s_law_four : Stmt := top 33
abbrev s_law_is_right : Stmt := top 34
abbrev s_law : Stmt := top 35
def fn : List He.DefD := [⟨("is_whole", none), "is_whole", "is_whole", defArgs s_is_whole, defBody s_is_whole, defScope s_is_whole, [], []⟩, ⟨("is_count", none), "is_count", "is_count", defArgs s_is_count, defBody s_is_count, defScope s_is_count, [], []⟩, ⟨("is_size", none), "is_size", "is_size", defArgs s_is_size, defBody s_is_size, defScope s_is_size, [], []⟩, ⟨("choose", none), "choose", "choose", defArgs s_choose, defBody s_choose, defScope s_choose, [], []⟩, ⟨("greatest_many", none), "greatest_many", "greatest_many", defArgs s_greatest_many, defBody s_greatest_many, defScope s_greatest_many, [], []⟩, ⟨("cascade_by", none), "cascade_by", "cascade_by", defArgs s_cascade_by, defBody s_cascade_by, defScope s_cascade_by, [], []⟩, ⟨("lower", none), "lower", "lower", defArgs s_lower, defBody s_lower, defScope s_lower, [], []⟩, ⟨("upper", none), "upper", "upper", defArgs s_upper, defBody s_upper, defScope s_upper, [], []⟩, ⟨("lower_product", none), "lower_product", "lower_product", defArgs s_lower_product, defBody s_lower_product, defScope s_lower_product, [], []⟩, ⟨("upper_product", none), "upper_product", "upper_product", defArgs s_upper_product, defBody s_upper_product, defScope s_upper_product, [], []⟩, ⟨("need_both", none), "need_both", "need_both", defArgs s_need_both, defBody s_need_both, defScope s_need_both, [], []⟩, ⟨("need_size", none), "need_size", "need_size", defArgs s_need_size, defBody s_need_size, defScope s_need_size, [], []⟩, ⟨("cascade_of", none), "cascade_of", "cascade_of", defArgs s_cascade_of, defBody s_cascade_of, defScope s_cascade_of, [], []⟩, ⟨("lower_sets", none), "lower_sets", "lower_sets", defArgs s_lower_sets, defBody s_lower_sets, defScope s_lower_sets, [], []⟩, ⟨("upper_sets", none), "upper_sets", "upper_sets", defArgs s_upper_sets, defBody s_upper_sets, defScope s_upper_sets, [], []⟩, ⟨("lower_products", none), "lower_products", "lower_products", defArgs s_lower_products, defBody s_lower_products, defScope s_lower_products, [], []⟩, ⟨("upper_products", none), "upper_products", "upper_products", defArgs s_upper_products, defBody s_upper_products, defScope s_upper_products, [], []⟩, ⟨("is_falling", none), "is_falling", "is_falling", defArgs s_is_falling, defBody s_is_falling, defScope s_is_falling, [], []⟩, ⟨("number_of", none), "number_of", "number_of", defArgs s_number_of, defBody s_number_of, defScope s_number_of, [], []⟩, ⟨("_law_deck", none), "_law_deck", "_law_deck", defArgs s_law_deck, defBody s_law_deck, defScope s_law_deck, [], []⟩, ⟨("_law_draw", none), "_law_draw", "_law_draw", defArgs s_law_draw, defBody s_law_draw, defScope s_law_draw, [], []⟩, ⟨("_law_pick", none), "_law_pick", "_law_pick", defArgs s_law_pick, defBody s_law_pick, defScope s_law_pick, [], []⟩, ⟨("_law_below", none), "_law_below", "_law_below", defArgs s_law_below, defBody s_law_below, defScope s_law_below, [], []⟩, ⟨("_law_choose", none), "_law_choose", "_law_choose", defArgs s_law_choose, defBody s_law_choose, defScope s_law_choose, [], []⟩, ⟨("_law_cascade", none), "_law_cascade", "_law_cascade", defArgs s_law_cascade, defBody s_law_cascade, defScope s_law_cascade, [], []⟩, ⟨("_law_four", none), "_law_four", "_law_four", defArgs s_law_four, defBody s_law_four, defScope s_law_four, [], []⟩, ⟨("_law_is_right", none), "_law_is_right", "_law_is_right", defArgs s_law_is_right, defBody s_law_is_right, defScope s_law_is_right, [], []⟩, ⟨("law", none), "law", "law", defArgs s_law, defBody s_law, defScope s_law, [], []⟩]
def fa : List He.Fa := [.glo "is_whole", .glo "is_count", .glo "is_size", .glo "choose", .glo "greatest_many", .glo "cascade_by", .glo "lower", .glo "upper", .glo "lower_product", .glo "upper_product", .glo "need_both", .glo "need_size", .glo "cascade_of", .glo "lower_sets", .glo "upper_sets", .glo "lower_products", .glo "upper_products", .glo "is_falling", .glo "number_of", .glo "_law_deck", .glo "_law_draw", .glo "_law_pick", .glo "_law_below", .glo "_law_choose", .glo "_law_cascade", .glo "_law_four", .glo "_law_is_right", .glo "law", .free "Exception", .free "range", .free "tuple", .free "sum", .free "all", .free "min", .free "isinstance", .free "int", .free "repr", .free "bool", .free "len", .free "list", .free "enumerate", .free "zip", .free "max"]
abbrev R : PySem.W.OpenRow := PySem.W.OpenLaw.row PySem.Challenge.rw_holerows_k03_the_four_numbers_of_a_casca
abbrev hk : PySem.W.Hook := He.hookD 4 fa fn
def ob (s : PySem.W.SharedT) : He.AlD := He.obsDG 4 fa fn (HandSHeadRun.getT s)
theorem ob_eq (s : PySem.W.SharedT) : ob s = hk.obs s.abs := He.obsDG_eq (HandSHeadRun.getT_eq s)
def names : List PySem.Str := ["is_whole", "is_count", "is_size", "choose", "greatest_many", "cascade_by", "lower", "upper", "lower_product", "upper_product", "CountError", "BadNumber", "BadSize", "BadCascade", "need_both", "need_size", "cascade_of", "lower_sets", "upper_sets", "lower_products", "upper_products", "is_falling", "number_of", "_law_deck", "_law_draw", "_law_pick", "_law_below", "_law_choose", "_law_cascade", "_law_four", "_law_is_right"]
theorem run (w : World) : HandSHeadRun.RunEq R (PySem.W.view R.prog [35]) hk ob 2000 names w := by
  intro os
  kernel_rfl
end Hd
namespace Dv
open PySem PySem.Spec PyProof.Rows L2 Evl HG HL HC HR HN HP HCas HD HM HQ HK03
structure Tx (K : PySem.W.Frag) (mg : Str → Option Value) : Prop where
  d_is_whole : At K mg "is_whole" Hd.s_is_whole
  d_is_count : At K mg "is_count" Hd.s_is_count
  d_is_size : At K mg "is_size" Hd.s_is_size
  d_choose : At K mg "choose" Hd.s_choose
  d_greatest_many : At K mg "greatest_many" Hd.s_greatest_many
  d_cascade_by : At K mg "cascade_by" Hd.s_cascade_by
  d_lower : At K mg "lower" Hd.s_lower
  d_upper : At K mg "upper" Hd.s_upper
  d_lower_product : At K mg "lower_product" Hd.s_lower_product
  d_upper_product : At K mg "upper_product" Hd.s_upper_product
  d_need_both : At K mg "need_both" Hd.s_need_both
  d_need_size : At K mg "need_size" Hd.s_need_size
  d_cascade_of : At K mg "cascade_of" Hd.s_cascade_of
  d_lower_sets : At K mg "lower_sets" Hd.s_lower_sets
  d_upper_sets : At K mg "upper_sets" Hd.s_upper_sets
  d_lower_products : At K mg "lower_products" Hd.s_lower_products
  d_upper_products : At K mg "upper_products" Hd.s_upper_products
  d_is_falling : At K mg "is_falling" Hd.s_is_falling
  d_number_of : At K mg "number_of" Hd.s_number_of
  d_law_deck : At K mg "_law_deck" Hd.s_law_deck
  d_law_draw : At K mg "_law_draw" Hd.s_law_draw
  d_law_pick : At K mg "_law_pick" Hd.s_law_pick
  d_law_below : At K mg "_law_below" Hd.s_law_below
  d_law_choose : At K mg "_law_choose" Hd.s_law_choose
  d_law_cascade : At K mg "_law_cascade" Hd.s_law_cascade
  d_law_four : At K mg "_law_four" Hd.s_law_four
  d_law_is_right : At K mg "_law_is_right" Hd.s_law_is_right
  d_law : At K mg "law" Hd.s_law
  b_Exception : mg "Exception" = none
  b_range : mg "range" = none
  b_tuple : mg "tuple" = none
  b_sum : mg "sum" = none
  b_all : mg "all" = none
  b_min : mg "min" = none
  b_isinstance : mg "isinstance" = none
  b_int : mg "int" = none
  b_repr : mg "repr" = none
  b_bool : mg "bool" = none
  b_len : mg "len" = none
  b_list : mg "list" = none
  b_enumerate : mg "enumerate" = none
  b_zip : mg "zip" = none
  b_max : mg "max" = none
theorem kb_lower_sets_size_number : ∀ (kV doc pm : Value) (an : Option Addr) (cdv ct : Value) (ws : List Value), ws.length = [("size" : Str), ("number" : Str)].length → bindArgs (PySem.W.fnOf "lower_sets" "lower_sets" (defArgs Hd.s_lower_sets) (defBody Hd.s_lower_sets) (defScope Hd.s_lower_sets) .none kV doc pm an cdv ct) ⟨[], (["size", "number"] : List Str).zip ws⟩ = pure ((["number", "size"] : List Str).zip (perm pm_lower_sets_size_number ws)) := fun _ _ _ _ _ _ us hl => match us, hl with | [_, _], _ => rfl
theorem kb_upper_sets_size_number : ∀ (kV doc pm : Value) (an : Option Addr) (cdv ct : Value) (ws : List Value), ws.length = [("size" : Str), ("number" : Str)].length → bindArgs (PySem.W.fnOf "upper_sets" "upper_sets" (defArgs Hd.s_upper_sets) (defBody Hd.s_upper_sets) (defScope Hd.s_upper_sets) .none kV doc pm an cdv ct) ⟨[], (["size", "number"] : List Str).zip ws⟩ = pure ((["number", "size"] : List Str).zip (perm pm_upper_sets_size_number ws)) := fun _ _ _ _ _ _ us hl => match us, hl with | [_, _], _ => rfl
theorem kb_lower_products_size_number : ∀ (kV doc pm : Value) (an : Option Addr) (cdv ct : Value) (ws : List Value), ws.length = [("size" : Str), ("number" : Str)].length → bindArgs (PySem.W.fnOf "lower_products" "lower_products" (defArgs Hd.s_lower_products) (defBody Hd.s_lower_products) (defScope Hd.s_lower_products) .none kV doc pm an cdv ct) ⟨[], (["size", "number"] : List Str).zip ws⟩ = pure ((["number", "size"] : List Str).zip (perm pm_lower_products_size_number ws)) := fun _ _ _ _ _ _ us hl => match us, hl with | [_, _], _ => rfl
theorem kb_upper_products_size_number : ∀ (kV doc pm : Value) (an : Option Addr) (cdv ct : Value) (ws : List Value), ws.length = [("size" : Str), ("number" : Str)].length → bindArgs (PySem.W.fnOf "upper_products" "upper_products" (defArgs Hd.s_upper_products) (defBody Hd.s_upper_products) (defScope Hd.s_upper_products) .none kV doc pm an cdv ct) ⟨[], (["size", "number"] : List Str).zip ws⟩ = pure ((["number", "size"] : List Str).zip (perm pm_upper_products_size_number ws)) := fun _ _ _ _ _ _ us hl => match us, hl with | [_, _], _ => rfl
section
variable {P : Program} {w : World} {K : PySem.W.Frag} {mg : Str → Option Value} {base : Heap}
theorem c_is_whole (Tx : Tx K mg) : Cl P w K mg base 1 "is_whole" Hd.s_is_whole ["thing"] sp_is_whole := by
  have sc : FnScope ["thing"] ["thing"] (defScope Hd.s_is_whole) := ⟨rfl, rfl, rfl, by decide +kernel, rfl, by decide +kernel, by decide +kernel⟩
  refine cl Tx.d_is_whole sc (fun _ _ _ _ _ _ us hl => match us, hl with | [_], _ => rfl) (fun xs H Q E h => ?_) (fun f cd B fr t H xs Q E hg hr h => ⟨t_is_whole K, ?_, rd_is_whole h⟩)
  · unfold sp_is_whole at h
    obtain ⟨_, rfl, _⟩ := h
    rfl
  · have hu64 := hr.units
    have hu0 := hr.units0
    have hu1 := Nat.lt_of_le_of_lt (Nat.add_le_add_left (by decide : 1 ≤ 64) _) hu64
    exact (pss_one (ps_ret (pe_and (pe_callB call_isi (by rfl) Tx.b_isinstance (by decide +kernel) (pa_cons (pv 0) (pa_cons (pe_bltn (by rfl) Tx.b_int (by decide +kernel) (show RelV (.ty "int") _ from rfl)) pa_nil))) (pe_one (pe_not (pe_callB call_isi (by rfl) Tx.b_isinstance (by decide +kernel) (pa_cons (pv 0) (pa_cons (pe_bltn (by rfl) Tx.b_bool (by decide +kernel) (show RelV (.ty "bool") _ from rfl)) pa_nil))))))))
theorem c_choose (Tx : Tx K mg) : Cl P w K mg base 1 "choose" Hd.s_choose ["many", "size"] sp_choose := by
  have sc : FnScope ["many", "size", "found", "at"] ["many", "size"] (defScope Hd.s_choose) := ⟨rfl, rfl, rfl, by decide +kernel, rfl, by decide +kernel, by decide +kernel⟩
  refine cl Tx.d_choose sc (fun _ _ _ _ _ _ us hl => match us, hl with | [_, _], _ => rfl) (fun xs H Q E h => ?_) (fun f cd B fr t H xs Q E hg hr h => ⟨t_choose K, ?_, rd_choose h⟩)
  · unfold sp_choose at h
    obtain ⟨_, _, rfl, _⟩ := h
    rfl
  · have hu64 := hr.units
    have hu0 := hr.units0
    have hu1 := Nat.lt_of_le_of_lt (Nat.add_le_add_left (by decide : 1 ≤ 64) _) hu64
    exact (pss_cons (ps_if (PW.pt (pw_or (pt_cmpR op_lt (pv 1) pe_int (nomark _)) (pw_or1 (pt_cmpR op_lt (pv 0) (pv 1) (nomark _))))) (pss_one (ps_ret pe_int)) pss_nil)
      (pss_cons (ps_set (i := 2) sc.nd rfl (Or.inl rfl) pe_int)
      (pss_cons (ps_for PassesOwn.never rfl (pi_range1 (by rfl) Tx.b_range (pa_cons (pv 1) pa_nil)) (pg_name (i := 3) sc.nd rfl (Or.inl rfl)) (pss_one (ps_set (i := 2) sc.nd rfl (Or.inl rfl) (pe_op op_fdivW (pe_op op_mulO (pv 2) (pe_op op_sub (pv 0) (pv 3))) (pe_op op_add (pv 3) pe_int)))))
      (pss_one (ps_ret (pv 2))))))
theorem c_law_deck (Tx : Tx K mg) : Cl P w K mg base 1 "_law_deck" Hd.s_law_deck ["script"] (sp_law_deck K) := by
  have sc : FnScope ["script", "mixed", "cell"] ["script"] (defScope Hd.s_law_deck) := ⟨rfl, rfl, rfl, by decide +kernel, rfl, by decide +kernel, by decide +kernel⟩
  refine cl Tx.d_law_deck sc (fun _ _ _ _ _ _ us hl => match us, hl with | [_], _ => rfl) (fun xs H Q E h => ?_) (fun f cd B fr t H xs Q E hg hr h => ⟨t_law_deck K 10887303 23, ?_, rd_law_deck (c0 := 10887303) (c1 := 23) (by decide) h⟩)
  · unfold sp_law_deck at h
    obtain ⟨_, _, rfl, _⟩ := h
    rfl
  · have hu64 := hr.units
    have hu0 := hr.units0
    have hu1 := Nat.lt_of_le_of_lt (Nat.add_le_add_left (by decide : 1 ≤ 64) _) hu64
    exact (pss_cons (ps_set (i := 1) sc.nd rfl (Or.inl rfl) pe_int)
      (pss_cons (ps_for PassesOwn.never rfl (pi_list (pe_slice sl_list (pv 0) po_none (po_some pe_int))) (pg_name (i := 2) sc.nd rfl (Or.inl rfl)) (pss_one (ps_set (i := 1) sc.nd rfl (Or.inl rfl) (pe_op op_mod (pe_callTy call_int1 (by rfl) Tx.b_int (by decide +kernel) (pa_cons (pe_op op_add (pe_op op_add (pe_op op_mulO (pv 1) pe_int) (pe_op op_mod (pe_callTy call_int1 (by rfl) Tx.b_int (by decide +kernel) (pa_cons (pv 2) pa_nil)) pe_int)) pe_int) pa_nil)) pe_int))))
      (pss_one (ps_ret (pe_disp (pps_cons pe_str (pe_revL (pe_callTy call_list_of (by rfl) Tx.b_list (by decide +kernel) (pa_cons (pe_slice sl_list (pv 0) po_none (po_some pe_int)) pa_nil))) (pps_cons pe_str (pv 1) (pps_cons pe_str pe_int pps_nil))) rfl rfl (by simp) (by decide))))))
theorem c_law_draw (Tx : Tx K mg) : Cl P w K mg base 1 "_law_draw" Hd.s_law_draw ["deck", "many"] sp_law_draw := by
  have sc : FnScope ["deck", "many", "number", "cell"] ["deck", "many"] (defScope Hd.s_law_draw) := ⟨rfl, rfl, rfl, by decide +kernel, rfl, by decide +kernel, by decide +kernel⟩
  refine cl Tx.d_law_draw sc (fun _ _ _ _ _ _ us hl => match us, hl with | [_, _], _ => rfl) (fun xs H Q E h => ?_) (fun f cd B fr t H xs Q E hg hr h => ⟨t_law_draw K 23 41, ?_, rd_law_draw h⟩)
  · unfold sp_law_draw at h
    obtain ⟨_, _, _, rfl, _⟩ := h
    rfl
  · have hu64 := hr.units
    have hu0 := hr.units0
    have hu1 := Nat.lt_of_le_of_lt (Nat.add_le_add_left (by decide : 1 ≤ 64) _) hu64
    exact (pss_cons (ps_dput hu1 (pv 0) pe_str (pe_op op_add (pe_dget hu1 (pv 0) pe_str (fun _ _ => rfl)) pe_int) rfl)
      (pss_cons (ps_set (i := 2) sc.nd rfl (Or.inl rfl) (pe_op op_add (pe_dget hu1 (pv 0) pe_str (fun _ _ => rfl)) (pe_op op_mulO pe_int (pe_dget hu1 (pv 0) pe_str (fun _ _ => rfl)))))
      (pss_cons (ps_if (pt_cmpR (op_neD hu64) (pe_dget hu1 (pv 0) pe_str (fun _ _ => rfl)) (pe_lst pa_nil) (nomark _)) (pss_cons (ps_set (i := 3) sc.nd rfl (Or.inl rfl) (pe_bm0 PySem.F.plainAttrs_list PySem.F.slot_list_pop PySem.F.type_list_pop mt_pop (pe_dget hu1 (pv 0) pe_str (fun _ _ => rfl))))
      (pss_cons (ps_if (pt_cmpR op_ge (pv 3) (pe_op op_pow pe_int pe_int) (nomark _)) (pss_cons (ps_expr (pe_bm PySem.F.plainAttrs_list PySem.F.slot_list_append PySem.F.type_list_append mt_append (pe_dget hu1 (pv 0) pe_str (fun _ _ => rfl)) (pa_cons (pe_op op_fdivW (pv 3) (pe_callB (call_max2 rfl) (by rfl) Tx.b_max (by decide +kernel) (pa_cons pe_int (pa_cons (pv 1) pa_nil)))) pa_nil)))
      (pss_one (ps_ret (pe_op op_mod (pe_callTy call_int1 (by rfl) Tx.b_int (by decide +kernel) (pa_cons (pv 3) pa_nil)) (pv 1))))) pss_nil)
      (pss_one (ps_set (i := 2) sc.nd rfl (Or.inl rfl) (pe_op op_add (pv 2) (pe_op op_mod (pe_callTy call_int1 (by rfl) Tx.b_int (by decide +kernel) (pa_cons (pv 3) pa_nil)) pe_int)))))) pss_nil)
      (pss_cons (ps_set (i := 2) sc.nd rfl (Or.inl rfl) (pe_op op_mod (pe_callTy call_int1 (by rfl) Tx.b_int (by decide +kernel) (pa_cons (pe_op op_add (pe_op op_mulO (pv 2) pe_int) pe_int) pa_nil)) pe_int))
      (pss_cons (ps_set (i := 2) sc.nd rfl (Or.inl rfl) (pe_op op_mod (pe_callTy call_int1 (by rfl) Tx.b_int (by decide +kernel) (pa_cons (pe_op op_add (pe_op op_add (pe_op op_mulO (pv 2) (pv 2)) (pe_op op_mulO pe_int (pe_dget hu1 (pv 0) pe_str (fun _ _ => rfl)))) pe_int) pa_nil)) pe_int))
      (pss_cons (ps_set (i := 2) sc.nd rfl (Or.inl rfl) (pe_op op_mod (pe_callTy call_int1 (by rfl) Tx.b_int (by decide +kernel) (pa_cons (pe_op op_mulO (pv 2) pe_int) pa_nil)) pe_int))
      (pss_one (ps_ret (pe_op op_mod (pe_callTy call_int1 (by rfl) Tx.b_int (by decide +kernel) (pa_cons (pe_op op_fdivW (pv 2) pe_int) pa_nil)) (pv 1))))))))))
theorem c_law_choose (Tx : Tx K mg) : Cl P w K mg base 1 "_law_choose" Hd.s_law_choose ["a", "b"] sp_law_choose := by
  have sc : FnScope ["a", "b", "found", "k"] ["a", "b"] (defScope Hd.s_law_choose) := ⟨rfl, rfl, rfl, by decide +kernel, rfl, by decide +kernel, by decide +kernel⟩
  refine cl Tx.d_law_choose sc (fun _ _ _ _ _ _ us hl => match us, hl with | [_, _], _ => rfl) (fun xs H Q E h => ?_) (fun f cd B fr t H xs Q E hg hr h => ⟨t_law_choose K, ?_, rd_law_choose h⟩)
  · unfold sp_law_choose at h
    obtain ⟨_, _, rfl, _⟩ := h
    rfl
  · have hu64 := hr.units
    have hu0 := hr.units0
    have hu1 := Nat.lt_of_le_of_lt (Nat.add_le_add_left (by decide : 1 ≤ 64) _) hu64
    exact (pss_cons (ps_set (i := 2) sc.nd rfl (Or.inl rfl) pe_int)
      (pss_cons (ps_for PassesOwn.never rfl (pi_range1 (by rfl) Tx.b_range (pa_cons (pe_callB (call_min2 rfl) (by rfl) Tx.b_min (by decide +kernel) (pa_cons (pv 0) (pa_cons (pv 1) pa_nil))) pa_nil)) (pg_name (i := 3) sc.nd rfl (Or.inl rfl)) (pss_one (ps_set (i := 2) sc.nd rfl (Or.inl rfl) (pe_op op_fdivW (pe_op op_mulO (pv 2) (pe_op op_sub (pv 0) (pv 3))) (pe_op op_add (pv 3) pe_int)))))
      (pss_one (ps_ret (pe_ifExp (pt_cmpR op_ge (pv 0) (pv 1) (nomark _)) (pv 2) pe_int)))))
theorem c_is_count (Tx : Tx K mg) : Cl P w K mg base 2 "is_count" Hd.s_is_count ["thing"] sp_is_count := by
  have sc : FnScope ["thing"] ["thing"] (defScope Hd.s_is_count) := ⟨rfl, rfl, rfl, by decide +kernel, rfl, by decide +kernel, by decide +kernel⟩
  refine cl Tx.d_is_count sc (fun _ _ _ _ _ _ us hl => match us, hl with | [_], _ => rfl) (fun xs H Q E h => ?_) (fun f cd B fr t H xs Q E hg hr h => ⟨t_is_count K, ?_, rd_is_count h⟩)
  · unfold sp_is_count at h
    obtain ⟨_, rfl, _⟩ := h
    rfl
  · have hu64 := hr.units
    have hu0 := hr.units0
    have hu1 := Nat.lt_of_le_of_lt (Nat.add_le_add_left (by decide : 1 ≤ 64) _) hu64
    exact (pss_one (ps_ret (pe_and (pe_gc (c_is_whole Tx) hg hr (by decide) rfl (pa_cons (pv 0) pa_nil)) (pe_one (pe_cmpR op_ge (pv 0) pe_int (nomark _))))))
theorem c_is_size (Tx : Tx K mg) : Cl P w K mg base 2 "is_size" Hd.s_is_size ["thing"] sp_is_size := by
  have sc : FnScope ["thing"] ["thing"] (defScope Hd.s_is_size) := ⟨rfl, rfl, rfl, by decide +kernel, rfl, by decide +kernel, by decide +kernel⟩
  refine cl Tx.d_is_size sc (fun _ _ _ _ _ _ us hl => match us, hl with | [_], _ => rfl) (fun xs H Q E h => ?_) (fun f cd B fr t H xs Q E hg hr h => ⟨t_is_size K, ?_, rd_is_size h⟩)
  · unfold sp_is_size at h
    obtain ⟨_, rfl, _⟩ := h
    rfl
  · have hu64 := hr.units
    have hu0 := hr.units0
    have hu1 := Nat.lt_of_le_of_lt (Nat.add_le_add_left (by decide : 1 ≤ 64) _) hu64
    exact (pss_one (ps_ret (pe_and (pe_gc (c_is_whole Tx) hg hr (by decide) rfl (pa_cons (pv 0) pa_nil)) (pe_one (pe_cmpR op_ge (pv 0) pe_int (nomark _))))))
theorem c_greatest_many (Tx : Tx K mg) : Cl P w K mg base 2 "greatest_many" Hd.s_greatest_many ["number", "size"] sp_greatest_many := by
  have sc : FnScope ["number", "size", "low", "high", "middle"] ["number", "size"] (defScope Hd.s_greatest_many) := ⟨rfl, rfl, rfl, by decide +kernel, rfl, by decide +kernel, by decide +kernel⟩
  refine cl Tx.d_greatest_many sc (fun _ _ _ _ _ _ us hl => match us, hl with | [_, _], _ => rfl) (fun xs H Q E h => ?_) (fun f cd B fr t H xs Q E hg hr h => ⟨t_greatest_many K, ?_, rd_greatest_many h⟩)
  · unfold sp_greatest_many at h
    obtain ⟨_, _, rfl, _⟩ := h
    rfl
  · have hu64 := hr.units
    have hu0 := hr.units0
    have hu1 := Nat.lt_of_le_of_lt (Nat.add_le_add_left (by decide : 1 ≤ 64) _) hu64
    exact (pss_cons (ps_par (i := 2) (j := 3) rfl sc.nd rfl rfl (by decide) rfl rfl (pa_cons (pv 1) (pa_cons (pe_op op_mulO pe_int (pv 1)) pa_nil)) (by rfl))
      (pss_cons (ps_while PassesOwn.never (pt_cmpR op_le (pe_gc (c_choose Tx) hg hr (by decide) rfl (pa_cons (pv 3) (pa_cons (pv 1) pa_nil))) (pv 0) (nomark _)) (pss_one (ps_par (i := 2) (j := 3) rfl sc.nd rfl rfl (by decide) rfl rfl (pa_cons (pv 3) (pa_cons (pe_op op_mulO pe_int (pv 3)) pa_nil)) (by rfl))))
      (pss_cons (ps_while PassesOwn.never (pt_cmpR op_gt (pe_op op_sub (pv 3) (pv 2)) pe_int (nomark _)) (pss_cons (ps_set (i := 4) sc.nd rfl (Or.inl rfl) (pe_op op_fdivW (pe_op op_add (pv 2) (pv 3)) pe_int))
      (pss_one (ps_if (pt_cmpR op_le (pe_gc (c_choose Tx) hg hr (by decide) rfl (pa_cons (pv 4) (pa_cons (pv 1) pa_nil))) (pv 0) (nomark _)) (pss_one (ps_set (i := 2) sc.nd rfl (Or.inl rfl) (pv 4))) (pss_one (ps_set (i := 3) sc.nd rfl (Or.inl rfl) (pv 4)))))))
      (pss_one (ps_ret (pv 2))))))
theorem c_is_falling (Tx : Tx K mg) : Cl P w K mg base 2 "is_falling" Hd.s_is_falling ["size", "thing"] sp_is_falling := by
  have sc : FnScope ["size", "thing", "item", "at", "one", "other"] ["size", "thing"] (defScope Hd.s_is_falling) := ⟨rfl, rfl, rfl, by decide +kernel, rfl, by decide +kernel, by decide +kernel⟩
  refine cl Tx.d_is_falling sc (fun _ _ _ _ _ _ us hl => match us, hl with | [_, _], _ => rfl) (fun xs H Q E h => ?_) (fun f cd B fr t H xs Q E hg hr h => ⟨t_is_falling K, ?_, rd_is_falling h⟩)
  · unfold sp_is_falling at h
    obtain ⟨_, _, _, rfl, _⟩ := h
    rfl
  · have hu64 := hr.units
    have hu0 := hr.units0
    have hu1 := Nat.lt_of_le_of_lt (Nat.add_le_add_left (by decide : 1 ≤ 64) _) hu64
    exact (pss_cons (ps_if (PW.pt (pw_or (pt_not (pt_val (pe_callB call_isi (by rfl) Tx.b_isinstance (by decide +kernel) (pa_cons (pv 1) (pa_cons (pe_bltn (by rfl) Tx.b_tuple (by decide +kernel) (show RelV (.ty "tuple") _ from rfl)) pa_nil))))) (pw_or (pt_cmpR op_gt (pe_callB call_len_seq (by rfl) Tx.b_len (by decide +kernel) (pa_cons (pv 1) pa_nil)) (pv 0) (nomark _)) (pw_or1 (pt_not (pt_val (pe_callB (cr_all rfl) (by rfl) Tx.b_all (by decide +kernel) (pa_cons (pe_lc (own := [("item", 2)]) (g := gName 2) (tt := tYes) rfl sc.nd (pi_tup (pv 1)) (blkOk_by (N := ["size", "thing", "item", "at", "one", "other"]) (sc := defScope Hd.s_is_falling) (by decide +kernel)) (fun _ _ _ _ _ => (pg_name (i := 2) sc.nd rfl (Or.inl rfl))) (fun _ _ _ _ _ => pts_nil) (fun _ _ _ _ _ => (pe_gc (c_is_whole Tx) hg hr (by decide) rfl (pa_cons (pv 2) pa_nil)))) pa_nil)))))))) (pss_one (ps_ret pe_bl)) pss_nil)
      (pss_cons (ps_if (pt_not (pt_val (pe_callB (cr_all rfl) (by rfl) Tx.b_all (by decide +kernel) (pa_cons (pe_lc (own := [("at", 3), ("item", 2)]) (g := gTup K 2 (gCons (gName 3) (gCons (gName 2) (gNil)))) (tt := tYes) rfl sc.nd (pi_enumT (by rfl) Tx.b_enumerate (pa_cons (pv 1) pa_nil)) (blkOk_by (N := ["size", "thing", "item", "at", "one", "other"]) (sc := defScope Hd.s_is_falling) (by decide +kernel)) (fun _ _ _ _ _ => (pg_tup rfl (pgs_cons (pg_name (i := 3) sc.nd rfl (Or.inl rfl)) (pgs_cons (pg_name (i := 2) sc.nd rfl (Or.inl rfl)) pgs_nil)))) (fun _ _ _ _ _ => pts_nil) (fun _ _ _ _ _ => (pe_cmpR op_ge (pv 2) (pe_op op_sub (pv 0) (pv 3)) (nomark _)))) pa_nil)))) (pss_one (ps_ret pe_bl)) pss_nil)
      (pss_one (ps_ret (pe_callB (cr_all rfl) (by rfl) Tx.b_all (by decide +kernel) (pa_cons (pe_lc (own := [("one", 4), ("other", 5)]) (g := gTup K 2 (gCons (gName 4) (gCons (gName 5) (gNil)))) (tt := tYes) rfl sc.nd (RZ.pi_zipA (by rfl) Tx.b_zip (pa_cons (pv 1) (pa_cons (pe_slice sl_tupA (pv 1) (po_some pe_int) po_none) pa_nil))) (blkOk_by (N := ["size", "thing", "item", "at", "one", "other"]) (sc := defScope Hd.s_is_falling) (by decide +kernel)) (fun _ _ _ _ _ => (pg_tup rfl (pgs_cons (pg_name (i := 4) sc.nd rfl (Or.inl rfl)) (pgs_cons (pg_name (i := 5) sc.nd rfl (Or.inl rfl)) pgs_nil)))) (fun _ _ _ _ _ => pts_nil) (fun _ _ _ _ _ => (pe_cmpR op_gt (pv 4) (pv 5) (nomark _)))) pa_nil))))))
theorem c_law_pick (Tx : Tx K mg) : Cl P w K mg base 2 "_law_pick" Hd.s_law_pick ["deck", "some"] sp_law_pick := by
  have sc : FnScope ["deck", "some"] ["deck", "some"] (defScope Hd.s_law_pick) := ⟨rfl, rfl, rfl, by decide +kernel, rfl, by decide +kernel, by decide +kernel⟩
  refine cl Tx.d_law_pick sc (fun _ _ _ _ _ _ us hl => match us, hl with | [_, _], _ => rfl) (fun xs H Q E h => ?_) (fun f cd B fr t H xs Q E hg hr h => ⟨t_law_pick K, ?_, rd_law_pick h⟩)
  · unfold sp_law_pick at h
    obtain ⟨_, _, _, _, rfl, _⟩ := h
    rfl
  · have hu64 := hr.units
    have hu0 := hr.units0
    have hu1 := Nat.lt_of_le_of_lt (Nat.add_le_add_left (by decide : 1 ≤ 64) _) hu64
    exact (pss_one (ps_ret (pe_ix ix_list (pv 1) (pe_gc (c_law_draw Tx) hg hr (by decide) rfl (pa_cons (pv 0) (pa_cons (pe_callB call_len_seq (by rfl) Tx.b_len (by decide +kernel) (pa_cons (pv 1) pa_nil)) pa_nil))) (fun _ _ => rfl))))
theorem c_law_below (Tx : Tx K mg) : Cl P w K mg base 2 "_law_below" Hd.s_law_below ["deck", "many"] sp_law_below := by
  have sc : FnScope ["deck", "many", "great", "turn"] ["deck", "many"] (defScope Hd.s_law_below) := ⟨rfl, rfl, rfl, by decide +kernel, rfl, by decide +kernel, by decide +kernel⟩
  refine cl Tx.d_law_below sc (fun _ _ _ _ _ _ us hl => match us, hl with | [_, _], _ => rfl) (fun xs H Q E h => ?_) (fun f cd B fr t H xs Q E hg hr h => ⟨t_law_below K, ?_, rd_law_below h⟩)
  · unfold sp_law_below at h
    obtain ⟨_, _, _, rfl, _⟩ := h
    rfl
  · have hu64 := hr.units
    have hu0 := hr.units0
    have hu1 := Nat.lt_of_le_of_lt (Nat.add_le_add_left (by decide : 1 ≤ 64) _) hu64
    exact (pss_cons (ps_set (i := 2) sc.nd rfl (Or.inl rfl) pe_int)
      (pss_cons (ps_for PassesOwn.never rfl (pi_range1 (by rfl) Tx.b_range (pa_cons pe_int pa_nil)) (pg_name (i := 3) sc.nd rfl (Or.inl rfl)) (pss_one (ps_set (i := 2) sc.nd rfl (Or.inl rfl) (pe_op op_add (pe_op op_mulO (pv 2) pe_int) (pe_gc (c_law_draw Tx) hg hr (by decide) rfl (pa_cons (pv 0) (pa_cons pe_int pa_nil)))))))
      (pss_one (ps_ret (pe_op op_mod (pe_callTy call_int1 (by rfl) Tx.b_int (by decide +kernel) (pa_cons (pv 2) pa_nil)) (pv 1))))))
theorem c_law_four (Tx : Tx K mg) : Cl P w K mg base 2 "_law_four" Hd.s_law_four ["size", "cascade"] sp_law_four := by
  have sc : FnScope ["size", "cascade", "rows", "found", "at", "a", "i"] ["size", "cascade"] (defScope Hd.s_law_four) := ⟨rfl, rfl, rfl, by decide +kernel, rfl, by decide +kernel, by decide +kernel⟩
  refine cl Tx.d_law_four sc (fun _ _ _ _ _ _ us hl => match us, hl with | [_, _], _ => rfl) (fun xs H Q E h => ?_) (fun f cd B fr t H xs Q E hg hr h => ⟨t_law_four K, ?_, rd_law_four h⟩)
  · unfold sp_law_four at h
    obtain ⟨_, _, _, rfl, _⟩ := h
    rfl
  · have hu64 := hr.units
    have hu0 := hr.units0
    have hu1 := Nat.lt_of_le_of_lt (Nat.add_le_add_left (by decide : 1 ≤ 64) _) hu64
    exact (pss_cons (ps_setLc (i := 2) (own := [("at", 4), ("a", 5)]) (g := gTup K 2 (gCons (gName 4) (gCons (gName 5) (gNil)))) (tt := tYes) rfl sc.nd rfl rfl (sw_true rfl rfl rfl (by decide +kernel)) (pi_enumT (by rfl) Tx.b_enumerate (pa_cons (pv 1) pa_nil)) (blkOk_by (N := ["size", "cascade", "rows", "found", "at", "a", "i"]) (sc := defScope Hd.s_law_four) (by decide +kernel)) (fun _ _ _ _ _ => (pg_tup rfl (pgs_cons (pg_name (i := 4) sc.nd rfl (Or.inl rfl)) (pgs_cons (pg_name (i := 5) sc.nd rfl (Or.inl rfl)) pgs_nil)))) (fun _ _ _ _ _ => pts_nil) (fun _ _ _ _ _ => (pe_tup (pa_cons (pv 5) (pa_cons (pe_op op_sub (pv 0) (pv 4)) pa_nil)))))
      (pss_cons (ps_set (i := 3) sc.nd rfl (Or.inl rfl) (pe_lst (pa_cons (pe_callB (cr_sum rfl) (by rfl) Tx.b_sum (by decide +kernel) (pa_cons (pe_lc (own := [("a", 5), ("i", 6)]) (g := gTup K 2 (gCons (gName 5) (gCons (gName 6) (gNil)))) (tt := tYes) rfl sc.nd (pi_list (pv 2)) (blkOk_by (N := ["size", "cascade", "rows", "found", "at", "a", "i"]) (sc := defScope Hd.s_law_four) (by decide +kernel)) (fun _ _ _ _ _ => (pg_tup rfl (pgs_cons (pg_name (i := 5) sc.nd rfl (Or.inl rfl)) (pgs_cons (pg_name (i := 6) sc.nd rfl (Or.inl rfl)) pgs_nil)))) (fun _ _ _ _ _ => pts_nil) (fun _ _ _ _ _ => (pe_gc (c_law_choose Tx) hg hr (by decide) rfl (pa_cons (pv 5) (pa_cons (pv 6) pa_nil))))) pa_nil)) (pa_cons (pe_callB (cr_sum rfl) (by rfl) Tx.b_sum (by decide +kernel) (pa_cons (pe_lc (own := [("a", 5), ("i", 6)]) (g := gTup K 2 (gCons (gName 5) (gCons (gName 6) (gNil)))) (tt := tYes) rfl sc.nd (pi_list (pv 2)) (blkOk_by (N := ["size", "cascade", "rows", "found", "at", "a", "i"]) (sc := defScope Hd.s_law_four) (by decide +kernel)) (fun _ _ _ _ _ => (pg_tup rfl (pgs_cons (pg_name (i := 5) sc.nd rfl (Or.inl rfl)) (pgs_cons (pg_name (i := 6) sc.nd rfl (Or.inl rfl)) pgs_nil)))) (fun _ _ _ _ _ => pts_nil) (fun _ _ _ _ _ => (pe_gc (c_law_choose Tx) hg hr (by decide) rfl (pa_cons (pv 5) (pa_cons (pe_op op_sub (pv 6) pe_int) pa_nil))))) pa_nil)) pa_nil))))
      (pss_cons (ps_expr (pe_bm PySem.F.plainAttrs_list PySem.F.slot_list_append PySem.F.type_list_append mt_append (pv 3) (pa_cons (pe_callB (cr_sum rfl) (by rfl) Tx.b_sum (by decide +kernel) (pa_cons (pe_lc (own := [("a", 5), ("i", 6)]) (g := gTup K 2 (gCons (gName 5) (gCons (gName 6) (gNil)))) (tt := tYes) rfl sc.nd (pi_list (pv 2)) (blkOk_by (N := ["size", "cascade", "rows", "found", "at", "a", "i"]) (sc := defScope Hd.s_law_four) (by decide +kernel)) (fun _ _ _ _ _ => (pg_tup rfl (pgs_cons (pg_name (i := 5) sc.nd rfl (Or.inl rfl)) (pgs_cons (pg_name (i := 6) sc.nd rfl (Or.inl rfl)) pgs_nil)))) (fun _ _ _ _ _ => pts_nil) (fun _ _ _ _ _ => (pe_gc (c_law_choose Tx) hg hr (by decide) rfl (pa_cons (pv 5) (pa_cons (pe_op op_add (pv 6) pe_int) pa_nil))))) pa_nil)) pa_nil)))
      (pss_one (ps_ret (pe_op op_cat (pv 3) (pe_lst (pa_cons (pe_callB (cr_sum rfl) (by rfl) Tx.b_sum (by decide +kernel) (pa_cons (pe_lc (own := [("a", 5), ("i", 6)]) (g := gTup K 2 (gCons (gName 5) (gCons (gName 6) (gNil)))) (tt := tYes) rfl sc.nd (pi_list (pv 2)) (blkOk_by (N := ["size", "cascade", "rows", "found", "at", "a", "i"]) (sc := defScope Hd.s_law_four) (by decide +kernel)) (fun _ _ _ _ _ => (pg_tup rfl (pgs_cons (pg_name (i := 5) sc.nd rfl (Or.inl rfl)) (pgs_cons (pg_name (i := 6) sc.nd rfl (Or.inl rfl)) pgs_nil)))) (fun _ _ _ _ _ => pts_nil) (fun _ _ _ _ _ => (pe_gc (c_law_choose Tx) hg hr (by decide) rfl (pa_cons (pe_op op_sub (pv 5) pe_int) (pa_cons (pe_op op_sub (pv 6) pe_int) pa_nil))))) pa_nil)) (pa_cons (pe_callB (cr_sum rfl) (by rfl) Tx.b_sum (by decide +kernel) (pa_cons (pe_lc (own := [("a", 5), ("i", 6)]) (g := gTup K 2 (gCons (gName 5) (gCons (gName 6) (gNil)))) (tt := tYes) rfl sc.nd (pi_list (pv 2)) (blkOk_by (N := ["size", "cascade", "rows", "found", "at", "a", "i"]) (sc := defScope Hd.s_law_four) (by decide +kernel)) (fun _ _ _ _ _ => (pg_tup rfl (pgs_cons (pg_name (i := 5) sc.nd rfl (Or.inl rfl)) (pgs_cons (pg_name (i := 6) sc.nd rfl (Or.inl rfl)) pgs_nil)))) (fun _ _ _ _ _ => pts_nil) (fun _ _ _ _ _ => (pe_gc (c_law_choose Tx) hg hr (by decide) rfl (pa_cons (pe_op op_add (pv 5) pe_int) (pa_cons (pe_op op_add (pv 6) pe_int) pa_nil))))) pa_nil)) pa_nil)))))))))
theorem c_cascade_by (Tx : Tx K mg) : Cl P w K mg base 3 "cascade_by" Hd.s_cascade_by ["number", "size"] sp_cascade_by := by
  have sc : FnScope ["number", "size", "found", "many"] ["number", "size"] (defScope Hd.s_cascade_by) := ⟨rfl, rfl, rfl, by decide +kernel, rfl, by decide +kernel, by decide +kernel⟩
  refine cl Tx.d_cascade_by sc (fun _ _ _ _ _ _ us hl => match us, hl with | [_, _], _ => rfl) (fun xs H Q E h => ?_) (fun f cd B fr t H xs Q E hg hr h => ⟨t_cascade_by K, ?_, rd_cascade_by h⟩)
  · unfold sp_cascade_by at h
    obtain ⟨_, _, rfl, _⟩ := h
    rfl
  · have hu64 := hr.units
    have hu0 := hr.units0
    have hu1 := Nat.lt_of_le_of_lt (Nat.add_le_add_left (by decide : 1 ≤ 64) _) hu64
    exact (pss_cons (ps_set (i := 2) sc.nd rfl (Or.inl rfl) (pe_lst pa_nil))
      (pss_cons (ps_while PassesOwn.never (pt_cmpR op_gt (pv 0) pe_int (nomark _)) (pss_cons (ps_set (i := 3) sc.nd rfl (Or.inl rfl) (pe_gc (c_greatest_many Tx) hg hr (by decide) rfl (pa_cons (pv 0) (pa_cons (pv 1) pa_nil))))
      (pss_cons (ps_expr (pe_bm PySem.F.plainAttrs_list PySem.F.slot_list_append PySem.F.type_list_append mt_append (pv 2) (pa_cons (pv 3) pa_nil)))
      (pss_one (ps_par (i := 0) (j := 1) rfl sc.nd rfl rfl (by decide) rfl rfl (pa_cons (pe_op op_sub (pv 0) (pe_gc (c_choose Tx) hg hr (by decide) rfl (pa_cons (pv 3) (pa_cons (pv 1) pa_nil)))) (pa_cons (pe_op op_sub (pv 1) pe_int) pa_nil)) (by rfl))))))
      (pss_one (ps_ret (pe_callTy call_tuple_of (by rfl) Tx.b_tuple (by decide +kernel) (pa_cons (pv 2) pa_nil))))))
theorem c_need_size (Tx : Tx K mg) : Cl P w K mg base 3 "need_size" Hd.s_need_size ["size"] sp_need_size := by
  have sc : FnScope ["size"] ["size"] (defScope Hd.s_need_size) := ⟨rfl, rfl, rfl, by decide +kernel, rfl, by decide +kernel, by decide +kernel⟩
  refine cl Tx.d_need_size sc (fun _ _ _ _ _ _ us hl => match us, hl with | [_], _ => rfl) (fun xs H Q E h => ?_) (fun f cd B fr t H xs Q E hg hr h => ⟨t_need_size K, ?_, rd_need_size h⟩)
  · unfold sp_need_size at h
    obtain ⟨_, rfl, _⟩ := h
    rfl
  · have hu64 := hr.units
    have hu0 := hr.units0
    have hu1 := Nat.lt_of_le_of_lt (Nat.add_le_add_left (by decide : 1 ≤ 64) _) hu64
    exact (pss_one (ps_if (pt_not (pt_val (pe_gc (c_is_size Tx) hg hr (by decide) rfl (pa_cons (pv 0) pa_nil)))) (pss_one ps_never) pss_nil))
theorem c_law_cascade (Tx : Tx K mg) : Cl P w K mg base 3 "_law_cascade" Hd.s_law_cascade ["deck", "size"] sp_law_cascade := by
  have sc : FnScope ["deck", "size", "tops", "great", "found", "left", "way", "ahead"] ["deck", "size"] (defScope Hd.s_law_cascade) := ⟨rfl, rfl, rfl, by decide +kernel, rfl, by decide +kernel, by decide +kernel⟩
  refine cl Tx.d_law_cascade sc (fun _ _ _ _ _ _ us hl => match us, hl with | [_, _], _ => rfl) (fun xs H Q E h => ?_) (fun f cd B fr t H xs Q E hg hr h => ⟨t_law_cascade K, ?_, rd_law_cascade h⟩)
  · unfold sp_law_cascade at h
    obtain ⟨_, _, _, rfl, _⟩ := h
    rfl
  · have hu64 := hr.units
    have hu0 := hr.units0
    have hu1 := Nat.lt_of_le_of_lt (Nat.add_le_add_left (by decide : 1 ≤ 64) _) hu64
    exact (pss_cons (ps_set (i := 2) sc.nd rfl (Or.inl rfl) (pe_lst (pa_cons pe_int (pa_cons (pe_op op_sub (pe_op op_pow pe_int pe_int) pe_int) (pa_cons (pe_op op_pow pe_int pe_int) (pa_cons (pe_op op_mulO pe_int (pe_op op_pow pe_int pe_int)) (pa_cons (pe_op op_pow pe_int pe_int) (pa_cons (pe_op op_pow pe_int pe_int) (pa_cons (pe_op op_mulO pe_int (pe_op op_pow pe_int pe_int)) (pa_cons pe_int (pa_cons pe_int (pa_cons pe_int (pa_cons pe_int (pa_cons pe_int (pa_cons pe_int (pa_cons pe_int (pa_cons pe_int (pa_cons pe_int pa_nil))))))))))))))))))
      (pss_cons (ps_set (i := 3) sc.nd rfl (Or.inl rfl) (pe_callB (call_min2 rfl) (by rfl) Tx.b_min (by decide +kernel) (pa_cons (pe_ix ix_list (pv 2) (pv 1) (fun _ _ => rfl)) (pa_cons (pe_gc (c_law_pick Tx) hg hr (by decide) rfl (pa_cons (pv 0) (pa_cons (pe_lst (pa_cons (pe_ix ix_list (pv 2) (pv 1) (fun _ _ => rfl)) (pa_cons (pe_op op_add (pv 1) pe_int) (pa_cons (pe_op op_add (pv 1) pe_int) (pa_cons (pv 1) pa_nil))))) pa_nil))) pa_nil))))
      (pss_cons (ps_set (i := 4) sc.nd rfl (Or.inl rfl) (pe_lst (pa_cons (pe_op op_add (pv 1) (pe_gc (c_law_below Tx) hg hr (by decide) rfl (pa_cons (pv 0) (pa_cons (pe_op op_add (pe_op op_sub (pv 3) (pv 1)) pe_int) pa_nil)))) pa_nil)))
      (pss_cons (ps_for PassesOwn.never rfl (pi_range3 (by rfl) Tx.b_range (pa_cons (pe_op op_sub (pv 1) pe_int) (pa_cons (pe_gc (c_law_draw Tx) hg hr (by decide) rfl (pa_cons (pv 0) (pa_cons (pv 1) pa_nil))) (pa_cons (pe_un un_neg pe_int) pa_nil)))) (pg_name (i := 5) sc.nd rfl (Or.inl rfl)) (pss_cons (ps_par (i := 6) (j := 7) rfl sc.nd rfl rfl (by decide) rfl rfl (pa_cons (pe_gc (c_law_draw Tx) hg hr (by decide) rfl (pa_cons (pv 0) (pa_cons pe_int pa_nil))) (pa_cons (pe_ix ix_list (pv 4) (pe_un un_neg pe_int) (fun _ _ => rfl)) pa_nil)) (by rfl))
      (pss_one (ps_if (pt_cmpR op_eq (pv 6) pe_int (nomark _)) (pss_one (ps_expr (pe_bm PySem.F.plainAttrs_list PySem.F.slot_list_append PySem.F.type_list_append mt_append (pv 4) (pa_cons (pe_op op_sub (pv 7) pe_int) pa_nil)))) (pss_one (ps_if (pt_cmpR op_eq (pv 6) pe_int (nomark _)) (pss_one (ps_expr (pe_bm PySem.F.plainAttrs_list PySem.F.slot_list_append PySem.F.type_list_append mt_append (pv 4) (pa_cons (pv 5) pa_nil)))) (pss_one (ps_expr (pe_bm PySem.F.plainAttrs_list PySem.F.slot_list_append PySem.F.type_list_append mt_append (pv 4) (pa_cons (pe_op op_add (pv 5) (pe_gc (c_law_below Tx) hg hr (by decide) rfl (pa_cons (pv 0) (pa_cons (pe_callB (call_min2 rfl) (by rfl) Tx.b_min (by decide +kernel) (pa_cons (pe_op op_sub (pv 7) (pv 5)) (pa_cons (pe_gc (c_law_pick Tx) hg hr (by decide) rfl (pa_cons (pv 0) (pa_cons (pe_lst (pa_cons pe_int (pa_cons (pe_op op_pow pe_int pe_int) pa_nil))) pa_nil))) pa_nil))) pa_nil)))) pa_nil))))))))))
      (pss_one (ps_ret (pe_callTy call_tuple_of (by rfl) Tx.b_tuple (by decide +kernel) (pa_cons (pv 4) pa_nil))))))))
theorem c_lower (Tx : Tx K mg) : Cl P w K mg base 4 "lower" Hd.s_lower ["number", "size"] sp_lower := by
  have sc : FnScope ["number", "size", "at", "many"] ["number", "size"] (defScope Hd.s_lower) := ⟨rfl, rfl, rfl, by decide +kernel, rfl, by decide +kernel, by decide +kernel⟩
  refine cl Tx.d_lower sc (fun _ _ _ _ _ _ us hl => match us, hl with | [_, _], _ => rfl) (fun xs H Q E h => ?_) (fun f cd B fr t H xs Q E hg hr h => ⟨t_lower K, ?_, rd_lower h⟩)
  · unfold sp_lower at h
    obtain ⟨_, _, rfl, _⟩ := h
    rfl
  · have hu64 := hr.units
    have hu0 := hr.units0
    have hu1 := Nat.lt_of_le_of_lt (Nat.add_le_add_left (by decide : 1 ≤ 64) _) hu64
    exact (pss_one (ps_ret (pe_callB (cr_sum rfl) (by rfl) Tx.b_sum (by decide +kernel) (pa_cons (pe_lc (own := [("at", 2), ("many", 3)]) (g := gTup K 2 (gCons (gName 2) (gCons (gName 3) (gNil)))) (tt := tYes) rfl sc.nd (pi_enumT (by rfl) Tx.b_enumerate (pa_cons (pe_gc (c_cascade_by Tx) hg hr (by decide) rfl (pa_cons (pv 0) (pa_cons (pv 1) pa_nil))) pa_nil)) (blkOk_by (N := ["number", "size", "at", "many"]) (sc := defScope Hd.s_lower) (by decide +kernel)) (fun _ _ _ _ _ => (pg_tup rfl (pgs_cons (pg_name (i := 2) sc.nd rfl (Or.inl rfl)) (pgs_cons (pg_name (i := 3) sc.nd rfl (Or.inl rfl)) pgs_nil)))) (fun _ _ _ _ _ => pts_nil) (fun _ _ _ _ _ => (pe_gc (c_choose Tx) hg hr (by decide) rfl (pa_cons (pv 3) (pa_cons (pe_op op_sub (pe_op op_sub (pv 1) (pv 2)) pe_int) pa_nil))))) pa_nil))))
theorem c_upper (Tx : Tx K mg) : Cl P w K mg base 4 "upper" Hd.s_upper ["number", "size"] sp_upper := by
  have sc : FnScope ["number", "size", "at", "many"] ["number", "size"] (defScope Hd.s_upper) := ⟨rfl, rfl, rfl, by decide +kernel, rfl, by decide +kernel, by decide +kernel⟩
  refine cl Tx.d_upper sc (fun _ _ _ _ _ _ us hl => match us, hl with | [_, _], _ => rfl) (fun xs H Q E h => ?_) (fun f cd B fr t H xs Q E hg hr h => ⟨t_upper K, ?_, rd_upper h⟩)
  · unfold sp_upper at h
    obtain ⟨_, _, rfl, _⟩ := h
    rfl
  · have hu64 := hr.units
    have hu0 := hr.units0
    have hu1 := Nat.lt_of_le_of_lt (Nat.add_le_add_left (by decide : 1 ≤ 64) _) hu64
    exact (pss_one (ps_ret (pe_callB (cr_sum rfl) (by rfl) Tx.b_sum (by decide +kernel) (pa_cons (pe_lc (own := [("at", 2), ("many", 3)]) (g := gTup K 2 (gCons (gName 2) (gCons (gName 3) (gNil)))) (tt := tYes) rfl sc.nd (pi_enumT (by rfl) Tx.b_enumerate (pa_cons (pe_gc (c_cascade_by Tx) hg hr (by decide) rfl (pa_cons (pv 0) (pa_cons (pv 1) pa_nil))) pa_nil)) (blkOk_by (N := ["number", "size", "at", "many"]) (sc := defScope Hd.s_upper) (by decide +kernel)) (fun _ _ _ _ _ => (pg_tup rfl (pgs_cons (pg_name (i := 2) sc.nd rfl (Or.inl rfl)) (pgs_cons (pg_name (i := 3) sc.nd rfl (Or.inl rfl)) pgs_nil)))) (fun _ _ _ _ _ => pts_nil) (fun _ _ _ _ _ => (pe_gc (c_choose Tx) hg hr (by decide) rfl (pa_cons (pv 3) (pa_cons (pe_op op_add (pe_op op_sub (pv 1) (pv 2)) pe_int) pa_nil))))) pa_nil))))
theorem c_lower_product (Tx : Tx K mg) : Cl P w K mg base 4 "lower_product" Hd.s_lower_product ["number", "size"] sp_lower_product := by
  have sc : FnScope ["number", "size", "at", "many"] ["number", "size"] (defScope Hd.s_lower_product) := ⟨rfl, rfl, rfl, by decide +kernel, rfl, by decide +kernel, by decide +kernel⟩
  refine cl Tx.d_lower_product sc (fun _ _ _ _ _ _ us hl => match us, hl with | [_, _], _ => rfl) (fun xs H Q E h => ?_) (fun f cd B fr t H xs Q E hg hr h => ⟨t_lower_product K, ?_, rd_lower_product h⟩)
  · unfold sp_lower_product at h
    obtain ⟨_, _, rfl, _⟩ := h
    rfl
  · have hu64 := hr.units
    have hu0 := hr.units0
    have hu1 := Nat.lt_of_le_of_lt (Nat.add_le_add_left (by decide : 1 ≤ 64) _) hu64
    exact (pss_one (ps_ret (pe_callB (cr_sum rfl) (by rfl) Tx.b_sum (by decide +kernel) (pa_cons (pe_lc (own := [("at", 2), ("many", 3)]) (g := gTup K 2 (gCons (gName 2) (gCons (gName 3) (gNil)))) (tt := tYes) rfl sc.nd (pi_enumT (by rfl) Tx.b_enumerate (pa_cons (pe_gc (c_cascade_by Tx) hg hr (by decide) rfl (pa_cons (pv 0) (pa_cons (pv 1) pa_nil))) pa_nil)) (blkOk_by (N := ["number", "size", "at", "many"]) (sc := defScope Hd.s_lower_product) (by decide +kernel)) (fun _ _ _ _ _ => (pg_tup rfl (pgs_cons (pg_name (i := 2) sc.nd rfl (Or.inl rfl)) (pgs_cons (pg_name (i := 3) sc.nd rfl (Or.inl rfl)) pgs_nil)))) (fun _ _ _ _ _ => pts_nil) (fun _ _ _ _ _ => (pe_gc (c_choose Tx) hg hr (by decide) rfl (pa_cons (pe_op op_sub (pv 3) pe_int) (pa_cons (pe_op op_sub (pe_op op_sub (pv 1) (pv 2)) pe_int) pa_nil))))) pa_nil))))
theorem c_upper_product (Tx : Tx K mg) : Cl P w K mg base 4 "upper_product" Hd.s_upper_product ["number", "size"] sp_upper_product := by
  have sc : FnScope ["number", "size", "at", "many"] ["number", "size"] (defScope Hd.s_upper_product) := ⟨rfl, rfl, rfl, by decide +kernel, rfl, by decide +kernel, by decide +kernel⟩
  refine cl Tx.d_upper_product sc (fun _ _ _ _ _ _ us hl => match us, hl with | [_, _], _ => rfl) (fun xs H Q E h => ?_) (fun f cd B fr t H xs Q E hg hr h => ⟨t_upper_product K, ?_, rd_upper_product h⟩)
  · unfold sp_upper_product at h
    obtain ⟨_, _, rfl, _⟩ := h
    rfl
  · have hu64 := hr.units
    have hu0 := hr.units0
    have hu1 := Nat.lt_of_le_of_lt (Nat.add_le_add_left (by decide : 1 ≤ 64) _) hu64
    exact (pss_one (ps_ret (pe_callB (cr_sum rfl) (by rfl) Tx.b_sum (by decide +kernel) (pa_cons (pe_lc (own := [("at", 2), ("many", 3)]) (g := gTup K 2 (gCons (gName 2) (gCons (gName 3) (gNil)))) (tt := tYes) rfl sc.nd (pi_enumT (by rfl) Tx.b_enumerate (pa_cons (pe_gc (c_cascade_by Tx) hg hr (by decide) rfl (pa_cons (pv 0) (pa_cons (pv 1) pa_nil))) pa_nil)) (blkOk_by (N := ["number", "size", "at", "many"]) (sc := defScope Hd.s_upper_product) (by decide +kernel)) (fun _ _ _ _ _ => (pg_tup rfl (pgs_cons (pg_name (i := 2) sc.nd rfl (Or.inl rfl)) (pgs_cons (pg_name (i := 3) sc.nd rfl (Or.inl rfl)) pgs_nil)))) (fun _ _ _ _ _ => pts_nil) (fun _ _ _ _ _ => (pe_gc (c_choose Tx) hg hr (by decide) rfl (pa_cons (pe_op op_add (pv 3) pe_int) (pa_cons (pe_op op_add (pe_op op_sub (pv 1) (pv 2)) pe_int) pa_nil))))) pa_nil))))
theorem c_need_both (Tx : Tx K mg) : Cl P w K mg base 4 "need_both" Hd.s_need_both ["number", "size"] sp_need_both := by
  have sc : FnScope ["number", "size"] ["number", "size"] (defScope Hd.s_need_both) := ⟨rfl, rfl, rfl, by decide +kernel, rfl, by decide +kernel, by decide +kernel⟩
  refine cl Tx.d_need_both sc (fun _ _ _ _ _ _ us hl => match us, hl with | [_, _], _ => rfl) (fun xs H Q E h => ?_) (fun f cd B fr t H xs Q E hg hr h => ⟨t_need_both K, ?_, rd_need_both h⟩)
  · unfold sp_need_both at h
    obtain ⟨_, _, rfl, _⟩ := h
    rfl
  · have hu64 := hr.units
    have hu0 := hr.units0
    have hu1 := Nat.lt_of_le_of_lt (Nat.add_le_add_left (by decide : 1 ≤ 64) _) hu64
    exact (pss_cons (ps_if (pt_not (pt_val (pe_gc (c_is_count Tx) hg hr (by decide) rfl (pa_cons (pv 0) pa_nil)))) (pss_one ps_never) pss_nil)
      (pss_one (ps_expr (pe_gc (c_need_size Tx) hg hr (by decide) rfl (pa_cons (pv 1) pa_nil)))))
theorem c_number_of (Tx : Tx K mg) : Cl P w K mg base 4 "number_of" Hd.s_number_of ["size", "cascade"] sp_number_of := by
  have sc : FnScope ["size", "cascade", "at", "item"] ["size", "cascade"] (defScope Hd.s_number_of) := ⟨rfl, rfl, rfl, by decide +kernel, rfl, by decide +kernel, by decide +kernel⟩
  refine cl Tx.d_number_of sc (fun _ _ _ _ _ _ us hl => match us, hl with | [_, _], _ => rfl) (fun xs H Q E h => ?_) (fun f cd B fr t H xs Q E hg hr h => ⟨t_number_of K, ?_, rd_number_of h⟩)
  · unfold sp_number_of at h
    obtain ⟨_, _, _, rfl, _⟩ := h
    rfl
  · have hu64 := hr.units
    have hu0 := hr.units0
    have hu1 := Nat.lt_of_le_of_lt (Nat.add_le_add_left (by decide : 1 ≤ 64) _) hu64
    exact (pss_cons (ps_expr (pe_gc (c_need_size Tx) hg hr (by decide) rfl (pa_cons (pv 0) pa_nil)))
      (pss_cons (ps_if (pt_not (pt_val (pe_gc (c_is_falling Tx) hg hr (by decide) rfl (pa_cons (pv 0) (pa_cons (pv 1) pa_nil))))) (pss_one ps_never) pss_nil)
      (pss_one (ps_ret (pe_callB (cr_sum rfl) (by rfl) Tx.b_sum (by decide +kernel) (pa_cons (pe_lc (own := [("at", 2), ("item", 3)]) (g := gTup K 2 (gCons (gName 2) (gCons (gName 3) (gNil)))) (tt := tYes) rfl sc.nd (pi_enumT (by rfl) Tx.b_enumerate (pa_cons (pv 1) pa_nil)) (blkOk_by (N := ["size", "cascade", "at", "item"]) (sc := defScope Hd.s_number_of) (by decide +kernel)) (fun _ _ _ _ _ => (pg_tup rfl (pgs_cons (pg_name (i := 2) sc.nd rfl (Or.inl rfl)) (pgs_cons (pg_name (i := 3) sc.nd rfl (Or.inl rfl)) pgs_nil)))) (fun _ _ _ _ _ => pts_nil) (fun _ _ _ _ _ => (pe_gc (c_choose Tx) hg hr (by decide) rfl (pa_cons (pv 3) (pa_cons (pe_op op_sub (pv 0) (pv 2)) pa_nil))))) pa_nil))))))
theorem c_cascade_of (Tx : Tx K mg) : Cl P w K mg base 5 "cascade_of" Hd.s_cascade_of ["number", "size"] sp_cascade_of := by
  have sc : FnScope ["number", "size"] ["number", "size"] (defScope Hd.s_cascade_of) := ⟨rfl, rfl, rfl, by decide +kernel, rfl, by decide +kernel, by decide +kernel⟩
  refine cl Tx.d_cascade_of sc (fun _ _ _ _ _ _ us hl => match us, hl with | [_, _], _ => rfl) (fun xs H Q E h => ?_) (fun f cd B fr t H xs Q E hg hr h => ⟨t_cascade_of K, ?_, rd_cascade_of h⟩)
  · unfold sp_cascade_of at h
    obtain ⟨_, _, rfl, _⟩ := h
    rfl
  · have hu64 := hr.units
    have hu0 := hr.units0
    have hu1 := Nat.lt_of_le_of_lt (Nat.add_le_add_left (by decide : 1 ≤ 64) _) hu64
    exact (pss_cons (ps_expr (pe_gc (c_need_both Tx) hg hr (by decide) rfl (pa_cons (pv 0) (pa_cons (pv 1) pa_nil))))
      (pss_one (ps_ret (pe_gc (c_cascade_by Tx) hg hr (by decide) rfl (pa_cons (pv 0) (pa_cons (pv 1) pa_nil))))))
theorem c_lower_sets (Tx : Tx K mg) : Cl P w K mg base 5 "lower_sets" Hd.s_lower_sets ["number", "size"] sp_lower_sets := by
  have sc : FnScope ["number", "size"] ["number", "size"] (defScope Hd.s_lower_sets) := ⟨rfl, rfl, rfl, by decide +kernel, rfl, by decide +kernel, by decide +kernel⟩
  refine cl Tx.d_lower_sets sc (fun _ _ _ _ _ _ us hl => match us, hl with | [_, _], _ => rfl) (fun xs H Q E h => ?_) (fun f cd B fr t H xs Q E hg hr h => ⟨t_lower_sets K, ?_, rd_lower_sets h⟩)
  · unfold sp_lower_sets at h
    obtain ⟨_, _, rfl, _⟩ := h
    rfl
  · have hu64 := hr.units
    have hu0 := hr.units0
    have hu1 := Nat.lt_of_le_of_lt (Nat.add_le_add_left (by decide : 1 ≤ 64) _) hu64
    exact (pss_cons (ps_expr (pe_gc (c_need_both Tx) hg hr (by decide) rfl (pa_cons (pv 0) (pa_cons (pv 1) pa_nil))))
      (pss_one (ps_ret (pe_gc (c_lower Tx) hg hr (by decide) rfl (pa_cons (pv 0) (pa_cons (pv 1) pa_nil))))))
theorem c_upper_sets (Tx : Tx K mg) : Cl P w K mg base 5 "upper_sets" Hd.s_upper_sets ["number", "size"] sp_upper_sets := by
  have sc : FnScope ["number", "size"] ["number", "size"] (defScope Hd.s_upper_sets) := ⟨rfl, rfl, rfl, by decide +kernel, rfl, by decide +kernel, by decide +kernel⟩
  refine cl Tx.d_upper_sets sc (fun _ _ _ _ _ _ us hl => match us, hl with | [_, _], _ => rfl) (fun xs H Q E h => ?_) (fun f cd B fr t H xs Q E hg hr h => ⟨t_upper_sets K, ?_, rd_upper_sets h⟩)
  · unfold sp_upper_sets at h
    obtain ⟨_, _, rfl, _⟩ := h
    rfl
  · have hu64 := hr.units
    have hu0 := hr.units0
    have hu1 := Nat.lt_of_le_of_lt (Nat.add_le_add_left (by decide : 1 ≤ 64) _) hu64
    exact (pss_cons (ps_expr (pe_gc (c_need_both Tx) hg hr (by decide) rfl (pa_cons (pv 0) (pa_cons (pv 1) pa_nil))))
      (pss_one (ps_ret (pe_gc (c_upper Tx) hg hr (by decide) rfl (pa_cons (pv 0) (pa_cons (pv 1) pa_nil))))))
theorem c_lower_products (Tx : Tx K mg) : Cl P w K mg base 5 "lower_products" Hd.s_lower_products ["number", "size"] sp_lower_products := by
  have sc : FnScope ["number", "size"] ["number", "size"] (defScope Hd.s_lower_products) := ⟨rfl, rfl, rfl, by decide +kernel, rfl, by decide +kernel, by decide +kernel⟩
  refine cl Tx.d_lower_products sc (fun _ _ _ _ _ _ us hl => match us, hl with | [_, _], _ => rfl) (fun xs H Q E h => ?_) (fun f cd B fr t H xs Q E hg hr h => ⟨t_lower_products K, ?_, rd_lower_products h⟩)
  · unfold sp_lower_products at h
    obtain ⟨_, _, rfl, _⟩ := h
    rfl
  · have hu64 := hr.units
    have hu0 := hr.units0
    have hu1 := Nat.lt_of_le_of_lt (Nat.add_le_add_left (by decide : 1 ≤ 64) _) hu64
    exact (pss_cons (ps_expr (pe_gc (c_need_both Tx) hg hr (by decide) rfl (pa_cons (pv 0) (pa_cons (pv 1) pa_nil))))
      (pss_one (ps_ret (pe_gc (c_lower_product Tx) hg hr (by decide) rfl (pa_cons (pv 0) (pa_cons (pv 1) pa_nil))))))
theorem c_upper_products (Tx : Tx K mg) : Cl P w K mg base 5 "upper_products" Hd.s_upper_products ["number", "size"] sp_upper_products := by
  have sc : FnScope ["number", "size"] ["number", "size"] (defScope Hd.s_upper_products) := ⟨rfl, rfl, rfl, by decide +kernel, rfl, by decide +kernel, by decide +kernel⟩
  refine cl Tx.d_upper_products sc (fun _ _ _ _ _ _ us hl => match us, hl with | [_, _], _ => rfl) (fun xs H Q E h => ?_) (fun f cd B fr t H xs Q E hg hr h => ⟨t_upper_products K, ?_, rd_upper_products h⟩)
  · unfold sp_upper_products at h
    obtain ⟨_, _, rfl, _⟩ := h
    rfl
  · have hu64 := hr.units
    have hu0 := hr.units0
    have hu1 := Nat.lt_of_le_of_lt (Nat.add_le_add_left (by decide : 1 ≤ 64) _) hu64
    exact (pss_cons (ps_expr (pe_gc (c_need_both Tx) hg hr (by decide) rfl (pa_cons (pv 0) (pa_cons (pv 1) pa_nil))))
      (pss_one (ps_ret (pe_gc (c_upper_product Tx) hg hr (by decide) rfl (pa_cons (pv 0) (pa_cons (pv 1) pa_nil))))))
theorem c_law_is_right (Tx : Tx K mg) : Cl P w K mg base 6 "_law_is_right" Hd.s_law_is_right ["number", "size", "due", "way"] sp_law_is_right := by
  have sc : FnScope ["number", "size", "due", "way", "told"] ["number", "size", "due", "way"] (defScope Hd.s_law_is_right) := ⟨rfl, rfl, rfl, by decide +kernel, rfl, by decide +kernel, by decide +kernel⟩
  refine cl Tx.d_law_is_right sc (fun _ _ _ _ _ _ us hl => match us, hl with | [_, _, _, _], _ => rfl) (fun xs H Q E h => ?_) (fun f cd B fr t H xs Q E hg hr h => ⟨t_law_is_right K, ?_, rd_law_is_right h⟩)
  · unfold sp_law_is_right at h
    obtain ⟨_, _, _, _, rfl, _⟩ := h
    rfl
  · have hu64 := hr.units
    have hu0 := hr.units0
    have hu1 := Nat.lt_of_le_of_lt (Nat.add_le_add_left (by decide : 1 ≤ 64) _) hu64
    exact (pss_cons (ps_if (pt_cmpR op_eq (pv 3) pe_int (nomark _)) (pss_one (ps_set (i := 4) sc.nd rfl (Or.inl rfl) (pe_lst (pa_cons (pe_gc (c_lower_sets Tx) hg hr (by decide) rfl (pa_cons (pv 0) (pa_cons (pv 1) pa_nil))) (pa_cons (pe_gc (c_upper_sets Tx) hg hr (by decide) rfl (pa_cons (pv 0) (pa_cons (pv 1) pa_nil))) (pa_cons (pe_gc (c_lower_products Tx) hg hr (by decide) rfl (pa_cons (pv 0) (pa_cons (pv 1) pa_nil))) (pa_cons (pe_gc (c_upper_products Tx) hg hr (by decide) rfl (pa_cons (pv 0) (pa_cons (pv 1) pa_nil))) pa_nil))))))) (pss_cons (ps_set (i := 4) sc.nd rfl (Or.inl rfl) (pe_lst (pa_cons (pe_kc (ks := ["size", "number"]) (is := pm_lower_sets_size_number) (c_lower_sets Tx) hg hr (by decide) (by rfl) kb_lower_sets_size_number (pk_cons (pv 1) (pk_cons (pv 0) pk_nil))) (pa_cons (pe_kc (ks := ["size", "number"]) (is := pm_upper_sets_size_number) (c_upper_sets Tx) hg hr (by decide) (by rfl) kb_upper_sets_size_number (pk_cons (pv 1) (pk_cons (pv 0) pk_nil))) pa_nil))))
      (pss_one (ps_set (i := 4) sc.nd rfl (Or.inl rfl) (pe_op op_cat (pv 4) (pe_lst (pa_cons (pe_kc (ks := ["size", "number"]) (is := pm_lower_products_size_number) (c_lower_products Tx) hg hr (by decide) (by rfl) kb_lower_products_size_number (pk_cons (pv 1) (pk_cons (pv 0) pk_nil))) (pa_cons (pe_kc (ks := ["size", "number"]) (is := pm_upper_products_size_number) (c_upper_products Tx) hg hr (by decide) (by rfl) kb_upper_products_size_number (pk_cons (pv 1) (pk_cons (pv 0) pk_nil))) pa_nil))))))))
      (pss_one (ps_ret (pe_cmpR op_eq (pe_callB (call_repr hg hu64) (by rfl) Tx.b_repr (by decide +kernel) (pa_cons (pv 4) pa_nil)) (pe_callB (call_repr hg hu64) (by rfl) Tx.b_repr (by decide +kernel) (pa_cons (pv 2) pa_nil)) (nomark _)))))
theorem c_law (Tx : Tx K mg) : Cl P w K mg base 7 "law" Hd.s_law ["script"] (sp_law K) := by
  have sc : FnScope ["script", "deck", "turn", "size", "way", "cascade", "due", "raised", "less", "small", "told", "near", "a", "at"] ["script"] (defScope Hd.s_law) := ⟨rfl, rfl, rfl, by decide +kernel, rfl, by decide +kernel, by decide +kernel⟩
  refine cl Tx.d_law sc (fun _ _ _ _ _ _ us hl => match us, hl with | [_], _ => rfl) (fun xs H Q E h => ?_) (fun f cd B fr t H xs Q E hg hr h => ⟨t_law K, ?_, rd_law h⟩)
  · unfold sp_law at h
    obtain ⟨_, _, rfl, _⟩ := h
    rfl
  · have hu64 := hr.units
    have hu0 := hr.units0
    have hu1 := Nat.lt_of_le_of_lt (Nat.add_le_add_left (by decide : 1 ≤ 64) _) hu64
    exact (pss_cons (ps_set (i := 1) sc.nd rfl (Or.inl rfl) (pe_gc (c_law_deck Tx) hg hr (by decide) rfl (pa_cons (pv 0) pa_nil)))
      (pss_cons (ps_for PassesOwn.never rfl (pi_range1 (by rfl) Tx.b_range (pa_cons pe_int pa_nil)) (pg_name (i := 2) sc.nd rfl (Or.inl rfl)) (pss_cons (ps_asg (pe_tup (pa_cons (pe_op op_add pe_int (pe_gc (c_law_draw Tx) hg hr (by decide) rfl (pa_cons (pv 1) (pa_cons (pe_ifExp (pt_cmpR op_eq (pe_gc (c_law_draw Tx) hg hr (by decide) rfl (pa_cons (pv 1) (pa_cons pe_int pa_nil))) pe_int (nomark _)) pe_int pe_int) pa_nil)))) (pa_cons (pe_op op_and (pv 2) pe_int) pa_nil))) (pg_tup rfl (pgs_cons (pg_name (i := 3) sc.nd rfl (Or.inr rfl)) (pgs_cons (pg_name (i := 4) sc.nd rfl (Or.inl rfl)) pgs_nil))))
      (pss_cons (ps_set (i := 5) sc.nd rfl (Or.inl rfl) (pe_gc (c_law_cascade Tx) hg hr (by decide) rfl (pa_cons (pv 1) (pa_cons (pv 3) pa_nil))))
      (pss_cons (ps_set (i := 6) sc.nd rfl (Or.inl rfl) (pe_gc (c_law_four Tx) hg hr (by decide) rfl (pa_cons (pv 3) (pa_cons (pv 5) pa_nil))))
      (pss_cons (ps_if (pt_not (pt_val (pe_gc (c_law_is_right Tx) hg hr (by decide) rfl (pa_cons (pe_ix ix_list (pv 6) pe_int (fun _ _ => rfl)) (pa_cons (pv 3) (pa_cons (pe_slice sl_list (pv 6) (po_some pe_int) po_none) (pa_cons (pv 4) pa_nil))))))) (pss_one (ps_ret pe_bl)) pss_nil)
      (pss_cons (ps_set (i := 7) sc.nd rfl (Or.inl rfl) (pe_callTy call_tuple_of (by rfl) Tx.b_tuple (by decide +kernel) (pa_cons (pe_lc (own := [("a", 12)]) (g := gName 12) (tt := tYes) rfl sc.nd (pi_tup (pv 5)) (blkOk_by (N := ["script", "deck", "turn", "size", "way", "cascade", "due", "raised", "less", "small", "told", "near", "a", "at"]) (sc := defScope Hd.s_law) (by decide +kernel)) (fun _ _ _ _ _ => (pg_name (i := 12) sc.nd rfl (Or.inl rfl))) (fun _ _ _ _ _ => pts_nil) (fun _ _ _ _ _ => (pe_op op_add (pv 12) pe_int))) pa_nil)))
      (pss_cons (ps_if (pt_cmpR op_ne (pe_callB (call_repr hg hu64) (by rfl) Tx.b_repr (by decide +kernel) (pa_cons (pe_tup (pa_cons (pe_gc (c_number_of Tx) hg hr (by decide) rfl (pa_cons (pe_op op_add (pv 3) pe_int) (pa_cons (pv 7) pa_nil))) (pa_cons (pe_gc (c_number_of Tx) hg hr (by decide) rfl (pa_cons (pv 3) (pa_cons (pv 5) pa_nil))) pa_nil))) pa_nil)) (pe_callB (call_repr hg hu64) (by rfl) Tx.b_repr (by decide +kernel) (pa_cons (pe_tup (pa_cons (pe_ix ix_list (pv 6) pe_int (fun _ _ => rfl)) (pa_cons (pe_ix ix_list (pv 6) pe_int (fun _ _ => rfl)) pa_nil))) pa_nil)) (nomark _)) (pss_one (ps_ret pe_bl)) pss_nil)
      (pss_cons (ps_set (i := 8) sc.nd rfl (Or.inl rfl) (pe_callB (cr_sum rfl) (by rfl) Tx.b_sum (by decide +kernel) (pa_cons (pe_lc (own := [("at", 13), ("a", 12)]) (g := gTup K 2 (gCons (gName 13) (gCons (gName 12) (gNil)))) (tt := tYes) rfl sc.nd (pi_enumT (by rfl) Tx.b_enumerate (pa_cons (pv 5) pa_nil)) (blkOk_by (N := ["script", "deck", "turn", "size", "way", "cascade", "due", "raised", "less", "small", "told", "near", "a", "at"]) (sc := defScope Hd.s_law) (by decide +kernel)) (fun _ _ _ _ _ => (pg_tup rfl (pgs_cons (pg_name (i := 13) sc.nd rfl (Or.inl rfl)) (pgs_cons (pg_name (i := 12) sc.nd rfl (Or.inl rfl)) pgs_nil)))) (fun _ _ _ _ _ => pts_nil) (fun _ _ _ _ _ => (pe_gc (c_law_choose Tx) hg hr (by decide) rfl (pa_cons (pe_op op_sub (pv 12) pe_int) (pa_cons (pe_op op_sub (pv 3) (pv 13)) pa_nil))))) pa_nil)))
      (pss_cons (ps_if (pt_cmpR op_ne (pe_op op_sub (pe_ix ix_list (pv 6) pe_int (fun _ _ => rfl)) (pe_kc (ks := ["size", "number"]) (is := pm_lower_products_size_number) (c_lower_products Tx) hg hr (by decide) (by rfl) kb_lower_products_size_number (pk_cons (pv 3) (pk_cons (pe_ix ix_list (pv 6) pe_int (fun _ _ => rfl)) pk_nil)))) (pv 8) (nomark _)) (pss_one (ps_ret pe_bl)) pss_nil)
      (pss_cons (ps_set (i := 9) sc.nd rfl (Or.inl rfl) (pe_gc (c_law_draw Tx) hg hr (by decide) rfl (pa_cons (pv 1) (pa_cons (pe_gc (c_law_pick Tx) hg hr (by decide) rfl (pa_cons (pv 1) (pa_cons (pe_lst (pa_cons pe_int (pa_cons pe_int (pa_cons pe_int pa_nil)))) pa_nil))) pa_nil))))
      (pss_cons (ps_if (pt_cmpR op_eq (pv 2) pe_int (nomark _)) (pss_one (ps_asg (pe_tup (pa_cons (pe_op op_add pe_int (pe_gc (c_law_below Tx) hg hr (by decide) rfl (pa_cons (pv 1) (pa_cons (pe_op op_pow pe_int pe_int) pa_nil)))) (pa_cons (pe_op op_add pe_int (pe_gc (c_law_draw Tx) hg hr (by decide) rfl (pa_cons (pv 1) (pa_cons pe_int pa_nil)))) pa_nil))) (pg_tup rfl (pgs_cons (pg_name (i := 9) sc.nd rfl (Or.inl rfl)) (pgs_cons (pg_name (i := 3) sc.nd rfl (Or.inr rfl)) pgs_nil))))) pss_nil)
      (pss_cons (ps_set (i := 10) sc.nd rfl (Or.inl rfl) (pe_gc (c_cascade_of Tx) hg hr (by decide) rfl (pa_cons (pv 9) (pa_cons (pv 3) pa_nil))))
      (pss_cons (ps_if (PW.pt (pw_or (pt_not (pt_val (pe_callB call_isi (by rfl) Tx.b_isinstance (by decide +kernel) (pa_cons (pv 10) (pa_cons (pe_bltn (by rfl) Tx.b_tuple (by decide +kernel) (show RelV (.ty "tuple") _ from rfl)) pa_nil))))) (pw_or (pt_cmpR op_gt (pe_callB call_len_seq (by rfl) Tx.b_len (by decide +kernel) (pa_cons (pv 10) pa_nil)) (pv 3) (nomark _)) (pw_or1 (pt_cmpR (op_neD hu64) (pe_lc (own := [("a", 12)]) (g := gName 12)  rfl sc.nd (pi_tup (pv 10)) (blkOk_by (N := ["script", "deck", "turn", "size", "way", "cascade", "due", "raised", "less", "small", "told", "near", "a", "at"]) (sc := defScope Hd.s_law) (by decide +kernel)) (fun _ _ _ _ _ => (pg_name (i := 12) sc.nd rfl (Or.inl rfl))) (fun _ _ _ _ _ => (pts_one (PW.pt (pw_or (pt_not (pt_val (pe_callB call_isi (by rfl) Tx.b_isinstance (by decide +kernel) (pa_cons (pv 12) (pa_cons (pe_bltn (by rfl) Tx.b_int (by decide +kernel) (show RelV (.ty "int") _ from rfl)) pa_nil))))) (pw_or1 (pt_val (pe_callB call_isi (by rfl) Tx.b_isinstance (by decide +kernel) (pa_cons (pv 12) (pa_cons (pe_bltn (by rfl) Tx.b_bool (by decide +kernel) (show RelV (.ty "bool") _ from rfl)) pa_nil))))))))) (fun _ _ _ _ _ => (pv 12))) (pe_lst pa_nil) (nomark _)))))) (pss_one (ps_ret pe_bl)) pss_nil)
      (pss_cons (ps_set (i := 11) sc.nd rfl (Or.inl rfl) (pe_gc (c_law_four Tx) hg hr (by decide) rfl (pa_cons (pv 3) (pa_cons (pv 10) pa_nil))))
      (pss_one (ps_if (PW.pt (pw_or (pt_cmpR op_ne (pe_ix ix_list (pv 11) pe_int (fun _ _ => rfl)) (pv 9) (nomark _)) (pw_or1 (pt_not (pt_val (pe_gc (c_law_is_right Tx) hg hr (by decide) rfl (pa_cons (pv 9) (pa_cons (pv 3) (pa_cons (pe_slice sl_list (pv 11) (po_some pe_int) po_none) (pa_cons (pe_op op_sub pe_int (pv 4)) pa_nil)))))))))) (pss_one (ps_ret pe_bl)) pss_nil))))))))))))))))
      (pss_one (ps_ret (pe_cmpR op_eq (pe_callB (call_repr hg hu64) (by rfl) Tx.b_repr (by decide +kernel) (pa_cons (pe_lst (pa_cons (pe_gc (c_lower_sets Tx) hg hr (by decide) rfl (pa_cons pe_int (pa_cons pe_int pa_nil))) (pa_cons (pe_gc (c_upper_sets Tx) hg hr (by decide) rfl (pa_cons pe_int (pa_cons pe_int pa_nil))) (pa_cons (pe_gc (c_lower_products Tx) hg hr (by decide) rfl (pa_cons pe_int (pa_cons pe_int pa_nil))) (pa_cons (pe_gc (c_upper_products Tx) hg hr (by decide) rfl (pa_cons pe_int (pa_cons pe_int pa_nil))) pa_nil))))) pa_nil)) (pe_callB (call_repr hg hu64) (by rfl) Tx.b_repr (by decide +kernel) (pa_cons (pe_op op_rep (pe_lst (pa_cons pe_int pa_nil)) pe_int) pa_nil)) (nomark _))))))
end
end Dv
namespace Ok
open PySem PySem.Spec PyProof.Rows L2 HG HL Dv HN HP HCas HD HM HQ HK03
theorem tx {K : PySem.W.Frag} {h : Heap} {mg : Str → Option Value} (X : K.In h) (G : h.Ns mainGlobals mg) (c : He.SaysD Hd.fa Hd.fn K) : Tx K mg := by
  constructor
  · obtain ⟨fd, F⟩ := c.def_ (fn := Hd.fn) 0
    exact ⟨_, fd, F, He.glo_ok X G (c.fact (fa := Hd.fa) 0)⟩
  · obtain ⟨fd, F⟩ := c.def_ (fn := Hd.fn) 1
    exact ⟨_, fd, F, He.glo_ok X G (c.fact (fa := Hd.fa) 1)⟩
  · obtain ⟨fd, F⟩ := c.def_ (fn := Hd.fn) 2
    exact ⟨_, fd, F, He.glo_ok X G (c.fact (fa := Hd.fa) 2)⟩
  · obtain ⟨fd, F⟩ := c.def_ (fn := Hd.fn) 3
    exact ⟨_, fd, F, He.glo_ok X G (c.fact (fa := Hd.fa) 3)⟩
  · obtain ⟨fd, F⟩ := c.def_ (fn := Hd.fn) 4
    exact ⟨_, fd, F, He.glo_ok X G (c.fact (fa := Hd.fa) 4)⟩
  · obtain ⟨fd, F⟩ := c.def_ (fn := Hd.fn) 5
    exact ⟨_, fd, F, He.glo_ok X G (c.fact (fa := Hd.fa) 5)⟩
  · obtain ⟨fd, F⟩ := c.def_ (fn := Hd.fn) 6
    exact ⟨_, fd, F, He.glo_ok X G (c.fact (fa := Hd.fa) 6)⟩
  · obtain ⟨fd, F⟩ := c.def_ (fn := Hd.fn) 7
    exact ⟨_, fd, F, He.glo_ok X G (c.fact (fa := Hd.fa) 7)⟩
  · obtain ⟨fd, F⟩ := c.def_ (fn := Hd.fn) 8
    exact ⟨_, fd, F, He.glo_ok X G (c.fact (fa := Hd.fa) 8)⟩
  · obtain ⟨fd, F⟩ := c.def_ (fn := Hd.fn) 9
    exact ⟨_, fd, F, He.glo_ok X G (c.fact (fa := Hd.fa) 9)⟩
  · obtain ⟨fd, F⟩ := c.def_ (fn := Hd.fn) 10
    exact ⟨_, fd, F, He.glo_ok X G (c.fact (fa := Hd.fa) 10)⟩
  · obtain ⟨fd, F⟩ := c.def_ (fn := Hd.fn) 11
    exact ⟨_, fd, F, He.glo_ok X G (c.fact (fa := Hd.fa) 11)⟩
  · obtain ⟨fd, F⟩ := c.def_ (fn := Hd.fn) 12
    exact ⟨_, fd, F, He.glo_ok X G (c.fact (fa := Hd.fa) 12)⟩
  · obtain ⟨fd, F⟩ := c.def_ (fn := Hd.fn) 13
    exact ⟨_, fd, F, He.glo_ok X G (c.fact (fa := Hd.fa) 13)⟩
  · obtain ⟨fd, F⟩ := c.def_ (fn := Hd.fn) 14
    exact ⟨_, fd, F, He.glo_ok X G (c.fact (fa := Hd.fa) 14)⟩
  · obtain ⟨fd, F⟩ := c.def_ (fn := Hd.fn) 15
    exact ⟨_, fd, F, He.glo_ok X G (c.fact (fa := Hd.fa) 15)⟩
  · obtain ⟨fd, F⟩ := c.def_ (fn := Hd.fn) 16
    exact ⟨_, fd, F, He.glo_ok X G (c.fact (fa := Hd.fa) 16)⟩
  · obtain ⟨fd, F⟩ := c.def_ (fn := Hd.fn) 17
    exact ⟨_, fd, F, He.glo_ok X G (c.fact (fa := Hd.fa) 17)⟩
  · obtain ⟨fd, F⟩ := c.def_ (fn := Hd.fn) 18
    exact ⟨_, fd, F, He.glo_ok X G (c.fact (fa := Hd.fa) 18)⟩
  · obtain ⟨fd, F⟩ := c.def_ (fn := Hd.fn) 19
    exact ⟨_, fd, F, He.glo_ok X G (c.fact (fa := Hd.fa) 19)⟩
  · obtain ⟨fd, F⟩ := c.def_ (fn := Hd.fn) 20
    exact ⟨_, fd, F, He.glo_ok X G (c.fact (fa := Hd.fa) 20)⟩
  · obtain ⟨fd, F⟩ := c.def_ (fn := Hd.fn) 21
    exact ⟨_, fd, F, He.glo_ok X G (c.fact (fa := Hd.fa) 21)⟩
  · obtain ⟨fd, F⟩ := c.def_ (fn := Hd.fn) 22
    exact ⟨_, fd, F, He.glo_ok X G (c.fact (fa := Hd.fa) 22)⟩
  · obtain ⟨fd, F⟩ := c.def_ (fn := Hd.fn) 23
    exact ⟨_, fd, F, He.glo_ok X G (c.fact (fa := Hd.fa) 23)⟩
  · obtain ⟨fd, F⟩ := c.def_ (fn := Hd.fn) 24
    exact ⟨_, fd, F, He.glo_ok X G (c.fact (fa := Hd.fa) 24)⟩
  · obtain ⟨fd, F⟩ := c.def_ (fn := Hd.fn) 25
    exact ⟨_, fd, F, He.glo_ok X G (c.fact (fa := Hd.fa) 25)⟩
  · obtain ⟨fd, F⟩ := c.def_ (fn := Hd.fn) 26
    exact ⟨_, fd, F, He.glo_ok X G (c.fact (fa := Hd.fa) 26)⟩
  · obtain ⟨fd, F⟩ := c.def_ (fn := Hd.fn) 27
    exact ⟨_, fd, F, He.glo_ok X G (c.fact (fa := Hd.fa) 27)⟩
  · exact He.free_ok X G (c.fact (fa := Hd.fa) 28)
  · exact He.free_ok X G (c.fact (fa := Hd.fa) 29)
  · exact He.free_ok X G (c.fact (fa := Hd.fa) 30)
  · exact He.free_ok X G (c.fact (fa := Hd.fa) 31)
  · exact He.free_ok X G (c.fact (fa := Hd.fa) 32)
  · exact He.free_ok X G (c.fact (fa := Hd.fa) 33)
  · exact He.free_ok X G (c.fact (fa := Hd.fa) 34)
  · exact He.free_ok X G (c.fact (fa := Hd.fa) 35)
  · exact He.free_ok X G (c.fact (fa := Hd.fa) 36)
  · exact He.free_ok X G (c.fact (fa := Hd.fa) 37)
  · exact He.free_ok X G (c.fact (fa := Hd.fa) 38)
  · exact He.free_ok X G (c.fact (fa := Hd.fa) 39)
  · exact He.free_ok X G (c.fact (fa := Hd.fa) 40)
  · exact He.free_ok X G (c.fact (fa := Hd.fa) 41)
  · exact He.free_ok X G (c.fact (fa := Hd.fa) 42)
end Ok
open PySem PySem.W PySem.Calls PyProof.Rows
theorem PySem.Challenge.cw_holerows_k03_the_four_numbers_of_a_casca_holds : PySem.Challenge.rw_holerows_k03_the_four_numbers_of_a_casca.Holds := by
  w_on; o_law
  refine HandSHeadRun.head_any (r := OpenLaw.row PySem.Challenge.rw_holerows_k03_the_four_numbers_of_a_casca) (q := view (OpenLaw.row PySem.Challenge.rw_holerows_k03_the_four_numbers_of_a_casca).prog [35]) (H := Hd.hk) (ob := Hd.ob) (M := 2000) (loose := Hd.names) (d := HandSHeadRun.topDef (OpenLaw.row PySem.Challenge.rw_holerows_k03_the_four_numbers_of_a_casca).prog 35) (kwd := []) Hd.ob_eq
    (by kernel_rfl) (fun s => by kernel_rfl) Hd.run (by kernel_rfl) (by kernel_rfl) (by kernel_rfl) (by rfl) (by first | assumption | decide +kernel) (by decide +kernel) ⟨rfl, rfl, rfl, rfl, rfl, by decide +kernel⟩ ?hw ?hc
  case hw => w_witness2
  case hc =>
    refine HE.walkC (l := PySem.Challenge.rw_holerows_k03_the_four_numbers_of_a_casca) (n := 7) (N := 63) (x := "script") (lw := "law") (st := Hd.s_law) rfl (by decide) (by kernel_rfl) ⟨rfl, by decide, by decide⟩ (by kernel_rfl) (fun _ _ _ _ _ _ us hl => match us, hl with | [_], _ => rfl) ?F
    intro w mg h Y G
    obtain ⟨K, KX, c⟩ := Y
    have T := Ok.tx KX G c
    exact ⟨K, HK03.sp_law K, KX, T.d_law, fun H a ns hl hS hF => ⟨a, ns, rfl, hS, hl, fun _ => rfl⟩, fun base => Dv.c_law T⟩
