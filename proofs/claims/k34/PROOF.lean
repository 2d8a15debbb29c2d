import PyProof.Rows.All
import Wide.All
import OpenK.AllK
import Wide.FinOn
import KE.KStateDown
import HandS.ForMost
import HandS.Defaults
import HandS.Head0
import HandS.Head1
import HandS.Head2
import HandS.HeadEnd
import HandS.HeadHook1
import HandS.HeadHook2
import HandS.Wide
import HandS.IsInst
import HandS.Zip
import HandS.TupLe
import HandS.TupAny
import HandS.Style
import HandS.Evl
import KE.GoesEnum
import HandS.Zip0
import HandS.RaiseMore
import PySem.Challenge.RW_holerows_k34_least_rests_and_most_holes
set_option Elab.async false
set_option linter.all false
set_option maxRecDepth 100000
set_option maxHeartbeats 0
set_option exponentiation.threshold 100000
namespace HR
/-- the number of sets of k of n things -/
def ch : Nat → Nat → Nat
  | _, 0 => 1
  | 0, _ + 1 => 0
  | n + 1, k + 1 => ch n k + ch n (k + 1)
@[simp] theorem ch_zero (n : Nat) : ch n 0 = 1 := by cases n <;> rfl
@[simp] theorem ch_zero_succ (k : Nat) : ch 0 (k + 1) = 0 := rfl
theorem ch_ss (n k : Nat) : ch (n + 1) (k + 1) = ch n k + ch n (k + 1) := rfl
theorem ch_lt : ∀ {n k : Nat}, n < k → ch n k = 0
  | 0, k + 1, _ => rfl
  | n + 1, k + 1, h => by rw [ch_ss, ch_lt (n := n) (k := k) (by omega), ch_lt (n := n) (k := k + 1) (by omega)]
@[simp] theorem ch_self : ∀ n : Nat, ch n n = 1
  | 0 => rfl
  | n + 1 => by rw [ch_ss, ch_self n, ch_lt (by omega)]
@[simp] theorem ch_one : ∀ n : Nat, ch n 1 = n
  | 0 => rfl
  | n + 1 => by rw [ch_ss, ch_one n, ch_zero]; omega
theorem ch_pos : ∀ {n k : Nat}, k ≤ n → 0 < ch n k
  | n, 0, _ => by simp
  | n + 1, k + 1, h => by rw [ch_ss]; have := ch_pos (n := n) (k := k) (by omega); omega
theorem ch_step (n k : Nat) : ch n k ≤ ch (n + 1) k := by
  cases k with
  | zero => simp
  | succ k => rw [ch_ss]; omega
theorem ch_mono {n m k : Nat} (h : n ≤ m) : ch n k ≤ ch m k := by
  induction m with
  | zero => have : n = 0 := by omega
            subst this; exact Nat.le_refl _
  | succ m ih =>
    by_cases e : n = m + 1
    · subst e; exact Nat.le_refl _
    · exact Nat.le_trans (ih (by omega)) (ch_step m k)
theorem ch_strict {n m k : Nat} (h : n < m) (hk : 1 ≤ k) (hm : k ≤ m) : ch n k < ch m k := by
  obtain ⟨m, rfl⟩ : ∃ m', m = m' + 1 := ⟨m - 1, by omega⟩
  obtain ⟨k, rfl⟩ : ∃ k', k = k' + 1 := ⟨k - 1, by omega⟩
  have h1 : ch n (k + 1) ≤ ch m (k + 1) := ch_mono (by omega)
  have h2 := ch_pos (n := m) (k := k) (by omega)
  rw [ch_ss]; omega
/-- the product rule -/
theorem ch_mul : ∀ n k : Nat, ch n (k + 1) * (k + 1) = ch n k * (n - k)
  | 0, k => by simp
  | n + 1, 0 => by simp
  | n + 1, k + 1 => by
    have h1 := ch_mul n k
    have h2 := ch_mul n (k + 1)
    rw [ch_ss n (k + 1), ch_ss n k]
    by_cases hk : k < n
    · have e : n - k = (n - (k + 1)) + 1 := by omega
      have e2 : n + 1 - (k + 1) = (n - (k + 1)) + 1 := by omega
      rw [e2]
      rw [e] at h1
      generalize n - (k + 1) = d at *
      generalize ch n (k + 1 + 1) = A at *
      generalize ch n (k + 1) = B at *
      generalize ch n k = C at *
      have h1' : B * k + B = C * d + C := by rw [Nat.mul_add, Nat.mul_add] at h1; omega
      have h2' : A * k + A + A = B * d := by
        have : A * (k + 1 + 1) = A * k + A + A := by rw [Nat.mul_add, Nat.mul_add]; omega
        omega
      have g1 : (B + A) * (k + 1 + 1) = B * k + B + B + (A * k + A + A) := by
        rw [Nat.add_mul, Nat.mul_add, Nat.mul_add, Nat.mul_add, Nat.mul_add]; omega
      have g2 : (C + B) * (d + 1) = C * d + C + (B * d + B) := by
        rw [Nat.add_mul, Nat.mul_add, Nat.mul_add]; omega
      omega
    · have e1 : ch n (k + 1) = 0 := ch_lt (by omega)
      have e2 : ch n (k + 1 + 1) = 0 := ch_lt (by omega)
      have e3 : n + 1 - (k + 1) = 0 := by omega
      rw [e1, e2, e3]; simp
/-- at least one more for each thing more -/
theorem ch_ge : ∀ {n k : Nat}, 1 ≤ k → k ≤ n → n + 1 ≤ ch n k + k
  | 0, 0, h, _ => absurd h (by omega)
  | 0, _ + 1, _, h => absurd h (by omega)
  | _ + 1, 0, h, _ => absurd h (by omega)
  | n + 1, k + 1, _, h => by
    by_cases e : k + 1 = n + 1
    · rw [e, ch_self]; omega
    · have h1 := ch_ge (n := n) (k := k + 1) (by omega) (by omega)
      have h2 := ch_pos (n := n) (k := k) (by omega)
      rw [ch_ss]; omega

/-! ### the greatest number of things -/
def grt (s n : Nat) : Nat → Nat
  | 0 => 0
  | f + 1 => if ch (f + 1) s ≤ n then f + 1 else grt s n f
def great (s n : Nat) : Nat := grt s n (n + s)
theorem grt_spec {s n : Nat} (hs : 1 ≤ s) : ∀ f, n < ch (f + 1) s → ch (grt s n f) s ≤ n ∧ n < ch (grt s n f + 1) s
  | 0, h => by
    refine ⟨?_, h⟩
    show ch 0 s ≤ n
    rw [ch_lt (by omega)]; omega
  | f + 1, h => by
    unfold grt
    by_cases e : ch (f + 1) s ≤ n
    · rw [if_pos e]; exact ⟨e, h⟩
    · rw [if_neg e]; exact grt_spec hs f (by omega)
theorem great_spec {s n : Nat} (hs : 1 ≤ s) : ch (great s n) s ≤ n ∧ n < ch (great s n + 1) s := by
  refine grt_spec hs (n + s) ?_
  have := ch_ge (n := n + s + 1) (k := s) hs (by omega)
  omega
theorem great_uniq {s n a : Nat} (hs : 1 ≤ s) (ha : s ≤ a) (h1 : ch a s ≤ n) (h2 : n < ch (a + 1) s) : great s n = a := by
  obtain ⟨g1, g2⟩ := great_spec (s := s) (n := n) hs
  rcases Nat.lt_trichotomy (great s n) a with h | h | h
  · have : ch (great s n + 1) s ≤ ch a s := ch_mono (by omega)
    omega
  · exact h
  · have : ch (a + 1) s ≤ ch (great s n) s := ch_mono (by omega)
    omega
theorem great_ge {s n : Nat} (hs : 1 ≤ s) (hn : 1 ≤ n) : s ≤ great s n := by
  obtain ⟨g1, g2⟩ := great_spec (s := s) (n := n) hs
  apply Classical.byContradiction
  intro h
  have : ch (great s n + 1) s ≤ ch s s := ch_mono (by omega)
  rw [ch_self] at this
  omega
/-! ### cascades -/
def IsCas : Nat → List Nat → Prop
  | _, [] => True
  | 0, _ :: _ => False
  | s + 1, a :: l => s + 1 ≤ a ∧ (∀ b, l.head? = some b → b < a) ∧ IsCas s l
theorem isCas_nil (s : Nat) : IsCas s [] := by cases s <;> trivial
/-- the sum of f item place over a tuple -/
def sumC (f : Nat → Nat → Nat) : Nat → List Nat → Nat
  | _, [] => 0
  | s, a :: l => f a s + sumC f (s - 1) l
abbrev val (s : Nat) (l : List Nat) : Nat := sumC ch s l
def cas : Nat → Nat → List Nat
  | 0, _ => []
  | _ + 1, 0 => []
  | s + 1, n + 1 => great (s + 1) (n + 1) :: cas s (n + 1 - ch (great (s + 1) (n + 1)) (s + 1))
theorem val_lt : ∀ {s : Nat} {l : List Nat} {a : Nat}, IsCas s l → s ≤ a → (∀ b, l.head? = some b → b < a) → val s l < ch a s
  | s, [], a, _, h, _ => by
    show 0 < ch a s
    exact ch_pos h
  | 0, _ :: _, _, h, _, _ => h.elim
  | s + 1, b :: l, a, h, _, hb => by
    obtain ⟨h1, h2, h3⟩ := h
    have hba : b < a := hb b rfl
    have ih := val_lt (s := s) (l := l) (a := b) h3 (by omega) h2
    show ch b (s + 1) + val (s + 1 - 1) l < ch a (s + 1)
    have e : ch (b + 1) (s + 1) ≤ ch a (s + 1) := ch_mono hba
    rw [ch_ss] at e
    have e2 : s + 1 - 1 = s := rfl
    rw [e2]
    omega
theorem cas_val : ∀ s n, (s = 0 → n = 0) → val s (cas s n) = n
  | 0, n, h => by rw [h rfl]; rfl
  | s + 1, 0, _ => rfl
  | s + 1, n + 1, _ => by
    obtain ⟨g1, g2⟩ := great_spec (s := s + 1) (n := n + 1) (by omega)
    show ch (great (s + 1) (n + 1)) (s + 1) + val s (cas s (n + 1 - ch (great (s + 1) (n + 1)) (s + 1))) = n + 1
    rw [cas_val s]
    · omega
    · intro e; subst e
      rw [ch_ss, ch_zero] at g2
      omega
theorem cas_head {s n b : Nat} (h : (cas s n).head? = some b) : 1 ≤ s ∧ 1 ≤ n ∧ ch b s ≤ n ∧ s ≤ b := by
  cases s with
  | zero => cases h
  | succ s =>
    cases n with
    | zero => cases h
    | succ n =>
      have e : great (s + 1) (n + 1) = b := Option.some.inj h
      subst e
      exact ⟨by omega, by omega, (great_spec (by omega)).1, great_ge (by omega) (by omega)⟩
theorem cas_is : ∀ s n, IsCas s (cas s n)
  | 0, n => trivial
  | s + 1, 0 => trivial
  | s + 1, n + 1 => by
    obtain ⟨g1, g2⟩ := great_spec (s := s + 1) (n := n + 1) (by omega)
    refine ⟨great_ge (by omega) (by omega), fun b hb => ?_, cas_is s _⟩
    obtain ⟨h1, h2, h3, h4⟩ := cas_head hb
    apply Classical.byContradiction
    intro hh
    have : ch (great (s + 1) (n + 1)) s ≤ ch b s := ch_mono (by omega)
    rw [ch_ss] at g2
    omega
theorem IsCas.uniq : ∀ {s : Nat} {l : List Nat}, IsCas s l → cas s (val s l) = l
  | 0, [], _ => rfl
  | s + 1, [], _ => rfl
  | 0, _ :: _, h => h.elim
  | s + 1, a :: l, h => by
    obtain ⟨h1, h2, h3⟩ := h
    have e : val (s + 1) (a :: l) = ch a (s + 1) + val s l := rfl
    have hp := ch_pos h1
    have hl := val_lt h3 (by omega : s ≤ a) h2
    have hg : great (s + 1) (ch a (s + 1) + val s l) = a := great_uniq (by omega) h1 (by omega) (by rw [ch_ss]; omega)
    have hc : ∀ n, n = ch a (s + 1) + val s l → cas (s + 1) n = great (s + 1) n :: cas s (n - ch (great (s + 1) n) (s + 1)) := by
      intro n hn
      cases n with
      | zero => omega
      | succ n => rfl
    rw [e, hc _ rfl, hg, Nat.add_sub_cancel_left, IsCas.uniq h3]
theorem IsCas.inj {s : Nat} {l m : List Nat} (hl : IsCas s l) (hm : IsCas s m) (h : val s l = val s m) : l = m := by
  rw [← hl.uniq, ← hm.uniq, h]
theorem IsCas.len : ∀ {s : Nat} {l : List Nat}, IsCas s l → l.length ≤ s
  | _, [], _ => by simp
  | 0, _ :: _, h => h.elim
  | s + 1, a :: l, h => by
    have := IsCas.len h.2.2
    rw [List.length_cons]; omega
theorem cas_zero (s : Nat) : cas s 0 = [] := by cases s <;> rfl
theorem cas_pos {s n : Nat} (hs : 1 ≤ s) (hn : 1 ≤ n) : cas s n = great s n :: cas (s - 1) (n - ch (great s n) s) := by
  cases s with
  | zero => omega
  | succ s => cases n with
    | zero => omega
    | succ n => rfl
/-! ### order -/
def lexL : List Nat → List Nat → Bool
  | [], [] => false
  | [], _ :: _ => true
  | _ :: _, [] => false
  | x :: xs, y :: ys => if x = y then lexL xs ys else decide (x < y)
theorem lex_val : ∀ {s : Nat} {l m : List Nat}, IsCas s l → IsCas s m → lexL l m = decide (val s l < val s m)
  | s, [], [], _, _ => by
    show false = decide (0 < 0)
    rfl
  | 0, [], _ :: _, _, h => h.elim
  | 0, _ :: _, _, h, _ => h.elim
  | s + 1, [], y :: ys, _, h => by
    have hp : 0 < ch y (s + 1) := ch_pos h.1
    show true = decide (0 < ch y (s + 1) + val s ys)
    rw [decide_eq_true (by omega)]
  | s + 1, x :: xs, [], h, _ => by
    show false = decide (ch x (s + 1) + val s xs < 0)
    rw [decide_eq_false (by omega)]
  | s + 1, x :: xs, y :: ys, h, g => by
    have ih := lex_val h.2.2 g.2.2
    show (if x = y then lexL xs ys else decide (x < y)) = decide (ch x (s + 1) + val s xs < ch y (s + 1) + val s ys)
    have hx := h.1
    have hy := g.1
    by_cases e : x = y
    · subst e
      rw [if_pos rfl, ih]
      exact decide_eq_decide.mpr (by omega)
    · rw [if_neg e]
      apply decide_eq_decide.mpr
      have l1 := val_lt h.2.2 (by omega : s ≤ x) h.2.1
      have l2 := val_lt g.2.2 (by omega : s ≤ y) g.2.1
      constructor
      · intro q
        have : ch (x + 1) (s + 1) ≤ ch y (s + 1) := ch_mono q
        rw [ch_ss] at this
        omega
      · intro q
        apply Classical.byContradiction
        intro hq
        have : ch (y + 1) (s + 1) ≤ ch x (s + 1) := ch_mono (by omega)
        rw [ch_ss] at this
        omega

/-! ### sums over cascades -/
theorem sumC_append (f : Nat → Nat → Nat) : ∀ (s : Nat) (l m : List Nat), sumC f s (l ++ m) = sumC f s l + sumC f (s - l.length) m
  | s, [], m => by simp [sumC]
  | s, a :: l, m => by
    show f a s + sumC f (s - 1) (l ++ m) = f a s + sumC f (s - 1) l + sumC f (s - (l.length + 1)) m
    rw [sumC_append f (s - 1) l m, Nat.sub_sub, Nat.add_comm 1 l.length]
    omega
structure Step (f : Nat → Nat → Nat) : Prop where
  add : ∀ b s, 2 ≤ s → s ≤ b → f b s + f b (s - 1) ≤ f (b + 1) s
  mono : ∀ a b s, a ≤ b → f a s ≤ f b s
theorem sumC_le {f : Nat → Nat → Nat} (F : Step f) : ∀ {s : Nat} {l : List Nat} {a : Nat}, IsCas s l → (∀ b, l.head? = some b → b < a) → sumC f s l ≤ f a s
  | s, [], a, _, _ => Nat.zero_le _
  | 0, _ :: _, _, h, _ => h.elim
  | s + 1, b :: l, a, h, hb => by
    have hba : b < a := hb b rfl
    show f b (s + 1) + sumC f s l ≤ f a (s + 1)
    cases s with
    | zero =>
      cases l with
      | nil => exact F.mono _ _ _ (by omega)
      | cons c l => exact h.2.2.elim
    | succ s =>
      have ih := sumC_le F h.2.2 h.2.1
      have h2 := F.add b (s + 1 + 1) (by omega) h.1
      have h3 := F.mono (b + 1) a (s + 1 + 1) hba
      rw [Nat.add_sub_cancel] at h2
      omega
theorem sumC_mono {f : Nat → Nat → Nat} (F : Step f) : ∀ {s : Nat} {l m : List Nat}, IsCas s l → IsCas s m → val s l ≤ val s m → sumC f s l ≤ sumC f s m
  | s, [], m, _, _, _ => Nat.zero_le _
  | 0, _ :: _, _, h, _, _ => h.elim
  | s + 1, x :: xs, [], h, _, q => by
    have hp : 0 < ch x (s + 1) := ch_pos h.1
    have q' : ch x (s + 1) + val s xs ≤ 0 := q
    omega
  | s + 1, x :: xs, y :: ys, h, g, q => by
    show f x (s + 1) + sumC f s xs ≤ f y (s + 1) + sumC f s ys
    have q' : ch x (s + 1) + val s xs ≤ ch y (s + 1) + val s ys := q
    rcases Nat.lt_trichotomy x y with e | e | e
    · have hx := sumC_le F (s := s + 1) (l := x :: xs) (a := y) h (fun b hb => by cases hb; exact e)
      have hx' : f x (s + 1) + sumC f s xs ≤ f y (s + 1) := hx
      omega
    · subst e
      have := sumC_mono F h.2.2 g.2.2 (by omega)
      omega
    · have l2 := val_lt (s := s + 1) (l := y :: ys) (a := x) g h.1 (fun b hb => by cases hb; exact e)
      have l2' : ch y (s + 1) + val s ys < ch x (s + 1) := l2
      omega
theorem ch_add (n k : Nat) (hn : 1 ≤ n) (hk : 1 ≤ k) : ch n k = ch (n - 1) (k - 1) + ch (n - 1) k := by
  obtain ⟨n, rfl⟩ : ∃ m, n = m + 1 := ⟨n - 1, by omega⟩
  obtain ⟨k, rfl⟩ : ∃ m, k = m + 1 := ⟨k - 1, by omega⟩
  rfl
abbrev fLS (a i : Nat) : Nat := ch a (i - 1)
abbrev fUS (a i : Nat) : Nat := ch a (i + 1)
abbrev fLP (a i : Nat) : Nat := ch (a - 1) (i - 1)
abbrev fUP (a i : Nat) : Nat := ch (a + 1) (i + 1)
theorem stLS : Step fLS := ⟨fun b s h1 h2 => by
  show ch b (s - 1) + ch b (s - 1 - 1) ≤ ch (b + 1) (s - 1)
  rw [ch_add (b + 1) (s - 1) (by omega) (by omega), Nat.add_sub_cancel]; omega, fun a b s h => ch_mono h⟩
theorem stUS : Step fUS := ⟨fun b s h1 h2 => by
  show ch b (s + 1) + ch b (s - 1 + 1) ≤ ch (b + 1) (s + 1)
  rw [ch_ss, Nat.sub_add_cancel (by omega)]; omega, fun a b s h => ch_mono h⟩
theorem stLP : Step fLP := ⟨fun b s h1 h2 => by
  show ch (b - 1) (s - 1) + ch (b - 1) (s - 1 - 1) ≤ ch (b + 1 - 1) (s - 1)
  rw [ch_add (b + 1 - 1) (s - 1) (by omega) (by omega), Nat.add_sub_cancel]; omega, fun a b s h => ch_mono (by omega)⟩
theorem stUP : Step fUP := ⟨fun b s h1 h2 => by
  show ch (b + 1) (s + 1) + ch (b + 1) (s - 1 + 1) ≤ ch (b + 1 + 1) (s + 1)
  rw [ch_ss (b + 1) s, Nat.sub_add_cancel (by omega)]; omega, fun a b s h => ch_mono (by omega)⟩
def LS (n s : Nat) : Nat := sumC fLS s (cas s n)
def US (n s : Nat) : Nat := sumC fUS s (cas s n)
def LP (n s : Nat) : Nat := sumC fLP s (cas s n)
def UP (n s : Nat) : Nat := sumC fUP s (cas s n)
theorem sum_mono {f : Nat → Nat → Nat} (F : Step f) {s n m : Nat} (hs : 1 ≤ s) (h : n ≤ m) : sumC f s (cas s n) ≤ sumC f s (cas s m) :=
  sumC_mono F (cas_is s n) (cas_is s m) (by rw [cas_val _ _ (by omega), cas_val _ _ (by omega)]; exact h)
theorem LS_mono {n m s : Nat} (hs : 1 ≤ s) (h : n ≤ m) : LS n s ≤ LS m s := sum_mono stLS hs h
theorem US_mono {n m s : Nat} (hs : 1 ≤ s) (h : n ≤ m) : US n s ≤ US m s := sum_mono stUS hs h
theorem LP_mono {n m s : Nat} (hs : 1 ≤ s) (h : n ≤ m) : LP n s ≤ LP m s := sum_mono stLP hs h
theorem UP_mono {n m s : Nat} (hs : 1 ≤ s) (h : n ≤ m) : UP n s ≤ UP m s := sum_mono stUP hs h
/-! ### one more: append the least item -/
theorem IsCas.append : ∀ {s : Nat} {l : List Nat}, IsCas s l → l.length < s → IsCas s (l ++ [s - l.length])
  | 0, [], _, h => by cases h
  | s + 1, [], _, _ => ⟨Nat.le_refl _, (fun b hb => by cases hb), isCas_nil _⟩
  | 0, _ :: _, h, _ => h.elim
  | s + 1, a :: l, h, hl => by
    have hl' : l.length < s := by rw [List.length_cons] at hl; omega
    have ih := IsCas.append h.2.2 hl'
    have e : s + 1 - (a :: l).length = s - l.length := by rw [List.length_cons]; omega
    rw [e]
    refine ⟨h.1, fun b hb => ?_, ih⟩
    cases l with
    | nil =>
      have hb' : some (s - 0) = some b := hb
      cases hb'
      have := h.1
      omega
    | cons c l => exact h.2.1 b hb
theorem sumC_snoc (f : Nat → Nat → Nat) (s : Nat) (l : List Nat) (x : Nat) : sumC f s (l ++ [x]) = sumC f s l + f x (s - l.length) := by
  rw [sumC_append]; rfl
theorem cas_succ {s : Nat} {l : List Nat} (h : IsCas s l) (hl : l.length < s) : cas s (val s l + 1) = l ++ [s - l.length] := by
  have e : val s (l ++ [s - l.length]) = val s l + 1 := by
    show sumC ch s (l ++ [s - l.length]) = val s l + 1
    rw [sumC_snoc, ch_self]
  rw [← e]
  exact (h.append hl).uniq
/-! ### all items more by 1, the size above -/
theorem IsCas.up : ∀ {s : Nat} {l : List Nat}, IsCas s l → IsCas (s + 1) (l.map (· + 1))
  | _, [], _ => isCas_nil _
  | 0, _ :: _, h => h.elim
  | s + 1, a :: l, h => by
    refine ⟨Nat.succ_le_succ h.1, fun b hb => ?_, IsCas.up h.2.2⟩
    cases l with
    | nil => cases hb
    | cons c l =>
      have hb' : some (c + 1) = some b := hb
      cases hb'
      exact Nat.succ_lt_succ (h.2.1 c rfl)
theorem sumC_up (f : Nat → Nat → Nat) : ∀ {s : Nat} {l : List Nat}, IsCas s l → sumC f (s + 1) (l.map (· + 1)) = sumC (fun a i => f (a + 1) (i + 1)) s l
  | _, [], _ => rfl
  | 0, _ :: _, h => h.elim
  | s + 1, a :: l, h => by
    show f (a + 1) (s + 1 + 1) + sumC f (s + 1) (l.map (· + 1)) = f (a + 1) (s + 1 + 1) + sumC _ s l
    rw [sumC_up f h.2.2]
theorem cas_up {n s : Nat} : cas (s + 1) (UP n s) = (cas s n).map (· + 1) := by
  have e : val (s + 1) ((cas s n).map (· + 1)) = UP n s := sumC_up ch (cas_is s n)
  rw [← e]
  exact (cas_is s n).up.uniq
theorem LP_UP {n s : Nat} (hs : 1 ≤ s) : LP (UP n s) (s + 1) = n := by
  unfold LP
  rw [cas_up, sumC_up fLP (cas_is s n)]
  exact cas_val s n (by omega)
theorem LP_UP1 {n s : Nat} (hs : 1 ≤ s) : LP (UP n s + 1) (s + 1) = n + 1 := by
  have h := (cas_is s n).up
  have hl : ((cas s n).map (· + 1)).length < s + 1 := by
    have := (cas_is s n).len
    rw [List.length_map]; omega
  have e : val (s + 1) ((cas s n).map (· + 1)) = UP n s := sumC_up ch (cas_is s n)
  have c := cas_succ h hl
  rw [e] at c
  unfold LP
  rw [c, sumC_snoc, sumC_up fLP (cas_is s n)]
  show val s (cas s n) + ch (s + 1 - ((cas s n).map (· + 1)).length - 1) (s + 1 - ((cas s n).map (· + 1)).length - 1) = n + 1
  rw [ch_self, cas_val s n (by omega)]
theorem galP {n m s : Nat} (hs : 1 ≤ s) : LP m (s + 1) ≤ n ↔ m ≤ UP n s := by
  constructor
  · intro h
    apply Classical.byContradiction
    intro q
    have := LP_mono (s := s + 1) (n := UP n s + 1) (m := m) (by omega) (by omega)
    rw [LP_UP1 hs] at this
    omega
  · intro h
    have := LP_mono (s := s + 1) (by omega) h
    rw [LP_UP hs] at this
    exact this
/-! ### the items above their places -/
def tr : Nat → List Nat → List Nat
  | _, [] => []
  | s, a :: l => if s < a then a :: tr (s - 1) l else []
theorem tr_cons {s a : Nat} {l : List Nat} (h : s < a) : tr s (a :: l) = a :: tr (s - 1) l := by
  rw [tr, if_pos h]
theorem tr_stop {s a : Nat} {l : List Nat} (h : ¬ s < a) : tr s (a :: l) = [] := by
  rw [tr, if_neg h]
theorem tr_rest : ∀ {s : Nat} {l : List Nat}, IsCas s l → (∀ a, l.head? = some a → a = s) → ∀ f : Nat → Nat → Nat, (∀ i, 1 ≤ i → f i i ≤ 1) → sumC f s l ≤ l.length
  | _, [], _, _, _, _ => Nat.le_refl _
  | 0, _ :: _, h, _, _, _ => h.elim
  | s + 1, a :: l, h, ha, f, hf => by
    have e : a = s + 1 := ha a rfl
    subst e
    have ih := tr_rest h.2.2 (fun b hb => by
      have h1 := h.2.1 b hb
      have h2 : s ≤ b := by
        cases l with
        | nil => cases hb
        | cons c l => cases s with
          | zero => exact h.2.2.elim
          | succ s => cases hb; exact h.2.2.1
      omega) f hf
    show f (s + 1) (s + 1) + sumC f s l ≤ l.length + 1
    have := hf (s + 1) (by omega)
    omega
/-- what the cut takes away is at most one for each place left -/
theorem tr_cut (f : Nat → Nat → Nat) (hf : ∀ i, 1 ≤ i → f i i ≤ 1) : ∀ {s : Nat} {l : List Nat}, IsCas s l → (tr s l).length ≤ l.length ∧ sumC f s (tr s l) ≤ sumC f s l ∧ sumC f s l + (tr s l).length ≤ sumC f s (tr s l) + l.length
  | _, [], _ => ⟨Nat.le_refl _, Nat.le_refl _, Nat.le_refl _⟩
  | 0, _ :: _, h => h.elim
  | s + 1, a :: l, h => by
    by_cases e : s + 1 < a
    · have et : tr (s + 1) (a :: l) = a :: tr s l := tr_cons e
      obtain ⟨h1, h2, h3⟩ := tr_cut f hf h.2.2
      rw [et]
      refine ⟨?_, ?_, ?_⟩
      · simp only [List.length_cons]; omega
      · show f a (s + 1) + sumC f s (tr s l) ≤ f a (s + 1) + sumC f s l
        omega
      · show f a (s + 1) + sumC f s l + ((tr s l).length + 1) ≤ f a (s + 1) + sumC f s (tr s l) + (l.length + 1)
        omega
    · have et : tr (s + 1) (a :: l) = [] := tr_stop e
      have := tr_rest h (fun b hb => by cases hb; have := h.1; omega) f hf
      rw [et]
      refine ⟨Nat.zero_le _, Nat.zero_le _, ?_⟩
      show sumC f (s + 1) (a :: l) + 0 ≤ 0 + (a :: l).length
      omega
/-- .. nothing, if f is 0 where item and place are equal -/
theorem tr_cut0 (f : Nat → Nat → Nat) (hf : ∀ i, 1 ≤ i → f i i = 0) : ∀ {s : Nat} {l : List Nat}, IsCas s l → sumC f s (tr s l) = sumC f s l
  | _, [], _ => rfl
  | 0, _ :: _, h => h.elim
  | s + 1, a :: l, h => by
    by_cases e : s + 1 < a
    · have et : tr (s + 1) (a :: l) = a :: tr s l := tr_cons e
      rw [et]
      show f a (s + 1) + sumC f s (tr s l) = f a (s + 1) + sumC f s l
      rw [tr_cut0 f hf h.2.2]
    · have et : tr (s + 1) (a :: l) = [] := tr_stop e
      rw [et]
      have ha : a = s + 1 := by have := h.1; omega
      subst ha
      show 0 = f (s + 1) (s + 1) + sumC f s l
      have z : ∀ {s : Nat} {l : List Nat}, IsCas s l → (∀ a, l.head? = some a → a ≤ s) → sumC f s l = 0 := by
        intro s l
        induction l generalizing s with
        | nil => intro _ _; rfl
        | cons c l ih =>
          intro h hc
          cases s with
          | zero => exact h.elim
          | succ s =>
            have hcs : c = s + 1 := by have := h.1; have := hc c rfl; omega
            subst hcs
            show f (s + 1) (s + 1) + sumC f s l = 0
            rw [hf _ (by omega), ih h.2.2 (fun b hb => by have := h.2.1 b hb; omega)]
      rw [hf _ (by omega), z h.2.2 (fun b hb => by have := h.2.1 b hb; omega)]
theorem tr_head {s : Nat} {l : List Nat} {b : Nat} (hb : (tr s l).head? = some b) : l.head? = some b ∧ s < b := by
  cases l with
  | nil => cases hb
  | cons a l =>
    by_cases e : s < a
    · have et : tr s (a :: l) = a :: tr (s - 1) l := tr_cons e
      rw [et] at hb
      cases hb
      exact ⟨rfl, e⟩
    · have et : tr s (a :: l) = [] := tr_stop e
      rw [et] at hb
      cases hb
/-- the cut one is a cascade for the size above -/
theorem tr_up : ∀ {s : Nat} {l : List Nat}, IsCas s l → IsCas (s + 1) (tr s l)
  | _, [], _ => isCas_nil _
  | 0, _ :: _, h => h.elim
  | s + 1, a :: l, h => by
    by_cases e : s + 1 < a
    · have et : tr (s + 1) (a :: l) = a :: tr s l := tr_cons e
      rw [et]
      exact ⟨by omega, fun b hb => h.2.1 b (tr_head hb).1, tr_up h.2.2⟩
    · have et : tr (s + 1) (a :: l) = [] := tr_stop e
      rw [et]
      exact isCas_nil _
/-- the size one more, for a list that is no longer than the size -/
theorem sumC_size (f : Nat → Nat → Nat) : ∀ {s : Nat} {l : List Nat}, l.length ≤ s → sumC f (s + 1) l = sumC (fun a i => f a (i + 1)) s l
  | _, [], _ => rfl
  | 0, _ :: _, h => by cases h
  | s + 1, a :: l, h => by
    show f a (s + 1 + 1) + sumC f (s + 1) l = f a (s + 1 + 1) + sumC _ s l
    rw [sumC_size f (by rw [List.length_cons] at h; omega)]
theorem tr_len {s : Nat} {l : List Nat} (h : IsCas s l) : (tr s l).length ≤ s := Nat.le_trans (tr_cut (fun _ _ => 0) (fun _ _ => by omega) h).1 h.len
theorem val_tr_up {s : Nat} {l : List Nat} (h : IsCas s l) : val (s + 1) (tr s l) = sumC fUS s l := by
  show sumC ch (s + 1) (tr s l) = sumC fUS s l
  rw [sumC_size ch (tr_len h)]
  exact tr_cut0 fUS (fun i _ => ch_lt (by omega)) h
theorem LS_US {n s : Nat} (hs : 1 ≤ s) : LS (US n s) (s + 1) ≤ n := by
  have h := cas_is s n
  have e : cas (s + 1) (US n s) = tr s (cas s n) := by
    unfold US
    rw [← val_tr_up h]
    exact (tr_up h).uniq
  unfold LS
  rw [e, sumC_size fLS (tr_len h)]
  have := (tr_cut ch (fun i _ => by rw [ch_self]; omega) h).2.1
  have v := cas_val s n (by omega)
  exact Nat.le_trans this (Nat.le_of_eq v)
theorem LS_US1 {n s : Nat} (hs : 1 ≤ s) : n < LS (US n s + 1) (s + 1) := by
  have h := cas_is s n
  have hl := tr_len h
  have c := cas_succ (tr_up h) (by omega)
  rw [val_tr_up h] at c
  have c' : cas (s + 1) (US n s + 1) = tr s (cas s n) ++ [s + 1 - (tr s (cas s n)).length] := c
  unfold LS
  rw [c', sumC_snoc, sumC_size fLS hl]
  have t := (tr_cut ch (fun i _ => by rw [ch_self]; omega) h).2.2
  have v : sumC ch s (cas s n) = n := cas_val s n (by omega)
  have z := h.len
  have e : fLS (s + 1 - (tr s (cas s n)).length) (s + 1 - (tr s (cas s n)).length) = s + 1 - (tr s (cas s n)).length := by
    generalize hk : s + 1 - (tr s (cas s n)).length = k
    obtain ⟨k, rfl⟩ : ∃ m, k = m + 1 := ⟨k - 1, by omega⟩
    show ch (k + 1) k = k + 1
    have : ∀ k, ch (k + 1) k = k + 1 := by
      intro k
      induction k with
      | zero => rfl
      | succ k ih => rw [ch_ss, ih, ch_self]
    exact this k
  rw [e]
  have t' : sumC (fun a i => fLS a (i + 1)) s (tr s (cas s n)) = sumC ch s (tr s (cas s n)) := rfl
  rw [t']
  omega
theorem galS {n m s : Nat} (hs : 1 ≤ s) : LS m (s + 1) ≤ n ↔ m ≤ US n s := by
  constructor
  · intro h
    apply Classical.byContradiction
    intro q
    have := LS_mono (s := s + 1) (n := US n s + 1) (m := m) (by omega) (by omega)
    have := LS_US1 (n := n) hs
    omega
  · intro h
    have := LS_mono (s := s + 1) (by omega) h
    exact Nat.le_trans this (LS_US hs)

/-! ### the lower number of sets of a sum -/
theorem cas_head_le {s n : Nat} (hs : 1 ≤ s) (hn : 1 ≤ n) : ch (great s n) s ≤ n ∧ n - ch (great s n) s < ch (great s n) (s - 1) ∧ s ≤ great s n := by
  obtain ⟨g1, g2⟩ := great_spec (s := s) (n := n) hs
  have g3 := great_ge hs hn
  rw [ch_add (great s n + 1) s (by omega) hs, Nat.add_sub_cancel] at g2
  exact ⟨g1, by omega, g3⟩
theorem LS_zero (s : Nat) : LS 0 s = 0 := by unfold LS; rw [cas_zero]; rfl
theorem LP_zero (s : Nat) : LP 0 s = 0 := by unfold LP; rw [cas_zero]; rfl
theorem LS_size0 (n : Nat) : LS n 0 = 0 := rfl
theorem LS_of {s a r : Nat} (ha : s + 1 ≤ a) (hr : r < ch a s) : LS (ch a (s + 1) + r) (s + 1) = ch a s + LS r s := by
  have hp := ch_pos ha
  have hg : great (s + 1) (ch a (s + 1) + r) = a := great_uniq (by omega) ha (by omega) (by rw [ch_ss]; omega)
  unfold LS
  rw [cas_pos (by omega) (by omega), hg, Nat.add_sub_cancel_left, Nat.add_sub_cancel]
  rfl
theorem LP_of {s a r : Nat} (ha : s + 1 ≤ a) (hr : r < ch a s) : LP (ch a (s + 1) + r) (s + 1) = ch (a - 1) s + LP r s := by
  have hp := ch_pos ha
  have hg : great (s + 1) (ch a (s + 1) + r) = a := great_uniq (by omega) ha (by omega) (by rw [ch_ss]; omega)
  unfold LP
  rw [cas_pos (by omega) (by omega), hg, Nat.add_sub_cancel_left, Nat.add_sub_cancel]
  rfl
theorem LS_ch {s a : Nat} (ha : s + 1 ≤ a) : LS (ch a (s + 1)) (s + 1) = ch a s := by
  have := LS_of (s := s) (a := a) (r := 0) ha (ch_pos (by omega))
  rw [Nat.add_zero, LS_zero, Nat.add_zero] at this
  exact this
/-- one more than a cascade that fills all places has the same lower number -/
theorem LS_full : ∀ {s : Nat} {l : List Nat}, IsCas s l → l.length = s → 1 ≤ s → LS (val s l + 1) s = LS (val s l) s
  | 0, _, _, _, h => absurd h (by omega)
  | s + 1, [], _, h, _ => by cases h
  | 1, a :: l, h, hl, _ => by
    have : l = [] := by cases l with
      | nil => rfl
      | cons c l => exact h.2.2.elim
    subst this
    have ha := h.1
    show LS (ch a 1 + 1) 1 = LS (ch a 1) 1
    have e1 : ch a 1 + 1 = ch (a + 1) 1 := by simp
    rw [e1, LS_ch (s := 0) (by omega), LS_ch (s := 0) (by omega)]
    simp
  | s + 2, a :: l, h, hl, _ => by
    have ha := h.1
    have hl' : l.length = s + 1 := by rw [List.length_cons] at hl; omega
    have ih := LS_full h.2.2 hl' (by omega)
    have hv := val_lt h.2.2 (by omega : s + 1 ≤ a) h.2.1
    show LS (ch a (s + 2) + val (s + 1) l + 1) (s + 2) = LS (ch a (s + 2) + val (s + 1) l) (s + 2)
    rw [Nat.add_assoc, LS_of (s := s + 1) ha hv]
    by_cases e : val (s + 1) l + 1 < ch a (s + 1)
    · rw [LS_of (s := s + 1) ha e, ih]
    · have e' : val (s + 1) l + 1 = ch a (s + 1) := by omega
      rw [← ih, e', LS_ch (s := s) (by omega)]
      have e2 : ch a (s + 2) + ch a (s + 1) = ch (a + 1) (s + 2) := by
        show ch a (s + 2) + ch a (s + 1) = ch a (s + 1) + ch a (s + 2)
        omega
      rw [e2, LS_ch (s := s + 1) (by omega), ch_ss]
      omega
/-! all items less 1, the size below -/
theorem IsCas.down : ∀ {s : Nat} {l : List Nat}, IsCas (s + 1) l → l.length ≤ s → IsCas s (l.map (· - 1))
  | s, [], _, _ => isCas_nil s
  | 0, _ :: _, _, h => by cases h
  | s + 1, a :: l, h, hl => by
    have hl' : l.length ≤ s := by rw [List.length_cons] at hl; omega
    have h1 := h.1
    refine ⟨by show s + 1 ≤ a - 1; omega, fun b hb => ?_, IsCas.down h.2.2 hl'⟩
    cases l with
    | nil => cases hb
    | cons c l =>
      have hb' : some (c - 1) = some b := hb
      cases hb'
      have h2 := h.2.1 c rfl
      have h3 := h.2.2.1
      show c - 1 < a - 1
      omega
theorem sumC_down (f : Nat → Nat → Nat) : ∀ {s : Nat} {l : List Nat}, l.length ≤ s → sumC f s (l.map (· - 1)) = sumC (fun a i => f (a - 1) (i - 1)) (s + 1) l
  | _, [], _ => rfl
  | 0, _ :: _, h => by cases h
  | s + 1, a :: l, h => by
    have h' : l.length ≤ s := by rw [List.length_cons] at h; omega
    show f (a - 1) (s + 1) + sumC f s (l.map (· - 1)) = f (a - 1) (s + 1) + sumC _ (s + 1) l
    rw [sumC_down f h']
theorem sumC_add (f g k : Nat → Nat → Nat) : ∀ {s : Nat} {l : List Nat}, IsCas s l → l.length < s ∨ s = 0 ∨ (∀ a, 1 ≤ a → f a 1 + g a 1 = k a 1) → (∀ a i, 2 ≤ i → i ≤ a → f a i + g a i = k a i) → sumC f s l + sumC g s l = sumC k s l
  | _, [], _, _, _ => rfl
  | 0, _ :: _, h, _, _ => h.elim
  | s + 1, a :: l, h, hc, he => by
    have ha := h.1
    have ih := sumC_add f g k (s := s) (l := l) h.2.2 (by
      rcases hc with hc | hc | hc
      · left; rw [List.length_cons] at hc; omega
      · omega
      · right; right; exact hc) he
    show f a (s + 1) + sumC f s l + (g a (s + 1) + sumC g s l) = k a (s + 1) + sumC k s l
    have h1 : f a (s + 1) + g a (s + 1) = k a (s + 1) := by
      by_cases q : s = 0
      · subst q
        rcases hc with hc | hc | hc
        · rw [List.length_cons] at hc; omega
        · omega
        · exact hc a ha
      · exact he a (s + 1) (by omega) ha
    omega
/-- (a): of the first sets those with the point 0, and their shadow -/
theorem LS_LP {n s : Nat} (hs : 1 ≤ s) : LS n s = LP n s + LS (LP n s) (s - 1) := by
  obtain ⟨s, rfl⟩ : ∃ t, s = t + 1 := ⟨s - 1, by omega⟩
  rw [Nat.add_sub_cancel]
  have h := cas_is (s + 1) n
  have hv : val (s + 1) (cas (s + 1) n) = n := cas_val _ _ (by omega)
  have pasc : ∀ a i, 2 ≤ i → i ≤ a → fLP a i + fLS (a - 1) (i - 1) = fLS a i := by
    intro a i h1 h2
    show ch (a - 1) (i - 1) + ch (a - 1) (i - 1 - 1) = ch a (i - 1)
    rw [ch_add a (i - 1) (by omega) (by omega)]; omega
  by_cases hl : (cas (s + 1) n).length ≤ s
  · have hd := h.down hl
    have e1 : val s ((cas (s + 1) n).map (· - 1)) = LP n (s + 1) := sumC_down ch hl
    have e2 : LS (LP n (s + 1)) s = sumC (fun a i => fLS (a - 1) (i - 1)) (s + 1) (cas (s + 1) n) := by
      rw [← e1]
      unfold LS
      rw [hd.uniq, sumC_down fLS hl]
    rw [e2]
    exact (sumC_add fLP (fun a i => fLS (a - 1) (i - 1)) fLS h (.inl (by omega)) pasc).symm
  · have hlen : (cas (s + 1) n).length = s + 1 := by have := h.len; omega
    -- all places are filled
    have key : ∀ {s : Nat} {l : List Nat}, IsCas (s + 1) l → l.length = s + 1 → sumC fLS (s + 1) l = sumC fLP (s + 1) l + LS (sumC fLP (s + 1) l) s := by
      intro s l h hlen
      have hne : l ≠ [] := by intro e; subst e; cases hlen
      have hsp := List.dropLast_concat_getLast hne
      generalize hx : l.getLast hne = x at hsp
      generalize hm : l.dropLast = m at hsp
      have hml : m.length = s := by rw [← hm, List.length_dropLast]; omega
      have hpre : ∀ {s : Nat} {m k : List Nat}, IsCas s (m ++ k) → IsCas s m := by
        intro s m
        induction m generalizing s with
        | nil => intro _ _; exact isCas_nil s
        | cons a m ih =>
          intro k h
          cases s with
          | zero => exact h.elim
          | succ s =>
            refine ⟨h.1, fun b hb => h.2.1 b ?_, ih h.2.2⟩
            cases m with
            | nil => cases hb
            | cons c m => exact hb
      subst hsp
      have hM := hpre h
      have e1 : sumC fLS (s + 1) (m ++ [x]) = sumC fLS (s + 1) m + 1 := by
        rw [sumC_snoc, hml]
        show sumC fLS (s + 1) m + ch x (s + 1 - s - 1) = _
        have : s + 1 - s - 1 = 0 := by omega
        rw [this, ch_zero]
      have e2 : sumC fLP (s + 1) (m ++ [x]) = sumC fLP (s + 1) m + 1 := by
        rw [sumC_snoc, hml]
        show sumC fLP (s + 1) m + ch (x - 1) (s + 1 - s - 1) = _
        have : s + 1 - s - 1 = 0 := by omega
        rw [this, ch_zero]
      rw [e1, e2]
      have hle : m.length ≤ s := by omega
      have hd := hM.down hle
      have e3 : val s (m.map (· - 1)) = sumC fLP (s + 1) m := sumC_down ch hle
      have e4 : LS (sumC fLP (s + 1) m) s = sumC (fun a i => fLS (a - 1) (i - 1)) (s + 1) m := by
        rw [← e3]
        unfold LS
        rw [hd.uniq, sumC_down fLS hle]
      have e5 := sumC_add fLP (fun a i => fLS (a - 1) (i - 1)) fLS hM (.inl (by omega)) pasc
      by_cases hs0 : s = 0
      · subst hs0
        have : m = [] := by cases m with
          | nil => rfl
          | cons c m => cases hml
        subst this
        rfl
      · have e6 := LS_full hd (by rw [List.length_map]; exact hml) (by omega)
        rw [e3] at e6
        rw [e6, e4]
        omega
    unfold LP
    exact key h hlen
/-- the cut one, all items less 1, same size: the sets without the point 0 -/
theorem tr_down : ∀ {s : Nat} {l : List Nat}, IsCas s l → IsCas s ((tr s l).map (· - 1))
  | s, [], _ => isCas_nil s
  | 0, _ :: _, h => h.elim
  | s + 1, a :: l, h => by
    by_cases e : s + 1 < a
    · rw [tr_cons e]
      refine ⟨by show s + 1 ≤ a - 1; omega, fun b hb => ?_, tr_down h.2.2⟩
      have hb2 : ((tr s l).map (· - 1)).head? = some b := hb
      rw [List.head?_map] at hb2
      cases q : (tr s l).head? with
      | none => rw [q] at hb2; cases hb2
      | some c =>
        rw [q] at hb2
        have hb' : c - 1 = b := Option.some.inj hb2
        obtain ⟨h1, h2⟩ := tr_head q
        have h3 := h.2.1 c h1
        show b < a - 1
        omega
    · rw [tr_stop e]; exact isCas_nil _
theorem sumC_map1 (f : Nat → Nat → Nat) : ∀ (s : Nat) (l : List Nat), sumC f s (l.map (· - 1)) = sumC (fun a i => f (a - 1) i) s l
  | _, [] => rfl
  | s, a :: l => by
    show f (a - 1) s + sumC f (s - 1) (l.map (· - 1)) = f (a - 1) s + sumC _ (s - 1) l
    rw [sumC_map1 f]
theorem val_rest {n s : Nat} (hs : 1 ≤ s) : val s ((tr s (cas s n)).map (· - 1)) + LP n s = n := by
  have h := cas_is s n
  have e : val s ((tr s (cas s n)).map (· - 1)) = sumC (fun a i => ch (a - 1) i) s (cas s n) := by
    show sumC ch s _ = _
    rw [sumC_map1]
    exact tr_cut0 (fun a i => ch (a - 1) i) (fun i hi => ch_lt (by omega)) h
  rw [e]
  have := sumC_add (fun a i => ch (a - 1) i) fLP ch h (.inr (.inr fun a ha => by
    show ch (a - 1) 1 + ch (a - 1) (1 - 1) = ch a 1
    simp; omega)) (fun a i h1 h2 => by
    show ch (a - 1) i + ch (a - 1) (i - 1) = ch a i
    rw [ch_add a i (by omega) (by omega)]; omega)
  show sumC (fun a i => ch (a - 1) i) s (cas s n) + sumC fLP s (cas s n) = n
  rw [this]
  exact cas_val s n (by omega)
theorem LP_le {n s : Nat} (hs : 1 ≤ s) : LP n s ≤ n := by have := val_rest (n := n) hs; omega
theorem LP_rest {n s : Nat} (hs : 1 ≤ s) : LS (n - LP n s) s ≤ LP n s := by
  have h := cas_is s n
  have hd := tr_down h
  have e : n - LP n s = val s ((tr s (cas s n)).map (· - 1)) := by have := val_rest (n := n) hs; omega
  rw [e]
  unfold LS
  rw [hd.uniq, sumC_map1]
  exact (tr_cut fLP (fun i _ => by show ch (i - 1) (i - 1) ≤ 1; rw [ch_self]; omega) h).2.1
theorem ch_pred : ∀ k, 1 ≤ k → ch k (k - 1) = k
  | 0, h => absurd h (by omega)
  | 1, _ => rfl
  | k + 2, _ => by
    show ch (k + 1 + 1) (k + 1) = k + 2
    have := ch_pred (k + 1) (by omega)
    rw [Nat.add_sub_cancel] at this
    rw [ch_ss, this, ch_self]
theorem LP_least {n s u : Nat} (hs : 1 ≤ s) (hu : LS (n - u) s ≤ u) : LP n s ≤ u := by
  apply Classical.byContradiction
  intro q
  have h := cas_is s n
  have hd := tr_down h
  have hn := LP_le (n := n) hs
  have ev := val_rest (n := n) hs
  have m1 := LS_mono (s := s) (n := val s ((tr s (cas s n)).map (· - 1)) + 1) (m := n - u) hs (by omega)
  have hl := tr_len h
  have t := (tr_cut fLP (fun i _ => by show ch (i - 1) (i - 1) ≤ 1; rw [ch_self]; omega) h).2.2
  have hlen := h.len
  by_cases hk : (tr s (cas s n)).length < s
  · have c := cas_succ hd (by rw [List.length_map]; exact hk)
    have e : LS (val s ((tr s (cas s n)).map (· - 1)) + 1) s = sumC fLP s (tr s (cas s n)) + (s - (tr s (cas s n)).length) := by
      unfold LS
      rw [c, sumC_snoc, sumC_map1, List.length_map]
      show _ + ch (s - (tr s (cas s n)).length) (s - (tr s (cas s n)).length - 1) = _
      rw [ch_pred _ (by omega)]
    have t2 : sumC fLP s (cas s n) = LP n s := rfl
    omega
  · have e := LS_full hd (by rw [List.length_map]; omega) hs
    have e2 : LS (val s ((tr s (cas s n)).map (· - 1))) s = sumC fLP s (tr s (cas s n)) := by
      unfold LS
      rw [hd.uniq, sumC_map1]
    have t2 : sumC fLP s (cas s n) = LP n s := rfl
    omega
/-- the lower number of sets of a sum is at most the sum of the lower numbers -/
theorem LS_add : ∀ (s k m n : Nat), m + n ≤ k → LS (m + n) s ≤ LS m s + LS n s
  | 0, _, m, n, _ => by rw [LS_size0]; omega
  | s + 1, 0, m, n, h => by
    have : m + n = 0 := by omega
    rw [this, LS_zero]; omega
  | s + 1, k + 1, m, n, h => by
    by_cases hz : m = 0
    · subst hz; rw [Nat.zero_add]; omega
    by_cases hz' : n = 0
    · subst hz'; rw [Nat.add_zero]; omega
    have pos : ∀ {n}, 1 ≤ n → 1 ≤ LP n (s + 1) := by
      intro n hn
      apply Classical.byContradiction
      intro q
      have z : LP n (s + 1) = 0 := by omega
      have r := LP_rest (n := n) (s := s + 1) (by omega)
      rw [z, Nat.sub_zero] at r
      have e := LS_LP (n := n) (s := s + 1) (by omega)
      have m1 := LS_mono (s := s + 1) (n := ch (s + 1) (s + 1)) (m := n) (by omega) (by rw [ch_self]; exact hn)
      rw [LS_ch (s := s) (by omega)] at m1
      have := ch_pos (n := s + 1) (k := s) (by omega)
      omega
    have p1 := pos (n := m) (by omega)
    have p2 := pos (n := n) (by omega)
    have l1 := LP_le (n := m) (s := s + 1) (by omega)
    have l2 := LP_le (n := n) (s := s + 1) (by omega)
    have ih := LS_add (s + 1) k (m - LP m (s + 1)) (n - LP n (s + 1)) (by omega)
    have r1 := LP_rest (n := m) (s := s + 1) (by omega)
    have r2 := LP_rest (n := n) (s := s + 1) (by omega)
    have e : m + n - (LP m (s + 1) + LP n (s + 1)) = m - LP m (s + 1) + (n - LP n (s + 1)) := by omega
    have lu : LP (m + n) (s + 1) ≤ LP m (s + 1) + LP n (s + 1) := LP_least (by omega) (by rw [e]; omega)
    have a1 := LS_LP (n := m) (s := s + 1) (by omega)
    have a2 := LS_LP (n := n) (s := s + 1) (by omega)
    have a3 := LS_LP (n := m + n) (s := s + 1) (by omega)
    rw [Nat.add_sub_cancel] at a1 a2 a3
    have b : LS (LP (m + n) (s + 1)) s ≤ LS (LP m (s + 1)) s + LS (LP n (s + 1)) s := by
      by_cases hs : s = 0
      · subst hs; rw [LS_size0]; omega
      · exact Nat.le_trans (LS_mono (by omega) lu) (LS_add s (LP m (s + 1) + LP n (s + 1)) _ _ (Nat.le_refl _))
    omega
end HR

namespace HG
open PySem PySem.Spec PyProof.Rows L2
/-! A def's promise where no repr is running around it: what repr of data needs to know. -/
structure FnG (P : Program) (w : World) (K : PySem.W.Frag) (mg : Str → Option Value) (base : Heap) (C : CXT) (n : Nat) (g : Addr) (gd : FuncData) (prs : List Str) (pr : Sp) : Prop where
  len : ∀ xs H Q E, pr xs H Q E → xs.length = prs.length
  run : ∀ (B : Around) (fr : List Env) (t : Shared) (H : Hp) (as : Args) (ws : List Value) (xs : List V) (Q : VK) (E : XK),
    B.guards = some [] → Room n B → Env0 P w K mg base B fr t H → BindsTo t gd as (prs.zip ws) → Vals xs ws → pr xs H Q E →
      codeAny (model P w) B (.call (.ref g) as) (CR C fr P w H t Q E) t
section
variable {P : Program} {w : World} {K : PySem.W.Frag} {mg : Str → Option Value} {base : Heap} {C : CXT} {n m : Nat} {g : Addr} {gd : FuncData} {prs : List Str} {pr : Sp}
theorem FnG.of (F : FnOk P w K mg base C n g gd prs pr) : FnG P w K mg base C n g gd prs pr :=
  ⟨F.len, fun B fr t H as ws xs Q E _ a b c d e => F.run B fr t H as ws xs Q E a b c d e⟩
theorem FnG.mono (F : FnG P w K mg base C n g gd prs pr) (h : n ≤ m) : FnG P w K mg base C m g gd prs pr :=
  ⟨F.len, fun B fr t H as ws xs Q E q a b c d e => F.run B fr t H as ws xs Q E q (Room.mono a h) b c d e⟩
/-- a def of the text, by its body -/
theorem okG {x qual : Str} {params : Arguments} {body : List Stmt} {scope : Scope} {dvs : List V} {kws : List (Str × V)} {N : List Str}
    (F : FunD K x qual params body scope dvs kws g gd) (S : FnScope N prs scope) (len : ∀ xs H Q E, pr xs H Q E → xs.length = prs.length)
    (hb : ∀ (cd : Value) (B : Around) (fr : List Env) (t : Shared) (H : Hp) (xs : List V) (Q : VK) (E : XK),
      (B.deeper (envOfC qual scope t.heap.objs.size g cd)).guards = some [] → Room n (B.deeper (envOfC qual scope t.heap.objs.size g cd)) → pr xs H Q E →
      ∃ r, PSs (cxOf C P w K mg base N qual scope g cd B fr t H E) body r ∧ r { nx := fun _ H2 => Q .non H2, rt := Q } (start N xs) H) :
    FnG P w K mg base C (n + 1) g gd prs pr := by
  obtain ⟨o1, o2, dV, kV, dc, pm, an, cd, ct, sl, e, lk, ce, _, _⟩ := F.ex
  subst e
  refine ⟨len, ?_⟩
  intro B fr t H as ws xs Q E clear room e0 bt rel hp
  have hx := len _ _ _ _ hp
  have inK : K.In t.heap := PySem.W.Frag.In.keeps e0.mod.kin (fun b o z => (e0.bs b o z).1)
  have nl : t.heap.NoLimit := Heap.NoLimit.keeps e0.mod.nolimit (fun b o z => (e0.bs b o z).1)
  refine codeAny_call_function room.depth (inK _ _ lk) rfl S.co S.gen rfl (PySem.W.codeRec_of inK ce) (bt _ _ _ _ ?_)
  refine wpAny_newFunctionEnv_cells S.kind (fun y hy => ?_) (fun env he t1 z => ?_)
  · have hm := (List.of_mem_zip (show (y.1, y.2) ∈ prs.zip ws from hy)).1
    rcases S.par y.1 hm with q | q
    · exact Or.inl q
    · exact Or.inr ⟨q, PySem.W.cellsFrom_some _ _ _ (Or.inl q)⟩
  · subst he
    refine ⟨nl.keeps z.toInCall.keep, codeAny_func ?_⟩
    obtain ⟨r, hr, hq⟩ := hb cd B fr t H xs Q E clear (room.deeper _) hp
    have J := inv_start (CX := C) (E := E) (f := g) (cd := cd) (qual := qual) S room.hd e0 hx rel z
    refine wpAny_mono (hr.run [] t1 (start N xs) H _ J hq) ?_ (fun _ _ h => h)
    rintro fl t2 h
    cases fl with
    | ret u =>
      obtain ⟨v, σ2, H2, J2, rv, q⟩ := h
      exact ⟨v, H2, J2.os, J2.bare, J2.base, J2.hok, rv, q⟩
    | next =>
      obtain ⟨σ2, H2, J2, q⟩ := h
      exact ⟨.non, H2, J2.os, J2.bare, J2.base, J2.hok, rfl, q⟩
    | brk =>
      obtain ⟨_, _, _, q⟩ := h
      exact q.elim
    | cont =>
      obtain ⟨_, _, _, q⟩ := h
      exact q.elim
end
section
variable {X : Cx} {C : CXT} {n : Nat} {g : Addr} {gd : FuncData} {prs : List Str} {pr : Sp} {E : XK} {x : Str} {p pos : Pos} {e : Expr} {es : List Expr} {t : TA}
/-- f(e, ..) -/
theorem pe_callG (F : FnG X.prog X.w X.K X.mg X.base C n g gd prs pr) (hc : X.A.guards = some []) (hr : Room n X.A) (hg : Gl X x) (hm : X.mg x = some (.ref g)) (hk : PySem.W.keepIn X.K (.ref g) = true) (hb : Binds X.K gd prs [])
    (hx : Passes C X E) (ha : PA X (e :: es) t) (hdb : (x == ("__debug__" : Str)) = false := by decide)
    (he : starEach (e :: es) X.env = (false, eval e X.env) :: starEach es X.env := by rfl) (hpl : (backTo pos (starEach es X.env)).any (·.1) = false := by rfl) :
    PE X (.Call (.Name x p) (e :: es) [] pos) (tCall pr [] E t) := by
  constructor
  intro pins s σ H Q I h
  refine wpAny_Call_Name_kw (ld_glob I hg hm ?_ hdb)
  have I0 := I.ok.mod.kin
  refine PySem.W.callWith_K (h₀ := X.base) I0 hk ?_ he hpl
  refine thn (ha.run pos pins s σ H _ I h) ?_
  rintro us s1 ⟨vs, H1, I1, r, q⟩
  refine ⟨I1.kIn, ?_⟩
  have q' : pr vs H1 Q E := by
    have q0 : pr (vs ++ []) H1 Q E := q
    rwa [List.append_nil] at q0
  have hl : (us ++ []).length = prs.length := by
    rw [List.append_nil, ← r.length]
    exact F.len _ _ _ _ q'
  have hbt := hb s1 us I1.kIn hl
  rw [List.append_nil] at hbt
  refine wpAny_call (codeAny_mono (F.run X.A X.stack s1 H1 ⟨us, []⟩ us vs Q E hc hr I1.env0 hbt r q') ?_)
  rintro fl s' hq
  match fl, hq with
  | .error z, hq => exact hx pins σ H1 s1 z s' I1 hq
  | .ok (.ret u), hq => exact I1.after hq
end
end HG

namespace HG
open PySem PySem.Spec PyProof.Rows L2
/-- the heap ahead of the law: only the script is known, locked -/
def scr (a : Addr) (vs : List Value) (ns : List Int) : Hp := fun b => if b = a then some (.frz { cls := .type "list", data := .seq vs.toArray } (.lst (ns.map V.int))) else none
theorem scr_at {a : Addr} {vs : List Value} {ns : List Int} : scr a vs ns a = some (.frz { cls := .type "list", data := .seq vs.toArray } (.lst (ns.map V.int))) := if_pos rfl
theorem scr_no {a b : Addr} {vs : List Value} {ns : List Int} (h : b ≠ a) : scr a vs ns b = none := if_neg h
section
variable {P : Program} {w : World} {K : PySem.W.Frag} {mg mb : Str → Option Value} {C : CXT} {n : Nat} {g a : Addr} {gd : FuncData} {x : Str} {pr : Sp} {s1 : Shared} {vs : List Value} {ns : List Int}
/-- the call of the law from a heap that knows at most the script -/
theorem from_heap {H : Hp} (KX : K.In s1.heap) (G : s1.heap.Ns mainGlobals mg) (B : s1.heap.Ns builtinsNs mb) (hB : ∀ x : Str, x ≠ "__name__" → mb x = bootBuiltins x) (NL : s1.heap.NoLimit) (hg : s1.gens = #[])
    (ha : s1.heap.get? a = some { cls := .type "list", data := .seq vs.toArray }) (hr : Room n callerA) (hok : HOk P w H s1.heap) (hH : H = (fun _ => none) ∨ (H = scr a vs ns ∧ K.lookup a = none))
    (F : ∀ base : Heap, K.In base → base.Ns mainGlobals mg → FnG P w K mg base C n g gd [x] pr) (hbind : ∀ (s : Shared) (u : Value), BindsTo s gd ⟨[u], []⟩ [(x, u)])
    (hp : pr [.ref a] H (fun v _ => v = .bl true) fun _ _ _ => False) (hC : ∀ e s', C [] H s1 (fun _ _ _ => False) e s' → False) :
    codeAny (model P w) callerA (.call (.ref g) ⟨[.ref a], []⟩) (fun r s' => r = .ok (.ret (.bool true)) ∧ OldK s1.heap s'.heap ∧ s'.os = s1.os ∧ AllBare s'.gens) s1 := by
  have hno : ∀ b, b ≠ a → H b = none := by
    intro b hb
    rcases hH with e | ⟨e, _⟩
    · rw [e]
    · rw [e]; exact scr_no hb
  have dictNone : ∀ {b : Addr} {o : Obj} {es : Array DictEntry} {m : Nat}, s1.heap.get? b = some o → o.data = .dict es m → H b = none := by
    intro b o es m hb hd
    by_cases q : b = a
    · subst q
      rw [ha] at hb
      cases hb
      exact absurd hd (by intro z; cases z)
    · exact hno b q
  have nsT : ∀ {b : Addr} {m : Str → Option Value}, s1.heap.Ns b m → (hidT s1.heap H).Ns b m := by
    rintro b m ⟨o, es, ep, e1, e2, e3⟩
    exact ⟨o, es, ep, hidT_get e1 (dictNone e1 e2), e2, e3⟩
  have kT : K.In (hidT s1.heap H) := by
    intro b o e
    refine hidT_get (KX b o e) ?_
    by_cases q : b = a
    · rcases hH with z | ⟨_, z⟩
      · rw [z]
      · rw [q, z] at e
        cases e
    · exact hno b q
  obtain ⟨mc, l1, l2⟩ := NL
  have M0 : Mod K mg (hidT s1.heap H) := { kin := kT, glob := nsT G, blt := ⟨mb, nsT B, hB⟩, nolimit := ⟨mc, nsT l1, l2⟩ }
  have E0 : Env0 P w K mg (hidT s1.heap H) callerA [] s1 H :=
    { frames := rfl, mod := M0, bs := fun _ _ e => of_hidT e, bsz := Nat.le_of_eq (hidT_size _ _), funs := trivial, frf := (fun b hb => by cases hb), hok := hok, bare := .of_eq hg }
  have hrun := (F _ kT (nsT G)).run callerA [] s1 H ⟨[.ref a], []⟩ [.ref a] [.ref a] _ _ rfl hr E0 (hbind s1 (.ref a)) (.cons rfl .nil) hp
  refine codeAny_mono hrun ?_
  intro r s' hz
  match r, hz with
  | .error e, hz => exact (hC e s' hz).elim
  | .ok (.ret u), hz =>
    obtain ⟨v, H2, os, bare, un, ok2, rv, q⟩ := hz
    cases (show v = .bl true from q)
    cases (show u = Value.bool true from rv)
    refine ⟨rfl, OldK.of_keep ?_, os, bare⟩
    intro b o e
    by_cases q : H b = none
    · exact un.keep b o e q (fun z => by cases z) (fun z => by cases z)
    · have hb : b = a := Classical.byContradiction fun hb => q (hno b hb)
      subst hb
      rcases hH with z | ⟨z, _⟩
      · rw [z] at q; exact absurd rfl q
      · have h1 := z ▸ (scr_at (a := b) (vs := vs) (ns := ns))
        have h2 := un.frzs b _ _ h1
        have h3 := (ok2 b _ h2).1
        have h4 := (hok b _ h1).1
        rw [e] at h4
        cases h4
        exact h3
/-- the law's end -/
theorem walkG {l : PySem.W.OpenLaw} {N : Nat} {q : Program} {loose : List Str} {XP : (Str → Option Value) → Heap → Prop} {YP : World → Heap → Prop} {d : DefRec}
    (hn : l.most = some N) (hN : N ≤ sizeLine) (hdf : d.params.defaults = []) (hr : Room n callerA)
    (F : ∀ (w : World) (mg : Str → Option Value) (fa : Addr) (h : Heap), YP w h → h.Ns mainGlobals mg → mg d.name = some (.ref fa) →
      ∃ (K : PySem.W.Frag) (fd : FuncData) (pr : Sp), K.In h ∧ (∀ (s : Shared) (u : Value), BindsTo s fd ⟨[u], []⟩ [(x, u)]) ∧
        (∀ (H : Hp) (a : Addr) (ns : List Int), ns.length ≤ N → SqL K H a (ns.map V.int) → (∀ b, H b = none ∨ ∃ o u, H b = some (.frz o u)) → pr [.ref a] H (fun v _ => v = .bl true) fun _ _ _ => False) ∧
        ∀ base : Heap, K.In base → base.Ns mainGlobals mg → FnG l.prog w K mg base CX0 n fa fd [x] pr) :
    PySem.W.WalkO q loose XP YP l.row.toRowW d [] (fun f vs => PySem.call f vs) := by
  refine Att.attach_call hn hdf ?_
  intro w s0 s1 mg mb fa o pm cd doc a vs ns Gr Y ho hd hcd hmg hobj hints hlen hg
  obtain ⟨K, fd, pr, KX, hb, hsp, hF⟩ := F w mg fa _ Y Gr.T.g hmg
  have rv := vals_ints hints
  have hsz : ns.length ≤ sizeLine := Nat.le_trans hlen hN
  cases hk : K.lookup a with
  | some ob =>
    have e := KX a ob hk
    rw [hobj] at e
    cases e
    have hS : SqL K (fun _ => none) a (ns.map V.int) := Or.inr ⟨_, vs.toArray, _, hk, rfl, rfl, rfl, by rw [List.size_toArray, hints.length]; exact hsz, by simpa using rv⟩
    exact from_heap (ns := ns) KX Gr.T.g Gr.T.b Gr.T.builtins Gr.T.nolimit hg hobj hr (fun b u z => by cases z) (Or.inl rfl) hF hb (hsp _ a ns hlen hS fun b => Or.inl rfl) fun _ _ z => z
  | none =>
    have hS : SqL K (scr a vs ns) a (ns.map V.int) := Or.inl (Or.inr ⟨_, scr_at⟩)
    refine from_heap (ns := ns) KX Gr.T.g Gr.T.b Gr.T.builtins Gr.T.nolimit hg hobj hr ?_ (Or.inr ⟨rfl, hk⟩) hF hb (hsp _ a ns hlen hS fun b => ?_) fun _ _ z => z
    · intro b u z
      by_cases hba : b = a
      · subst hba
        rw [scr_at] at z
        cases z
        exact ⟨hobj, by rw [List.length_map]; exact hsz, vs, _, rv, hobj⟩
      · rw [scr_no hba] at z
        cases z
    · by_cases hba : b = a
      · exact Or.inr ⟨_, _, by rw [hba]; exact scr_at⟩
      · exact Or.inl (scr_no hba)
end
end HG

namespace HG
open PySem PySem.Spec PyProof.Rows L2
/-! ### enumerate of a tuple -/
theorem meets_enumT (l : Addr) (items : Array Value) (ol : Obj) (hcl : ol.cls = .type "tuple") (hdt : ∃ n, ol.data = .seq items n) :
    Meets (Builtin.«enumerate.__new__» ⟨[.type "enumerate", .ref l], []⟩) (fun _ R s => s.heap.get? l = some ol ∧
      R (.ok (.ret (.ref (s.heap.push { cls := .type "tuple_iterator", data := .fields #[.ref l, .int 0 0] }).objs.size)))
        { s with heap := (s.heap.push { cls := .type "tuple_iterator", data := .fields #[.ref l, .int 0 0] }).push { cls := .type "enumerate", data := .fields #[.none, .bool false, .ref s.heap.objs.size, rawInt 0, .none, .none] } }) :=
  .of_wp fun prog w A R s h => by
    obtain ⟨hp, g, d, tk, os⟩ := s
    obtain ⟨hl, h⟩ := h
    obtain ⟨n, hdt⟩ := hdt
    have hsub := sub_enumerate
    have hT : Heap.IsTuple (Shared.heap ⟨hp, g, d, tk, os⟩) l items := ⟨_, hl, hcl, n, hdt⟩
    wp_walk using AutoSeq1.wpAny_loadPart' hl
    refine wpAny_stack_any fun st => wpAny_pure ?_
    split
    · rename_i c _ _ _ _ _
      cases (c == Value.type "enumerate") <;> (wp_walk using AutoSeq1.wpAny_loadPart' hl, wpAny_pyIter_tuple hT; exact ⟨_, rfl, h⟩)
    · wp_walk using AutoSeq1.wpAny_loadPart' hl, wpAny_pyIter_tuple hT
      exact ⟨_, rfl, h⟩

section
variable {prog : Program} {w : World} {A : Around} {E : Value → Shared → Prop} {s : Shared}
theorem call_enumT {l : Addr} {items : Array Value} {Q : Value → Shared → Prop} (hL : s.heap.IsTuple l items)
    (h : ∀ h2, IsEnum h2 (s.heap.objs.size + 1) s.heap.objs.size 0 .none → h2.IsTupleIter s.heap.objs.size l 0 → h2.objs.size = s.heap.objs.size + 2 → (∀ b o, s.heap.get? b = some o → h2.get? b = some o) →
      Q (.ref (s.heap.objs.size + 1)) { s with heap := h2 }) : wpAny (model prog w) A (call (.type "enumerate") [.ref l]) Q E s := by
  obtain ⟨ol, hl, hc, n, hd⟩ := hL
  have M := meets_enumT l items ol hc ⟨n, hd⟩
  refine callType_new F.called_enumerate (by decide) (F.typeCall_enumerate_1 _) (F.newCall_enumerate_1 _) (fun obj => F.args_object_init_2 obj _) F.entry_enumerate_new M ⟨hl, ?_⟩
  generalize hh1 : s.heap.push { cls := .type "tuple_iterator", data := .fields #[.ref l, .int 0 0] } = h1
  have z1 : h1.objs.size = s.heap.objs.size + 1 := by rw [← hh1]; exact Heap.size_push ..
  have i1 : h1.IsTupleIter s.heap.objs.size l 0 := by rw [← hh1]; exact ⟨_, Heap.get?_push_size _ rfl, rfl, rfl⟩
  have k1 : ∀ b o, s.heap.get? b = some o → h1.get? b = some o := fun b o e => by rw [← hh1]; exact Heap.get?_push_of_some _ e
  generalize hh2 : h1.push { cls := .type "enumerate", data := .fields #[.none, .bool false, .ref s.heap.objs.size, rawInt 0, .none, .none] } = h2
  have e2 : IsEnum h2 (s.heap.objs.size + 1) s.heap.objs.size 0 .none := by rw [← hh2, ← z1]; exact Heap.get?_push_size _ rfl
  have k2 : ∀ b o, h1.get? b = some o → h2.get? b = some o := fun b o e => by rw [← hh2]; exact Heap.get?_push_of_some _ e
  have z2 : h2.objs.size = s.heap.objs.size + 2 := by rw [← hh2, Heap.size_push, z1]
  rw [z1]
  exact ⟨⟨_, e2, rfl⟩, h h2 e2 (i1.at fun o e => k2 _ o e) z2 fun b o e => k2 b o (k1 b o e)⟩
theorem draws_tuple (hh : A.handled = none) (it l : Addr) (hne : l ≠ it) (items : Array Value) :
    Draws prog w A it [it, l] items.size (fun i v => items[i]? = some v) (fun i h => h.IsTupleIter it l i ∧ h.IsTuple l items) where
  live := by
    rintro _ _ ⟨⟨o, ho, _⟩, _⟩
    exact ⟨o, ho⟩
  frame := by
    rintro _ _ h2 ⟨a, ⟨o, ho, r⟩⟩ hk
    exact ⟨a.at fun o e => hk it (by simp) o e, ⟨o, hk l (by simp) o ho, r⟩⟩
  item := by
    intro i s Q E hi st hQ
    refine RZ.nextOf_tuple_item st.1 st.2 (x := items[i]) (by simp [hi]) ?_
    intro h2 hit hs
    obtain ⟨o, ho, r⟩ := st.2
    exact hQ _ h2 s.toks (by simp [hi]) ⟨hit, ⟨o, hs.extBut _ _ hne ho, r⟩⟩ hs
  done := by
    intro s Q E st hE
    exact RZ.nextOf_tuple_end hh st.1 st.2 (by simp) hE
end
/-- the tuple at a, each item in a new pair with its place -/
def IteT (K : PySem.W.Frag) (a : Addr) : It where
  go := fun i H => ∃ (xs : List V) (x : V), SqT K H a xs ∧ xs[i]? = some x
  yld := fun i H v H2 => ∃ (t : Addr) (x : V), v = .ref t ∧ H t = none ∧ H2 = upd H t (.tup [.int (i : Nat), x]) ∧ ∀ xs, SqT K H a xs → xs[i]? = some x
  stop := fun i H => ∃ xs : List V, SqT K H a xs ∧ xs.length ≤ i
theorem turn_enumT {P : Program} {w : World} {K : PySem.W.Frag} {elts : List Expr} {kk : Nat} {tpos : Pos} (a e it : Addr) :
    Turn P w K (.Tuple elts kk tpos) (IteT K a) [e, it] e (fun i h => (∃ old, IsEnum h e it ((i : Nat) : Int) old) ∧ h.IsTupleIter it a i ∧ e ≠ it ∧ a ≠ it ∧ a ≠ e) where
  mem := by simp
  obj := by
    rintro i h ⟨⟨old, he⟩, ⟨o, ho, hc, hd⟩, _⟩ b hb
    rcases (show b = e ∨ b = it by simpa using hb) with z | z
    · subst z; exact ⟨_, he, fun v q => nomatch q⟩
    · subst z; exact ⟨o, ho, fun v q => by rw [hd] at q; cases q⟩
  keep := by
    rintro i h h2 ⟨⟨old, he⟩, hi, hne⟩ k
    exact ⟨⟨old, k e (by simp) _ he⟩, hi.at fun o q => k it (by simp) o q, hne⟩
  item := by
    intro X hP hw hK hc i pins s σ H E I hf st hg
    subst hP hw hK
    obtain ⟨⟨old, he⟩, hit, hne, hai, hae⟩ := st
    obtain ⟨xs, x, hq, hx⟩ := hg
    obtain ⟨its, rv, p, hz⟩ := I.tuple hq
    have pT : s.heap.IsTuple a its.toArray := by
      obtain ⟨o, h1, h2, h3⟩ := p
      exact ⟨o, h1, h2, h3⟩
    obtain ⟨u, hu, ru⟩ := rv.get hx
    have hel : e < s.heap.objs.size := Heap.lt_size he
    have hil : it < s.heap.objs.size := by obtain ⟨_, q, _⟩ := hit; exact Heap.lt_size q
    have hlt : i < its.toArray.size := by
      have := (List.getElem?_eq_some_iff.mp hu).1
      simpa using this
    refine wpAny_pyNext_enum_itemD (draws_tuple (A := X.A.in1) (I.ok.hd hc) it a hai its.toArray) he ⟨hit, pT⟩ hlt hne (by simp [hne, Ne.symm hae]) ?_
    intro y h1 tk hy ho hit1 hT hsz hk
    have hyu : y = u := by
      have h9 : its[i]? = some y := by simpa using hy
      rw [hu] at h9
      exact (Option.some.inj h9).symm
    subst hyu
    refine ⟨_, rfl, wpAny_letOwnedTupleGo_enum (s := { s with heap := h1, toks := tk + 1 }) ho ?_⟩
    intro h2 he2 sb
    have hT2 : h2.get? s.heap.objs.size = some { cls := .type "tuple", data := .seq #[.int i tk, y] } := (sb.2 _ (Nat.ne_of_gt hel)).trans hT
    have new : ObjOk X.prog X.w (upd H s.heap.objs.size (.tup [.int (i : Nat), x])) h2 s.heap.objs.size (.tup [.int (i : Nat), x]) :=
      ⟨by show 2 ≤ sizeLine; decide, [.int i tk, y], .cons ⟨_, rfl⟩ (.cons ru .nil), ⟨_, hT2, rfl, _, rfl⟩⟩
    have I1 : Inv X pins σ (upd H s.heap.objs.size (.tup [.int (i : Nat), x])) { s with heap := h2, toks := tk + 1 } :=
      I.turnedNew (ch := [e, it]) (fun b ob hb q => (sb.2 b (fun z => hb (by simp [z]))).trans (hk b ob (fun z => hb (by simp [z])) (fun z => hb (by simp [z])) q)) hf (Nat.le_refl _) new
    refine ⟨.ref s.heap.objs.size, _, I1, rfl, ⟨_, x, rfl, I.hok.fresh (Nat.le_refl _), rfl, fun ys hy => ?_⟩, ⟨⟨y, ?_⟩, hit1.1.at fun o q => (sb.2 it (Ne.symm hne)).trans q, hne, hai, hae⟩, fun b hb => ?_⟩
    · rw [I.tuple_inj hy hq]; exact hx
    · have e1 : ((i + 1 : Nat) : Int) = (i : Int) + 1 := by omega
      rw [e1]
      exact he2
    · have hlt2 : b < s.heap.objs.size := by
        rcases (show b = e ∨ b = it by simpa using hb) with z | z
        · rw [z]; exact hel
        · rw [z]; exact hil
      rw [upd_ne (Nat.ne_of_lt hlt2)]
      exact (hf b hb).1
  done := by
    intro X hP hw hK hc i pins s σ H E I hf st hg
    subst hP hw hK
    obtain ⟨⟨old, he⟩, hit, hne, hai, hae⟩ := st
    obtain ⟨xs, hq, hx⟩ := hg
    obtain ⟨its, rv, p, hz⟩ := I.tuple hq
    have pT : s.heap.IsTuple a its.toArray := by
      obtain ⟨o, h1, h2, h3⟩ := p
      exact ⟨o, h1, h2, h3⟩
    obtain ⟨f0, f1, f2, f3, f4, f5⟩ := hf it (by simp)
    have hl := rv.length
    have hT : s.TypeIs (.ref e) "enumerate" := ⟨_, he, rfl⟩
    unfold pyNext
    refine wpAny_bind (wpAny_attempt (wpAny_callSpecial?_slot (name := Str.ofString "__next__") hT F.slot_enumerate_next (wpAny_call_entry F.slot_enumerate_next hT F.entry_enumerate_next ?_ (F.args_enumerate_next_1 _))))
    show wpAny _ _ (field (.ref e) 2 >>= _) _ _ _
    refine wpAny_bind (wpAny_field he rfl (x := .ref it) rfl ?_)
    refine wpAny_bind (RZ.nextOf_tuple_end (I.ok.hd hc) hit pT (by simp; omega) ?_)
    intro h2 x hx2 hs2
    obtain ⟨o, ho, hcl⟩ := hs2
    refine wpAny_bind (wpAny_isInstance (T := "StopIteration") (b := true) ⟨o, ho, hcl⟩ isSubtype_stop ?_)
    exact wpAny_pure ⟨rfl, I.turned (t' := s.toks) (fun b o hb q => hx2 b o hb q) f0 f1 f3 f4 f5⟩
  self := by
    rintro B i s Q E ⟨⟨_, he⟩, _⟩ h
    exact wpAny_pyIter_enum he h
def iEnumT (K : PySem.W.Frag) (ta : TA) : TI := fun σ H R => ta σ H fun vs H1 => ∃ (a : Addr) (xs : List V), vs = [.ref a] ∧ SqT K H1 a xs ∧ R (IteT K a) H1
theorem pi_enumT {X : Cx} {e : Expr} {ta : TA} {p pos tpos : Pos} {elts : List Expr} {kk : Nat} (hg : Gl X "enumerate") (hm : X.mg "enumerate" = none) (ha : PA X [e] ta) (hs : starEach [e] X.env = [(false, eval e X.env)] := by rfl) :
    PI X (.Tuple elts kk tpos) (.Call (.Name "enumerate" p) [e] [] pos) (iEnumT X.K ta) := by
  constructor
  intro pins s σ H R I h
  refine Call_ (ld_blt I hg hm boot_enumerate (PyProof.Rows.callWith_type1 (thn (ha.run pos pins s σ H _ I h) ?_) hs rfl))
  rintro us s1 ⟨vs, H1, I1, r1, a, xs, ex, hq, q⟩
  subst ex
  cases r1 with
  | cons r rr =>
    cases rr
    cases r
    obtain ⟨its, rv, p2, hz⟩ := I1.tuple hq
    have pT : s1.heap.IsTuple a its.toArray := by
      obtain ⟨o, h1, h2, h3⟩ := p2
      exact ⟨o, h1, h2, h3⟩
    have hal : a < s1.heap.objs.size := p2.lt
    refine call_enumT pT fun h2 he hit hsz hk => wpAny_pyIter_enum he ?_
    have I2 : Inv X pins σ H1 { s1 with heap := h2 } := I1.kept (t' := s1.toks) hk
    refine ⟨s1.heap.objs.size + 1, [s1.heap.objs.size + 1, s1.heap.objs.size], _, _, H1, rfl, I2, turn_enumT a (s1.heap.objs.size + 1) s1.heap.objs.size, ⟨⟨.none, he⟩, hit, Nat.succ_ne_self _, Nat.ne_of_lt hal, Nat.ne_of_lt (Nat.lt_succ_of_lt hal)⟩, fun b hb => ?_, q⟩
    have hle : s1.heap.objs.size ≤ b := by
      rcases (show b = s1.heap.objs.size + 1 ∨ b = s1.heap.objs.size by simpa using hb) with z | z
      · rw [z]; exact Nat.le_add_right _ _
      · rw [z]; exact Nat.le_refl _
    exact I1.fpOk hle (I1.hok.fresh hle)
/-! ### repr of data -/
def rRepr (K : PySem.W.Frag) : List V → Hp → VK → Prop := fun vs H Q => ∃ (a : Addr) (d : PyData), vs = [.ref a] ∧ Dp K H (.ref a) d ∧ d.showable = true ∧ d.hasDict = false ∧ d.depth ≤ 50 ∧ d.shown.length ≤ sizeLine ∧ Q (.str d.shown) H
theorem call_repr {X : Cx} (hc : X.A.guards = some []) (hu : X.A.units + 64 < cLine) : CallR X (.builtin "repr") (rRepr X.K) := by
  intro pins s σ H xs us Q I r h
  obtain ⟨a, d, rfl, hd, hs, hn, hdep, hz, q⟩ := h
  obtain ⟨u, rfl, ru⟩ := vals1 r
  obtain rfl : u = Value.ref a := ru
  obtain ⟨as, rd⟩ := Dp.reads I d _ _ hd rfl
  exact repr_of_reads' rd hs (PyData.noDict_hsm hn) hc (by omega) (fun _ _ e => e) (fun h2 t tk hk => ⟨.str d.shown, H, I.kept hk, ⟨t, rfl⟩, q⟩) hz

/-! ### f(k = v, ..): keywords alone -/
section
variable {K : PySem.W.Frag} {x qual : Str} {params : Arguments} {body : List Stmt} {scope : Scope} {f : Addr} {fd : FuncData} {ps : List Str}
/-- the values by keywords, put in the parameters' order by g -/
theorem kbn0 (F : FunD K x qual params body scope [] [] f fd) (ks : List Str) (g : {α : Type} → List α → List α) (hrel : ∀ {zs : List V} {ws : List Value}, Vals zs ws → zs.length = ks.length → Vals (g zs) (g ws))
    (h : ∀ (kV doc pm : Value) (an : Option Addr) (cdv ct : Value) (ws : List Value), ws.length = ks.length → bindArgs (PySem.W.fnOf x qual params body scope .none kV doc pm an cdv ct) ⟨[], ks.zip ws⟩ = pure (ps.zip (g ws))) :
    ∀ (s : Shared) (ws : List Value), ws.length = ks.length → BindsTo s fd ⟨[], ks.zip ws⟩ (ps.zip (g ws)) := by
  obtain ⟨oc, od, dV, kV, doc, pm, an, cdv, ct, osl, rfl, lk, hcd, hD, hK⟩ := F.ex
  rcases hD with ⟨_, rfl⟩ | ⟨e, _⟩
  · intro s ws hl
    exact .of_eq (h kV doc pm an cdv ct ws hl)
  · exact absurd rfl e
def tCallK0 (m : Nat) (pr : Sp) (g : List V → List V) (E : XK) (tk : TA) : TE := fun σ H Q => tk σ H fun zs H2 => zs.length = m ∧ pr (g zs) H2 Q E
end
section
variable {X : Cx} {C : CXT} {k : Nat} {f : Addr} {fd : FuncData} {ps ks : List Str} {pr : Sp} {E : XK} {x : Str} {p pos : Pos} {kws : List Keyword} {tk : TA} {g : {α : Type} → List α → List α}
theorem pe_callK0 (F : FnG X.prog X.w X.K X.mg X.base C k f fd ps pr) (hc : X.A.guards = some []) (hr : Room k X.A) (hg : Gl X x) (hm : X.mg x = some (.ref f)) (hk : PySem.W.keepIn X.K (.ref f) = true)
    (hb : ∀ (s : Shared) (ws : List Value), ws.length = ks.length → BindsTo s fd ⟨[], ks.zip ws⟩ (ps.zip (g ws))) (hrel : ∀ {zs : List V} {ws : List Value}, Vals zs ws → zs.length = ks.length → Vals (g zs) (g ws))
    (hx : Passes C X E) (hkw : PK X kws tk) (hall : (backToKw pos (keywordEach kws X.env)).all (·.1.isSome) = true := by rfl) (hks : (backToKw pos (keywordEach kws X.env)).filterMap (·.1) = ks := by rfl)
    (hdb : (x == ("__debug__" : Str)) = false := by decide) (hpl : ((backTo pos (starEach [] X.env)).any (·.1) || (backToKw pos (keywordEach kws X.env)).any (·.1.isNone)) = false := by rfl) :
    PE X (.Call (.Name x p) [] kws pos) (tCallK0 ks.length pr g E tk) := by
  constructor
  intro pins s σ H Q I h
  refine wpAny_Call_Name_kw (ld_glob I hg hm ?_ hdb)
  refine PySem.W.callWith_KW0 (h₀ := X.base) I.ok.mod.kin hk hall ?_ hpl
  refine thn (hkw.run pos pins s σ H _ I h) ?_
  rintro ws s2 ⟨zs, H2, I2, rz, l2, q⟩
  refine ⟨I2.kIn, ?_⟩
  rw [hks]
  have l3 : ws.length = ks.length := by rw [← rz.length]; exact l2
  refine wpAny_call (codeAny_mono (F.run X.A X.stack s2 H2 ⟨[], ks.zip ws⟩ (g ws) (g zs) Q E hc hr I2.env0 (hb s2 ws l3) (hrel rz l2) q) ?_)
  rintro fl s3 hq
  match fl, hq with
  | .error z, hq => exact hx pins σ H2 s2 z s3 I2 hq
  | .ok (.ret u), hq => exact I2.after hq
/-- the same of a def that asks nothing of what runs around -/
theorem pe_callK1 (F : FnOk X.prog X.w X.K X.mg X.base C k f fd ps pr) (hr : Room k X.A) (hg : Gl X x) (hm : X.mg x = some (.ref f)) (hk : PySem.W.keepIn X.K (.ref f) = true)
    (hb : ∀ (s : Shared) (ws : List Value), ws.length = ks.length → BindsTo s fd ⟨[], ks.zip ws⟩ (ps.zip (g ws))) (hrel : ∀ {zs : List V} {ws : List Value}, Vals zs ws → zs.length = ks.length → Vals (g zs) (g ws))
    (hx : Passes C X E) (hkw : PK X kws tk) (hall : (backToKw pos (keywordEach kws X.env)).all (·.1.isSome) = true := by rfl) (hks : (backToKw pos (keywordEach kws X.env)).filterMap (·.1) = ks := by rfl)
    (hdb : (x == ("__debug__" : Str)) = false := by decide) (hpl : ((backTo pos (starEach [] X.env)).any (·.1) || (backToKw pos (keywordEach kws X.env)).any (·.1.isNone)) = false := by rfl) :
    PE X (.Call (.Name x p) [] kws pos) (tCallK0 ks.length pr g E tk) := by
  constructor
  intro pins s σ H Q I h
  refine wpAny_Call_Name_kw (ld_glob I hg hm ?_ hdb)
  refine PySem.W.callWith_KW0 (h₀ := X.base) I.ok.mod.kin hk hall ?_ hpl
  refine thn (hkw.run pos pins s σ H _ I h) ?_
  rintro ws s2 ⟨zs, H2, I2, rz, l2, q⟩
  refine ⟨I2.kIn, ?_⟩
  rw [hks]
  have l3 : ws.length = ks.length := by rw [← rz.length]; exact l2
  refine wpAny_call (codeAny_mono (F.run X.A X.stack s2 H2 ⟨[], ks.zip ws⟩ (g ws) (g zs) Q E hr I2.env0 (hb s2 ws l3) (hrel rz l2) q) ?_)
  rintro fl s3 hq
  match fl, hq with
  | .error z, hq => exact hx pins σ H2 s2 z s3 I2 hq
  | .ok (.ret u), hq => exact I2.after hq
end
end HG

/-! Own words over the hand layer: readings' names, a def called by its name, evaluations. -/
namespace HL
open PySem PySem.Spec PyProof.Rows L2 Evl HG
abbrev rAdd0 : R2 := rI0 fun i j => .int (i + j)
abbrev rSub0 : R2 := rI0 fun i j => .int (i - j)
/-- either side small, or both not too great -/
def CMulO (i j : Int) : Prop := CMul i j ∨ CMulW i j
abbrev rMulW : R2 := rI CMulO fun i j => .int (i * j)
theorem op_mulO {X : Cx} : OpR X (binaryOp .Mult) rMulW := by
  intro pins s σ H x y v u Q I rx ry h
  obtain ⟨i, j, e1, e2, c | c, q⟩ := h
  · exact op_mul pins s σ H x y v u Q I rx ry ⟨i, j, e1, e2, c, q⟩
  · exact op_mulW pins s σ H x y v u Q I rx ry ⟨i, j, e1, e2, c, q⟩
abbrev rDivW : R2 := rI CDivW fun i j => .int (i / j)
abbrev rMod0 : R2 := rI (fun _ j => 0 < j) fun i j => .int (i % j)
abbrev rPow0 : R2 := rI CPow fun i j => .int (i ^ j.toNat)
abbrev rAnd0 : R2 := rI0 fun i j => .int (Builtin.bitAnd i j)
abbrev rLt0 : R2 := rI0 fun i j => .bl (decide (i < j))
abbrev rLe0 : R2 := rI0 fun i j => .bl (decide (i ≤ j))
abbrev rGt0 : R2 := rI0 fun i j => .bl (decide (j < i))
abbrev rGe0 : R2 := rI0 fun i j => .bl (decide (j ≤ i))
abbrev rNeg : V → Hp → VK → Prop := rU fun i => .int (-i)
abbrev rIs0 : R2 := fun x y H Q => ∃ a b, x = .bl a ∧ y = .bl b ∧ Q (.bl (decide (a = b))) H
abbrev rIsNot0 : R2 := fun x y H Q => ∃ a b, x = .bl a ∧ y = .bl b ∧ Q (.bl (!decide (a = b))) H
abbrev rInt1 : List V → Hp → VK → Prop := fun xs H Q => (∃ i, xs = [.int i] ∧ Q (.int i) H) ∨ ∃ k, xs = [.bl k] ∧ Q (.int (if k then 1 else 0)) H
abbrev rMin2 : List V → Hp → VK → Prop := fun xs H Q => ∃ i j, xs = [.int i, .int j] ∧ Q (.int (if j < i then j else i)) H
abbrev rTupleOf (K : PySem.W.Frag) : List V → Hp → VK → Prop := fun xs H Q => ∃ p ys, xs = [.ref p] ∧ ((SqL K H p ys ∧ ∀ l, H l = none → Q (.ref l) (upd H l (.tup ys))) ∨ (SqT K H p ys ∧ Q (.ref p) H))
abbrev rReprI : List V → Hp → VK → Prop := fun xs H Q => ∃ i : Int, xs = [.int i] ∧ i.natAbs.log2 < 1920 ∧ Q (.str (toString i)) H
/-! ### a def of the module, by its name -/
structure Cl (P : Program) (w : World) (K : PySem.W.Frag) (mg : Str → Option Value) (base : Heap) (k : Nat) (x nm : Str) (st : Stmt) (ps : List Str) (sp : Sp) : Prop where
  ex : ∃ (f : Addr) (fd : FuncData), FnG P w K mg base CX0 k f fd ps sp ∧ FunD K nm nm (defArgs st) (defBody st) (defScope st) [] [] f fd ∧ mg x = some (.ref f) ∧ Binds K fd ps []
/-- one def as it stands behind the top -/
structure At (K : PySem.W.Frag) (mg : Str → Option Value) (x nm : Str) (st : Stmt) : Prop where
  ex : ∃ (f : Addr) (fd : FuncData), FunD K nm nm (defArgs st) (defBody st) (defScope st) [] [] f fd ∧ mg x = some (.ref f)
section
variable {P : Program} {w : World} {K : PySem.W.Frag} {mg : Str → Option Value} {base : Heap}
theorem cl {k : Nat} {x nm : Str} {st : Stmt} {N ps : List Str} {sp : Sp} (A : At K mg x nm st) (S : FnScope N ps (defScope st))
    (hb : ∀ (kV doc pm : Value) (an : Option Addr) (cdv ct : Value) (us : List Value), us.length = ps.length → bindArgs (PySem.W.fnOf nm nm (defArgs st) (defBody st) (defScope st) .none kV doc pm an cdv ct) ⟨us, []⟩ = pure (ps.zip us))
    (len : ∀ xs H Q E, sp xs H Q E → xs.length = ps.length)
    (body : ∀ (f : Addr) (cd : Value) (B : Around) (fr : List Env) (t : Shared) (H : Hp) (xs : List V) (Q : VK) (E : XK),
      (B.deeper (envOfC nm (defScope st) t.heap.objs.size f cd)).guards = some [] → Room k (B.deeper (envOfC nm (defScope st) t.heap.objs.size f cd)) → sp xs H Q E →
      ∃ r, PSs (cxOf CX0 P w K mg base N nm (defScope st) f cd B fr t H E).nox (defBody st) r ∧ r { nx := fun _ H2 => Q .non H2, rt := Q } (start N xs) H) :
    Cl P w K mg base (k + 1) x nm st ps sp := by
  obtain ⟨f, fd, F, hm⟩ := A.ex
  refine ⟨f, fd, okG F S len ?_, F, hm, FunD.bindsN F hb⟩
  intro cd B fr t H xs Q E hg hr h
  obtain ⟨r, h1, h2⟩ := body f cd B fr t H xs Q E hg hr h
  exact ⟨r, PSs.nox h1, h2⟩
end
section
variable {X : Cx} {k j : Nat} {x nm : Str} {st : Stmt} {ps ks : List Str} {sp : Sp} {p pos : Pos} {e : Expr} {es : List Expr} {t tk : TA} {kws : List Keyword}
theorem pe_gc (c : Cl X.prog X.w X.K X.mg X.base k x nm st ps sp) (hc : X.A.guards = some []) (hr : Room j X.A) (hk : k ≤ j) (hg : Gl X x) (ha : PA X (e :: es) t) (hdb : (x == ("__debug__" : Str)) = false := by decide)
    (he : starEach (e :: es) X.env = (false, eval e X.env) :: starEach es X.env := by rfl) (hpl : (backTo pos (starEach es X.env)).any (·.1) = false := by rfl) :
    PE X (.Call (.Name x p) (e :: es) [] pos) (tCall sp [] E0 t) := by
  obtain ⟨f, fd, F, FD, hm, b⟩ := c.ex
  exact pe_callG F hc (hr.mono hk) hg hm FD.kp b pass0 ha hdb he hpl
/-- the values of keywords in the parameters' order -/
def perm {α : Type} (is : List Nat) (zs : List α) : List α := is.filterMap (zs[·]?)
theorem perm_rel {zs : List V} {ws : List Value} (r : Vals zs ws) : ∀ is : List Nat, Vals (perm is zs) (perm is ws)
  | [] => .nil
  | i :: is => by
    have ih := perm_rel r is
    unfold perm at ih ⊢
    cases e : zs[i]? with
    | none =>
      have e2 := Vals.none_of r e
      rw [List.filterMap_cons_none e, List.filterMap_cons_none e2]
      exact ih
    | some v =>
      obtain ⟨u, h1, h2⟩ := r.get e
      rw [List.filterMap_cons_some e, List.filterMap_cons_some h1]
      exact .cons h2 ih
theorem pe_kc (c : Cl X.prog X.w X.K X.mg X.base k x nm st ps sp) (hc : X.A.guards = some []) (hr : Room j X.A) (hk : k ≤ j) (hg : Gl X x) {is : List Nat}
    (kb : ∀ (kV doc pm : Value) (an : Option Addr) (cdv ct : Value) (ws : List Value), ws.length = ks.length → bindArgs (PySem.W.fnOf nm nm (defArgs st) (defBody st) (defScope st) .none kV doc pm an cdv ct) ⟨[], ks.zip ws⟩ = pure (ps.zip (perm is ws)))
    (hkw : PK X kws tk) (hall : (backToKw pos (keywordEach kws X.env)).all (·.1.isSome) = true := by rfl) (hks : (backToKw pos (keywordEach kws X.env)).filterMap (·.1) = ks := by rfl)
    (hdb : (x == ("__debug__" : Str)) = false := by decide) (hpl : ((backTo pos (starEach [] X.env)).any (·.1) || (backToKw pos (keywordEach kws X.env)).any (·.1.isNone)) = false := by rfl) :
    PE X (.Call (.Name x p) [] kws pos) (tCallK0 ks.length sp (perm is) E0 tk) := by
  obtain ⟨f, fd, F, FD, hm, b⟩ := c.ex
  exact pe_callK0 (g := perm is) F hc (hr.mono hk) hg hm FD.kp (kbn0 FD ks (perm is) (fun r _ => perm_rel r is) kb) (fun r _ => perm_rel r is) pass0 hkw hall hks hdb hpl
end
/-! ### evaluations -/
section
variable {K : PySem.W.Frag} {σ : L2.St} {H H' : Hp} {ta tb te : TE} {x y z v : V}
theorem rc_int {i : Int} : RC rInt1 [.int i] H (.int i) := fun H1 _ Q q => Or.inl ⟨i, rfl, q H1 (Ex.refl H1)⟩
theorem rc_min2 {i j : Int} : RC rMin2 [.int i, .int j] H (.int (if j < i then j else i)) := fun H1 _ Q q => ⟨i, j, rfl, q H1 (Ex.refl H1)⟩
theorem rc_max2 {i j : Int} : RC rMax2 [.int i, .int j] H (.int (if j > i then j else i)) := fun H1 _ Q q => ⟨i, j, rfl, q H1 (Ex.refl H1)⟩
theorem rv_is0 {a b : Bool} : RV rIs0 (.bl a) (.bl b) H (.bl (decide (a = b))) := fun H1 _ Q q => ⟨a, b, rfl, rfl, q H1 (Ex.refl H1)⟩
theorem rv_isNot0 {a b : Bool} : RV rIsNot0 (.bl a) (.bl b) H (.bl (!decide (a = b))) := fun H1 _ Q q => ⟨a, b, rfl, rfl, q H1 (Ex.refl H1)⟩
theorem rc_reprI {i : Int} (h : i.natAbs.log2 < 1920) : RC rReprI [.int i] H (.str (toString i)) := fun H1 _ Q q => ⟨i, rfl, h, q H1 (Ex.refl H1)⟩
/-- a pair of names stored -/
theorem q_par {i j : Nat} {ta : TA} {D : Ends} {tz : TS} {a b : V} (h : EvA ta σ H [a, b]) (k : ∀ H1, Ex H H1 → tz D ((σ.set i (some a)).set j (some b)) H1) : tSeq (tPar i j ta) tz D σ H :=
  h H (Ex.refl H) _ fun H1 e => ⟨a, b, rfl, k H1 e⟩
theorem s_par {i j : Nat} {ta : TA} {D : Ends} {a b : V} (h : EvA ta σ H [a, b]) (k : ∀ H1, Ex H H1 → D.nx ((σ.set i (some a)).set j (some b)) H1) : tPar i j ta D σ H :=
  h H (Ex.refl H) _ fun H1 e => ⟨a, b, rfl, k H1 e⟩
end
/-- one part after the other -/
theorem op_first {σ : L2.St} {H : Hp} {ta tb : TE} {r : R2} {x : V} {Q : VK} (ha : Ev ta σ H x) (k : ∀ H1, Ex H H1 → tb σ H1 fun y H2 => r x y H2 Q) : tOp r ta tb σ H Q := ha H (Ex.refl H) _ fun H1 e => k H1 e
theorem call_args {σ : L2.St} {H : Hp} {ta : TA} {sp : Sp} {E : XK} {vs : List V} {Q : VK} (ha : EvA ta σ H vs) (k : ∀ H1, Ex H H1 → sp vs H1 Q E) : tCall sp [] E ta σ H Q := ha H (Ex.refl H) _ fun H1 e => by
  show sp (vs ++ []) H1 Q E
  rw [List.append_nil]
  exact k H1 e
/-- for x in (a, b, ..) -/
theorem q_forNU {K : PySem.W.Frag} {σ : L2.St} {H : Hp} {xs : List V} {tl : TE} {j : Nat} {tu tz : TS} {D : Ends} (h : EvU tl σ H xs) (Pv : Addr → Nat → L2.St → Hp → Prop) (h0 : ∀ p H1, H p = none → Ex H H1 → H1 p = some (.tup xs) → Pv p 0 σ H1)
    (hl : ∀ p i σ' H', i ≤ xs.length → Pv p i σ' H' → SqT K H' p xs) (hs : ∀ p i x σ' H', xs[i]? = some x → Pv p i σ' H' → tu { D with nx := Pv p (i + 1), ct := Pv p (i + 1), bk := tz D } (σ'.set j (some x)) H')
    (hd : ∀ p σ' H', Pv p xs.length σ' H' → tz D σ' H') : tSeq (tFor (iTup K tl) (gName j) tu) tz D σ H :=
  h H (Ex.refl H) _ fun p H1 hp e h1 => ⟨p, rfl, ⟨xs, st_of h1⟩, for_tup (D := { D with nx := tz D }) (Pv p) (h0 p H1 hp e h1) (hl p) (hs p) (hd p)⟩
/-! ### great numbers -/
theorem natAbs_lt {n b : Nat} (h : n < 2 ^ b) : ((n : Nat) : Int).natAbs < 2 ^ b := by rw [Int.natAbs_natCast]; exact h
theorem mulW {n m a b : Nat} (hn : n < 2 ^ a) (hm : m < 2 ^ b) (ha : 0 < a := by decide) (hb : 0 < b := by decide) (h : a + b ≤ 1000000 := by decide) : CMulO (n : Int) (m : Int) :=
  .inr <| wide_mul (natAbs_lt hn) (natAbs_lt hm) ha hb h
theorem mulI {i j : Int} {a b : Nat} (hi : i.natAbs < 2 ^ a) (hj : j.natAbs < 2 ^ b) (ha : 0 < a := by decide) (hb : 0 < b := by decide) (h : a + b ≤ 1000000 := by decide) : CMulO i j := .inr <| wide_mul hi hj ha hb h
theorem mulL {i j : Int} (h1 : -(2 ^ 64) < i := by decide) (h2 : i < 2 ^ 64 := by decide) : CMulO i j := .inl (.inl ⟨h1, h2⟩)
theorem mulR {i j : Int} (h1 : -(2 ^ 64) < j := by decide) (h2 : j < 2 ^ 64 := by decide) : CMulO i j := .inl (.inr ⟨h1, h2⟩)
theorem divW {i : Int} {m b : Nat} (hp : 0 < m) (hm : m < 2 ^ b) (hb : 0 < b := by decide) (h : b ≤ 9000 := by decide) : CDivW i (m : Int) := wide_div (by omega) (natAbs_lt hm) hb h
end HL

/-! The end. -/
namespace HE
open PySem PySem.Spec PyProof.Rows L2 HG HL
theorem fd_eq {K : PySem.W.Frag} {x y q1 q2 : Str} {p1 p2 : Arguments} {b1 b2 : List Stmt} {s1 s2 : Scope} {d1 d2 : List V} {k1 k2 : List (Str × V)} {f : Addr} {g1 g2 : FuncData} (F1 : FunD K x q1 p1 b1 s1 d1 k1 f g1) (F2 : FunD K y q2 p2 b2 s2 d2 k2 f g2) : g1 = g2 := by
  obtain ⟨_, _, _, _, _, _, _, _, _, _, _, l1, _⟩ := F1.ex
  obtain ⟨_, _, _, _, _, _, _, _, _, _, _, l2, _⟩ := F2.ex
  rw [l1] at l2
  injection l2 with z
  injection z with _ _ z
  injection z
theorem walkC {l : PySem.W.OpenLaw} {N n : Nat} {q : Program} {loose : List Str} {XP : (Str → Option Value) → Heap → Prop} {YP : World → Heap → Prop} {d : DefRec} {x lw : Str} {st : Stmt}
    (hn : l.most = some N) (hN : N ≤ sizeLine) (hdf : d.params.defaults = []) (hr : Room n callerA) (hname : d.name = lw)
    (hbind : ∀ (kV doc pm : Value) (an : Option Addr) (cdv ct : Value) (us : List Value), us.length = [x].length → bindArgs (PySem.W.fnOf lw lw (defArgs st) (defBody st) (defScope st) .none kV doc pm an cdv ct) ⟨us, []⟩ = pure ([x].zip us))
    (F : ∀ (w : World) (mg : Str → Option Value) (h : Heap), YP w h → h.Ns mainGlobals mg →
      ∃ (K : PySem.W.Frag) (pr : Sp), K.In h ∧ At K mg lw lw st ∧
        (∀ (H : Hp) (a : Addr) (ns : List Int), ns.length ≤ N → SqL K H a (ns.map V.int) → (∀ b, H b = none ∨ ∃ o u, H b = some (.frz o u)) → pr [.ref a] H (fun v _ => v = .bl true) fun _ _ _ => False) ∧
        ∀ base : Heap, Cl l.prog w K mg base n lw lw st [x] pr) :
    PySem.W.WalkO q loose XP YP l.row.toRowW d [] (fun f vs => PySem.call f vs) := by
  refine walkG (x := x) hn hN hdf hr ?_
  intro w mg fa h Y G hmg
  rw [hname] at hmg
  obtain ⟨K, pr, KX, A, hsp, hC⟩ := F w mg h Y G
  obtain ⟨f, fd, F0, hm⟩ := A.ex
  have ef : f = fa := by
    rw [hm] at hmg
    injection hmg with z
    injection z
  subst ef
  refine ⟨K, fd, pr, KX, fun s v => F0.bindsA hbind s [v] rfl, hsp, fun base KB GB => ?_⟩
  obtain ⟨f2, fd2, F2, F3, hm2, hb2⟩ := (hC base).ex
  have ef : f2 = f := by
    rw [hm2] at hm
    injection hm with z
    injection z
  subst ef
  have := fd_eq F0 F3
  subst this
  exact F2
end HE

/-! Comprehensions over enumerate and zip of tuples. -/
namespace HC
open PySem PySem.Spec PyProof.Rows L2 Evl HG HL
section
variable {K : PySem.W.Frag} {σ : L2.St} {H : Hp} {tt : TT} {te : TE} {vs : List Nat}
theorem cw_up {f : Nat → Bool} {v : Nat → V} {d : Addr} {i : Nat} {H1 H2 : Hp} (p : Cw H f v d i H1) (e : Ex H1 H2) : Cw H f v d i H2 := ⟨p.1, p.2.1.trans e, e d _ p.2.2⟩
/-- the comprehension's loop, by what each turn makes -/
theorem lc_by {J : It} {g : TG} {n : Nat} (f : Nat → Bool) (v : Nat → V) {d : Addr} {Q : VK} (hn : n ≤ 40000) (hd : H d = none)
    (stop : ∀ H1, Ex H H1 → J.stop n H1) (go : ∀ i H1, i < n → Ex H H1 → J.go i H1)
    (turn : ∀ i x H1 H2, i < n → Ex H H1 → J.yld i H1 x H2 → ∃ (σ2 : L2.St), Ex H1 H2 ∧ wipe σ2 vs = wipe σ vs ∧ EvT tt σ2 H (f i) ∧ (f i = true → Ev te σ2 H (v i)) ∧ ∀ R : L2.St → Hp → Prop, R σ2 H2 → g x (wipe σ vs) H2 R)
    (q : ∀ H1, Ex H H1 → H1 d = some (.lst (given n f v)) → Q (.ref d) H1) :
    ∃ W : Nat → Nat → Hp → Prop, (∃ m, W 0 m (upd H d (.lst []))) ∧ ∀ i m H1, W i m H1 →
      (J.stop i H1 ∧ Q (.ref d) H1) ∨ (J.go i H1 ∧ ∃ Nx : Hp → Prop, (∀ H2, Nx H2 → ∃ m2, m2 < m ∧ W (i + 1) m2 H2) ∧ ∀ x H2, J.yld i H1 x H2 → g x (wipe σ vs) H2 fun σ2 H3 => wipe σ2 vs = wipe σ vs ∧ tt σ2 H3 fun b H4 =>
        if b = true then te σ2 H4 fun y H5 => ∃ acc, H5 d = some (.lst acc) ∧ acc.length < sizeLine ∧ Nx (upd H5 d (.lst (acc ++ [y]))) else Nx H4) := by
  refine ⟨fun i m H1 => m = n - i ∧ i ≤ n ∧ Cw H f v d i H1, ⟨n, by omega, Nat.zero_le _, hd, Ex.new hd, upd_same⟩, ?_⟩
  rintro i m H1 ⟨rfl, hi, p⟩
  by_cases h : i = n
  · subst h
    exact Or.inl ⟨stop H1 p.2.1, q H1 p.2.1 p.2.2⟩
  · refine Or.inr ⟨go i H1 (by omega) p.2.1, fun H2 => Cw H f v d (i + 1) H2, fun H2 p2 => ⟨n - (i + 1), by omega, rfl, by omega, p2⟩, ?_⟩
    intro x H2 hy
    obtain ⟨σ2, e, w, ht, he, hg⟩ := turn i x H1 H2 (by omega) p.2.1 hy
    exact hg _ ⟨w, cw_turn (cw_up p e) (by omega) ht he⟩
/-- [te for a_i, a_j in enumerate(tuple) if tt] -/
theorem lc_enumT {ta : TA} {i j : Nat} {a : Addr} {xs : List V} (f : Nat → Bool) (v : Nat → V) {Q : VK} {H0 : Hp}
    (harg : ∀ R : List V → Hp → Prop, (∀ H1, Ex H0 H1 → Ex H H1 → R [.ref a] H1) → ta σ H0 R) (hx : SqT K H a xs) (hz : xs.length ≤ 40000)
    (hw : ∀ x y, wipe (((wipe σ vs).set i (some x)).set j (some y)) vs = wipe σ vs)
    (ht : ∀ (p : Nat) (x : V), xs[p]? = some x → EvT tt (((wipe σ vs).set i (some (.int (p : Nat)))).set j (some x)) H (f p))
    (he : ∀ (p : Nat) (x : V), xs[p]? = some x → f p = true → Ev te (((wipe σ vs).set i (some (.int (p : Nat)))).set j (some x)) H (v p))
    (q : ∀ d H1, H0 d = none → Ex H0 H1 → H1 d = some (.lst (given xs.length f v)) → Q (.ref d) H1) :
    tLc (iEnumT K ta) (gTup K 2 (gCons (gName i) (gCons (gName j) gNil))) tt te vs σ H0 Q := by
  refine harg _ fun H1 e1 e2 => ⟨a, xs, rfl, ex_t e2 hx, fun d hd => ?_⟩
  refine lc_by (H := H1) f v hz hd (fun H2 e3 => ⟨xs, ex_t (e2.trans e3) hx, Nat.le_refl _⟩) (fun p H2 hp e3 => ⟨xs, xs[p], ex_t (e2.trans e3) hx, by simp [hp]⟩) ?_ (fun H2 e3 h => q d H2 (fresh_back e1 hd) (e1.trans e3) h)
  rintro p x H2 H3 hp e3 ⟨t, y, rfl, nt, rfl, hy⟩
  have hy2 := hy xs (ex_t (e2.trans e3) hx)
  refine ⟨((wipe σ vs).set i (some (.int (p : Nat)))).set j (some y), Ex.new nt, hw _ _, (ht p y hy2).mono e2, fun hf => (he p y hy2 hf).mono e2, fun R r => ?_⟩
  exact ⟨t, _, rfl, st_of upd_same, rfl, _, _, rfl, _, _, rfl, rfl, r⟩
theorem et_yes : EvT tYes σ H true := fun H1 _ Q q => q H1 (Ex.refl H1)
theorem given_all (n : Nat) (v : Nat → V) : given n (fun _ => true) v = (List.range n).map v := by
  unfold given
  rw [List.filter_eq_self.mpr (fun _ _ => rfl)]
/-- over a tuple that stands | that is made in the call -/
theorem el_enumT {tx : TE} {i j : Nat} {a : Addr} {xs : List V} (f : Nat → Bool) (v : Nat → V) (h : Ev tx σ H (.ref a)) (hx : SqT K H a xs) (hz : xs.length ≤ 40000)
    (hw : ∀ x y, wipe (((wipe σ vs).set i (some x)).set j (some y)) vs = wipe σ vs)
    (ht : ∀ (p : Nat) (x : V), xs[p]? = some x → EvT tt (((wipe σ vs).set i (some (.int (p : Nat)))).set j (some x)) H (f p))
    (he : ∀ (p : Nat) (x : V), xs[p]? = some x → f p = true → Ev te (((wipe σ vs).set i (some (.int (p : Nat)))).set j (some x)) H (v p)) :
    EvL (tLc (iEnumT K (tCons tx tNil)) (gTup K 2 (gCons (gName i) (gCons (gName j) gNil))) tt te vs) σ H (given xs.length f v) := fun H0 e Q q =>
  lc_enumT (K := K) (H := H) f v (fun R r => h H0 e _ fun H1 e1 => r H1 e1 (e.trans e1)) hx hz hw ht he q
theorem el_enumTU {tx : TE} {i j : Nat} {xs : List V} (f : Nat → Bool) (v : Nat → V) (h : EvU tx σ H xs) (hz : xs.length ≤ 40000)
    (hw : ∀ x y, wipe (((wipe σ vs).set i (some x)).set j (some y)) vs = wipe σ vs)
    (ht : ∀ (p : Nat) (x : V), xs[p]? = some x → EvT tt (((wipe σ vs).set i (some (.int (p : Nat)))).set j (some x)) H (f p))
    (he : ∀ (p : Nat) (x : V), xs[p]? = some x → f p = true → Ev te (((wipe σ vs).set i (some (.int (p : Nat)))).set j (some x)) H (v p)) :
    EvL (tLc (iEnumT K (tCons tx tNil)) (gTup K 2 (gCons (gName i) (gCons (gName j) gNil))) tt te vs) σ H (given xs.length f v) := fun H0 e Q q =>
  h H0 e _ fun a H1 ha e1 hx => ⟨a, xs, rfl, st_of hx, fun d hd => by
    refine lc_by (H := H1) f v hz hd (fun H2 e3 => ⟨xs, st_of (e3 a _ hx), Nat.le_refl _⟩) (fun p H2 hp e3 => ⟨xs, xs[p], st_of (e3 a _ hx), by simp [hp]⟩) ?_ (fun H2 e3 h => q d H2 (fresh_back e1 hd) (e1.trans e3) h)
    rintro p x H2 H3 hp e3 ⟨t, y, rfl, nt, rfl, hy⟩
    have hy2 := hy xs (st_of (e3 a _ hx))
    have e2 : Ex H H1 := e.trans e1
    refine ⟨((wipe σ vs).set i (some (.int (p : Nat)))).set j (some y), Ex.new nt, hw _ _, (ht p y hy2).mono e2, fun hf => (he p y hy2 hf).mono e2, fun R r => ?_⟩
    exact ⟨t, _, rfl, st_of upd_same, rfl, _, _, rfl, _, _, rfl, rfl, r⟩⟩
/-- sum of a new list of ints -/
theorem ev_sumL {tx : TE} {ns : List Int} (h : EvL tx σ H (ns.map V.int)) : Ev (tCB (rSum K) (tCons tx tNil)) σ H (.int ns.sum) := fun H1 e Q q =>
  h H1 e _ fun p H2 _ e2 h2 => ⟨p, ns, rfl, sq_of h2, q H2 e2⟩
theorem ev_allL {tx : TE} {bs : List Bool} (h : EvL tx σ H (bs.map V.bl)) : Ev (tCB (rAll K) (tCons tx tNil)) σ H (.bl (bs.all id)) := fun H1 e Q q =>
  h H1 e _ fun p H2 _ e2 h2 => ⟨p, bs, rfl, sq_of h2, q H2 e2⟩
end
end HC

/-! Rules: tuples of ints summed, their least and greatest; tuples turned about; repr of a bool. -/
namespace HR3
open PySem PySem.Spec PyProof.Rows L2
section
variable {prog : Program} {w : World} {A : Around} {E : Value → Shared → Prop} {s : Shared} {l : Addr} {xs : Array (Int × Tok)}
theorem iter_intTup {Q : Value → Shared → Prop} (hl : s.heap.IsTuple l (intItems xs))
    (h : ∀ s₂ : Shared, s₂ = { s with heap := s.heap.push { cls := .type "tuple_iterator", data := .fields #[.ref l, .int 0 0] } } →
      (s₂.heap.IsTupleIter s.heap.objs.size l 0 ∧ s₂.heap.IsTuple l (intItems xs)) → (∀ b ∈ [s.heap.objs.size, l], b < s₂.heap.objs.size) → l ≠ s.heap.objs.size → Q (.ref s.heap.objs.size) s₂) :
    wpAny (model prog w) A (pyIter (.ref l)) Q E s := by
  have hlt : l < s.heap.objs.size := by obtain ⟨_, e, _⟩ := hl; exact Heap.lt_size e
  refine wpAny_pyIter_tuple hl (h _ rfl ⟨⟨_, Heap.get?_push_size _ rfl, rfl, rfl⟩, hl.push _⟩ (fun b hb => ?_) (Nat.ne_of_lt hlt))
  show b < (s.heap.push _).objs.size
  rw [Heap.size_push]
  rcases List.mem_cons.mp hb with rfl | hb
  · exact Nat.lt_succ_self _
  · rcases List.mem_cons.mp hb with rfl | hb
    · exact Nat.lt_succ_of_lt hlt
    · exact absurd hb (by simp)
theorem kept_old {s : Shared} {o : Obj} {h' : Heap} (hk : ∀ b u, b ∉ [s.heap.objs.size] → (s.heap.push o).get? b = some u → h'.get? b = some u) : ∀ b u, s.heap.get? b = some u → h'.get? b = some u := fun b u e =>
  hk b u (by simp; exact Nat.ne_of_lt (Heap.lt_size e)) (Heap.get?_push_of_some _ e)
theorem sum_intTup {Q : Value → Shared → Prop} (hh : A.handled = none) (hl : s.heap.IsTuple l (intItems xs))
    (h : ∀ h' tk t', (∀ b o, s.heap.get? b = some o → h'.get? b = some o) → Q (.int (preSum (numAt xs) xs.size) t') { s with heap := h', toks := tk }) :
    wpAny (model prog w) A (call (.builtin "sum") [.ref l]) Q E s := by
  refine call_sum_walkG (iter_intTup hl fun s₂ e st hfp hlI => ?_)
  subst e
  refine ⟨_, _, _, _, _, _, numAt xs, rfl, Walks.tuple (A := A.in1) hh _ l hlI (intItems xs), st, hfp, (fun _ _ => intItems_at), fun h' tk t' hk => ?_⟩
  have := h h' tk t' (kept_old hk)
  simpa [intItems] using this
theorem min_intTup {Q : Value → Shared → Prop} (hh : A.handled = none) (hl : s.heap.IsTuple l (intItems xs)) (hne : 0 < xs.size)
    (h : ∀ v h' tk, (intItems xs)[argBest (fun i j => decide (numAt xs i < numAt xs j)) (xs.size - 1)]? = some v → (∀ b o, s.heap.get? b = some o → h'.get? b = some o) → Q v { s with heap := h', toks := tk }) :
    wpAny (model prog w) A (call (.builtin "min") [.ref l]) Q E s := by
  refine call_min_walk (iter_intTup hl fun s₂ e st hfp hlI => ?_)
  subst e
  refine ⟨_, _, _, _, _, _, _, rfl, Walks.tuple (A := A.in1) hh _ l hlI (intItems xs), st, hfp, by simpa [intItems] using hne, CmpOf.ints_lt (numAt xs) (fun _ _ => intItems_at), fun v h' tk hP hk => ?_⟩
  exact h v h' tk (by simpa [intItems] using hP) (kept_old hk)
theorem max_intTup {Q : Value → Shared → Prop} (hh : A.handled = none) (hl : s.heap.IsTuple l (intItems xs)) (hne : 0 < xs.size)
    (h : ∀ v h' tk, (intItems xs)[argBest (fun i j => decide (numAt xs i > numAt xs j)) (xs.size - 1)]? = some v → (∀ b o, s.heap.get? b = some o → h'.get? b = some o) → Q v { s with heap := h', toks := tk }) :
    wpAny (model prog w) A (call (.builtin "max") [.ref l]) Q E s := by
  refine call_max_walk (iter_intTup hl fun s₂ e st hfp hlI => ?_)
  subst e
  refine ⟨_, _, _, _, _, _, _, rfl, Walks.tuple (A := A.in1) hh _ l hlI (intItems xs), st, hfp, by simpa [intItems] using hne, CmpOf.ints_gt (numAt xs) (fun _ _ => intItems_at), fun v h' tk hP hk => ?_⟩
  exact h v h' tk (by simpa [intItems] using hP) (kept_old hk)
end
section
variable {X : Cx}
def rSumT (K : PySem.W.Frag) : List V → Hp → VK → Prop := fun vs H Q => ∃ (a : Addr) (ns : List Int), vs = [V.ref a] ∧ SqT K H a (ns.map V.int) ∧ Q (.int ns.sum) H
def rMinT (K : PySem.W.Frag) : List V → Hp → VK → Prop := fun vs H Q => ∃ (a : Addr) (ns : List Int), vs = [V.ref a] ∧ SqT K H a (ns.map V.int) ∧ 0 < ns.length ∧ ∀ m, m ∈ ns → (∀ y, y ∈ ns → m ≤ y) → Q (.int m) H
def rMaxT (K : PySem.W.Frag) : List V → Hp → VK → Prop := fun vs H Q => ∃ (a : Addr) (ns : List Int), vs = [V.ref a] ∧ SqT K H a (ns.map V.int) ∧ 0 < ns.length ∧ ∀ m, m ∈ ns → (∀ y, y ∈ ns → y ≤ m) → Q (.int m) H
theorem tupItems {pins : List (Addr × Obj)} {σ : L2.St} {H : Hp} {s : Shared} {a : Addr} {ns : List Int} (I : Inv X pins σ H s) (hs : SqT X.K H a (ns.map V.int)) : ∃ xs : Array (Int × Tok), s.heap.IsTuple a (intItems xs) ∧ (xs.toList.map (·.1)) = ns := by
  obtain ⟨its, rv, p2, hz⟩ := I.tuple hs
  obtain ⟨xs, e⟩ := rv.ints.allInts.items
  have hn : numsOf (intItems xs).toList = ns := by rw [← e]; exact rv.ints.numsOf
  rw [nums_intItems] at hn
  refine ⟨xs, ?_, hn⟩
  rw [← e]
  obtain ⟨o, h1, h2, h3⟩ := p2
  exact ⟨o, h1, h2, h3⟩
theorem cr_sumT (hc : X.calm = true) : CallR X (.builtin "sum") (rSumT X.K) := by
  intro pins s σ H vs us Q I r h
  obtain ⟨a, ns, rfl, hs, q⟩ := h
  obtain ⟨xs, ht, rfl⟩ := tupItems I hs
  rw [Vals.ref1 r]
  refine sum_intTup (I.ok.hd hc) ht fun h' tk t' hk => ⟨.int _, H, I.kept hk, ⟨_, rfl⟩, ?_⟩
  rw [preSum_eq, List.take_of_length_le (by simp)]
  exact q
theorem cr_minT (hc : X.calm = true) : CallR X (.builtin "min") (rMinT X.K) := by
  intro pins s σ H vs us Q I r h
  obtain ⟨a, ns, rfl, hs, hne, q⟩ := h
  obtain ⟨xs, ht, rfl⟩ := tupItems I hs
  rw [Vals.ref1 r]
  have hsz : 0 < xs.size := by simpa using hne
  refine min_intTup (I.ok.hd hc) ht hsz fun v h' tk hv hk => ?_
  obtain ⟨t, rfl⟩ := intItems_at hv
  obtain ⟨h1, h2⟩ := argBest_lt (numAt xs) (xs.size - 1)
  generalize argBest (fun i j => decide (numAt xs i < numAt xs j)) (xs.size - 1) = b at h1 h2
  have num : ∀ j, (hj : j < xs.size) → numAt xs j = xs[j].1 := fun j hj => by simp [numAt, hj]
  refine ⟨.int _, H, I.kept hk, ⟨_, rfl⟩, q _ ?_ fun y hy => ?_⟩
  · rw [num b (by omega)]
    exact List.mem_map.mpr ⟨_, Array.getElem_mem_toList (by omega), rfl⟩
  · obtain ⟨z, hz, rfl⟩ := List.mem_map.mp hy
    obtain ⟨j, hj, e⟩ := List.getElem_of_mem hz
    have hj' : j < xs.size := by simpa using hj
    have := h2 j (by omega)
    rw [num j hj'] at this
    have e2 : xs[j] = z := by rw [← e]; simp
    rw [e2] at this
    exact this
theorem cr_maxT (hc : X.calm = true) : CallR X (.builtin "max") (rMaxT X.K) := by
  intro pins s σ H vs us Q I r h
  obtain ⟨a, ns, rfl, hs, hne, q⟩ := h
  obtain ⟨xs, ht, rfl⟩ := tupItems I hs
  rw [Vals.ref1 r]
  have hsz : 0 < xs.size := by simpa using hne
  refine max_intTup (I.ok.hd hc) ht hsz fun v h' tk hv hk => ?_
  obtain ⟨t, rfl⟩ := intItems_at hv
  obtain ⟨h1, h2⟩ := argBest_gt (numAt xs) (xs.size - 1)
  generalize argBest (fun i j => decide (numAt xs i > numAt xs j)) (xs.size - 1) = b at h1 h2
  have num : ∀ j, (hj : j < xs.size) → numAt xs j = xs[j].1 := fun j hj => by simp [numAt, hj]
  refine ⟨.int _, H, I.kept hk, ⟨_, rfl⟩, q _ ?_ fun y hy => ?_⟩
  · rw [num b (by omega)]
    exact List.mem_map.mpr ⟨_, Array.getElem_mem_toList (by omega), rfl⟩
  · obtain ⟨z, hz, rfl⟩ := List.mem_map.mp hy
    obtain ⟨j, hj, e⟩ := List.getElem_of_mem hz
    have hj' : j < xs.size := by simpa using hj
    have := h2 j (by omega)
    rw [num j hj'] at this
    have e2 : xs[j] = z := by rw [← e]; simp
    rw [e2] at this
    exact this
theorem call_repr_bl : CallR X (.builtin "repr") (fun xs H Q => ∃ b : Bool, xs = [.bl b] ∧ Q (.str (if b then "True" else "False")) H) := by
  intro pins s σ H xs us Q I r h
  obtain ⟨b, rfl, q⟩ := h
  obtain ⟨u, rfl, ru⟩ := vals1 r
  obtain rfl : u = Value.bool b := ru
  exact PySem.P.repr_of_bool ⟨.str _, H, I.tok _, ⟨_, rfl⟩, q⟩
end
/-! ### t[::-1] -/
section
variable {prog : Program} {w : World} {A : Around} {E : Value → Shared → Prop} {s : Shared}
open HT in
theorem sliceApplied_rev {sl : Addr} {vl vu : Value} {k : Tok} {n : Nat} {Q : Int × Int × Nat → Shared → Prop} (hs : s.heap.IsSliceOf sl vl vu (.int (-1) k)) (pl : IsPart vl none) (pu : IsPart vu none)
    (h : Q ((n : Int) - 1, -1, n) s) : wpAny (model prog w) A (Builtin.Slice.sliceApplied (.ref sl) (pure (n : Int))) Q E s := by
  obtain ⟨os, hos, hcs, hds⟩ := id hs
  unfold Builtin.Slice.sliceApplied Builtin.Slice.sliceFields
  refine wpAny_bind (wpAny_bind (wpAny_field hos hds (x := vl) rfl (wpAny_bind (wpAny_field hos hds (x := vu) rfl (wpAny_bind (wpAny_field hos hds (x := .int (-1) k) rfl (wpAny_pure ?_)))))))
  refine wpAny_bind (slicePart_int ?_)
  show wpAny _ _ (if ((-1 : Int) == 0) = true then _ else _) _ _ s
  rw [if_neg (by decide)]
  refine wpAny_bind (slicePart_ pl (wpAny_bind (slicePart_ pu (wpAny_bind (wpAny_pure ?_)))))
  show wpAny _ _ (match Builtin.Slice.sliceAdjust none none (-1) (n : Int) with | (lo, hi) => pure (lo, (-1 : Int), Builtin.Slice.slicePlaces lo hi (-1))) _ _ s
  have e1 : Builtin.Slice.sliceAdjust none none (-1) (n : Int) = ((n : Int) - 1, -1) := by
    unfold Builtin.Slice.sliceAdjust
    simp
  rw [e1]
  have e2 : Builtin.Slice.slicePlaces ((n : Int) - 1) (-1) (-1) = n := by
    unfold Builtin.Slice.slicePlaces
    rw [if_neg (by decide)]
    by_cases h0 : (n : Int) - 1 > -1
    · rw [if_pos h0]
      have : ((n : Int) - 1 - -1 - 1) / (- -1) + 1 = (n : Int) := by
        show ((n : Int) - 1 - -1 - 1) / 1 + 1 = _
        rw [Int.ediv_one]
        omega
      first
        | (rw [this]; exact Int.toNat_natCast _)
        | omega
    · rw [if_neg h0]
      omega
  show wpAny _ _ (pure ((n : Int) - 1, (-1 : Int), Builtin.Slice.slicePlaces ((n : Int) - 1) (-1) (-1))) _ _ s
  rw [e2]
  exact wpAny_pure h
open HT in
theorem getItem_tuple_rev {t sl : Addr} {items : Array Value} {vl vu : Value} {k : Tok} {Q : Value → Shared → Prop} (ht : IsTup s.heap t items) (hs : s.heap.IsSliceOf sl vl vu (.int (-1) k)) (pl : IsPart vl none) (pu : IsPart vu none)
    (h : Q (.ref s.heap.objs.size) { s with heap := s.heap.push { cls := .type "tuple", data := .seq items.toList.reverse.toArray } })
    (hsz : items.size ≤ sizeLine) : wpAny (model prog w) A (getItem (.ref t) (.ref sl)) Q E s := by
  have htake : sizeOk (.seq items.toList.reverse.toArray) := by
    show items.toList.reverse.toArray.size ≤ sizeLine
    rw [List.size_toArray, List.length_reverse, Array.length_toList]
    exact hsz
  obtain ⟨os, hos, hcs, hds⟩ := id hs
  have hTs : s.TypeIs (.ref sl) "slice" := ⟨os, hos, hcs⟩
  unfold getItem
  try with_reducible refine wpAny_holding ?_
  first | refine wpAny_bind (wpAny_pure ?_) | skip
  refine wpAny_bind (wpAny_sequenceKey ht.typeIs (by decide) ?_)
  refine wpAny_bind (wpAny_callSpecial?_slot (name := Str.ofString "__getitem__") ht.typeIs PyProof.Rows.slot_tuple_getitem
    (wpAny_call_entry PyProof.Rows.slot_tuple_getitem ht.typeIs entry_tuple_getitem ?_ (args_tuple_getitem _ _)))
  show wpAny _ _ (Builtin.Tuple.tupleItemsOf (.ref t) >>= _) _ _ s
  refine wpAny_bind (tupleItemsOf_ ht ?_)
  refine wpAny_bind (wpAny_typeOf hTs ?_)
  rw [if_pos (by decide)]
  refine wpAny_bind (sliceApplied_rev hs pl pu ?_)
  have hno : ¬ ((((items.size : Int) - 1) == 0 && (-1 : Int) == 1 && items.size == items.size) = true) := by
    intro q
    rw [Bool.and_eq_true, Bool.and_eq_true] at q
    exact absurd q.1.2 (by decide)
  show wpAny _ _ (if (((items.size : Int) - 1) == 0 && (-1 : Int) == 1 && items.size == items.size) = true then _ else _) _ _ s
  have pk : ((List.range items.size).filterMap fun (m : Nat) => items[(((items.size : Int) - 1) + (m : Int) * (-1)).toNat]?).toArray = items.toList.reverse.toArray := by
    congr 1
    have fm : ∀ (f : Nat → Option Value) (g : Nat → Value) (l : List Nat), (∀ x ∈ l, f x = some (g x)) → l.filterMap f = l.map g := by
      intro f g l
      induction l with
      | nil => intro _; rfl
      | cons a l ih =>
        intro h
        rw [List.filterMap_cons_some (h a (List.mem_cons_self ..)), List.map_cons, ih fun x hx => h x (List.mem_cons_of_mem _ hx)]
    rw [fm _ (fun m => items.toList.reverse.getD m .none) _ fun m hm => ?_]
    · apply List.ext_getElem?
      intro i
      rw [List.getElem?_map]
      by_cases hi : i < items.size
      · rw [List.getElem?_range hi]
        have hl : i < items.toList.reverse.length := by rw [List.length_reverse, Array.length_toList]; exact hi
        rw [List.getElem?_eq_getElem hl]
        show some (items.toList.reverse.getD i .none) = _
        rw [List.getD_eq_getElem?_getD, List.getElem?_eq_getElem hl]
        rfl
      · rw [List.getElem?_eq_none (by rw [List.length_range]; omega), List.getElem?_eq_none (by rw [List.length_reverse, Array.length_toList]; omega)]
        rfl
    · have hm' : m < items.size := List.mem_range.mp hm
      have e : (((items.size : Int) - 1) + (m : Int) * (-1)).toNat = items.size - 1 - m := by omega
      show items[(((items.size : Int) - 1) + (m : Int) * (-1)).toNat]? = _
      rw [e]
      have hl : m < items.toList.reverse.length := by rw [List.length_reverse, Array.length_toList]; exact hm'
      rw [List.getD_eq_getElem?_getD, List.getElem?_eq_getElem hl, List.getElem_reverse, Option.getD_some]
      rw [Array.getElem?_eq_getElem (by omega)]
      simp
  rw [if_neg hno, pk]
  first
    | exact wpAny_bind (m := Builtin.Tuple.tupleExact _) (wpAny_newObj_type (wpAny_pure ⟨_, rfl, wpAny_pure h⟩) htake)
    | exact wpAny_bind (m := Builtin.Tuple.tupleExact _) (wpAny_newObj_type (wpAny_bind (wpAny_pure (wpAny_pure ⟨_, rfl, wpAny_pure h⟩))) htake)
    | exact wpAny_bind (wpAny_bind (m := Builtin.Tuple.tupleExact _) (wpAny_newObj_type (wpAny_pure (wpAny_pure ⟨_, rfl, wpAny_pure h⟩)) htake))
    | exact wpAny_bind (wpAny_bind (m := Builtin.Tuple.tupleExact _) (wpAny_newObj_type (wpAny_pure ⟨_, rfl, wpAny_pure h⟩) htake))
end
section
variable {X : Cx}
def tRevT (K : PySem.W.Frag) (te : TE) : TE := fun σ H Q => te σ H fun x H1 => ∃ a xs, x = .ref a ∧ SqT K H1 a xs ∧ ∀ p, H1 p = none → Q (.ref p) (upd H1 p (.tup xs.reverse))
theorem pe_revT {e : Expr} {te : TE} {k : Nat} {p1 p2 p3 pos : Pos} (he : PE X e te) : PE X (.Subscript e (.Slice none none (some (.UnaryOp .USub (.Constant (.int 1) k p1) p2)) p3) pos) (tRevT X.K te) := by
  refine ⟨fun pins s σ H Q I h => ?_⟩
  refine Subscript_ (thn (he.run pins s σ H _ I h) fun v s1 ⟨x, H1, I1, r1, q1⟩ => ?_)
  obtain ⟨a, xs, ex, hx, q⟩ := q1
  subst ex
  cases r1
  have hst : PO X (some (.UnaryOp .USub (.Constant (.int 1) k p1) p2)) (tPart (tUn (rU fun i => .int (-i)) (tC (.int 1)))) := po_some (pe_un un_neg pe_int)
  refine wpAny_Slice (thn (po_none.run pins s1 σ H1 (fun o H2 => o = none ∧ H2 = H1) I1 ⟨rfl, rfl⟩) fun vl s2 ⟨l, H2, I2, pl, el, e2⟩ => ?_)
  subst el e2
  refine thn (po_none.run pins s2 σ H2 (fun o H3 => o = none ∧ H3 = H2) I2 ⟨rfl, rfl⟩) fun vu s3 ⟨u, H3, I3, pu, eu, e3⟩ => ?_
  subst eu e3
  refine thn (hst.run pins s3 σ H3 (fun o H4 => o = some (-1) ∧ H4 = H3) I3 ⟨1, rfl, -1, rfl, rfl, rfl⟩) fun vs s4 ⟨o, H4, I4, ps, eo, e4⟩ => ?_
  subst eo e4
  have I5 : Inv X pins σ H4 { s4 with heap := s4.heap.push { cls := .type "slice", data := .fields #[vl, vu, vs] } } := I4.kept (t' := s4.toks) fun b ob q => Heap.get?_push_of_some _ q
  obtain ⟨its, r, ht, hz⟩ := I5.tuple hx
  have hlen := r.length
  show wpAny (model X.prog X.w) X.A (subscriptTail e (.Slice none none (some (.UnaryOp .USub (.Constant (.int 1) k p1) p2)) p3) (.ref a) (.ref s4.heap.objs.size)) (EP X pins σ Q) X.xe { s4 with heap := s4.heap.push { cls := .type "slice", data := .fields #[vl, vu, vs] } }
  refine tail_any (ops := [.ref a, .ref s4.heap.objs.size]) ht.typeIs (PyProof.Rows.slot_tuple_getitem.lookup) ?_ (by with_unfolding_all rfl)
  cases ps with
  | int i k =>
    refine getItem_tuple_rev ht (Heap.IsSliceOf.new _ vl vu (.int (-1) k)) pl pu ?_ (by rw [List.size_toArray]; omega)
    refine ⟨.ref _, _, I5.laid (t' := s4.toks) (o := .tup xs.reverse) (fun b ob q => Heap.get?_push_of_some _ q) (Nat.le_refl _) ?_, rfl, q _ (I5.hok.fresh (Nat.le_refl _))⟩
    exact ⟨by rw [List.length_reverse]; exact hz, _, r.reverse, IsTup.new _ _⟩
end
/-- a number of the module, by its name -/
theorem pe_gint {X : Cx} {x : Str} {i : Int} {pos : Pos} (hg : Gl X x) (hm : ∃ t, X.mg x = some (.int i t)) (hd : (x == ("__debug__" : Str)) = false := by decide) : PE X (.Name x pos) (tC (.int i)) := by
  obtain ⟨t, hm⟩ := hm
  exact pe_glob hg hm ⟨t, rfl⟩ hd
abbrev rReprB : List V → Hp → VK → Prop := fun xs H Q => ∃ b : Bool, xs = [.bl b] ∧ Q (.str (if b then "True" else "False")) H
end HR3

/-! Values as data: what a def computes, with no heap in sight, and that its reading follows. -/
namespace VM
open PySem PySem.Spec PyProof.Rows L2 Evl HG HL
inductive D where
  | non | bl (b : Bool) | int (i : Int) | str (s : Str)
  | tup (xs : List D) | lst (xs : List D) | dic (kvs : List (Key × D))
  | ty (n : String) | deck
/-- an error: its class, what it carries -/
structure XV where
  cls : String
  args : List D
abbrev M (α : Type) := (α → Prop) → (XV → Prop) → Prop
section
variable {α β : Type}
abbrev ret (a : α) : M α := fun Q _ => Q a
abbrev bnd (m : M α) (k : α → M β) : M β := fun Q E => m (fun a => k a Q E) E
abbrev bad : M α := fun _ _ => False
abbrev need (p : Prop) (m : M α) : M α := fun Q E => p ∧ m Q E
end
inductive Cell where
  | un | fz (x : D) | ow (x : D)
abbrev Env := List Cell
/-! ### a value stands for data -/
/-- a tuple that stands, or one of the written part -/
def TuA (K : PySem.W.Frag) (H : Hp) (a : Addr) (vs : List V) : Prop := H a = some (.tup vs) ∨
  ∃ (o : Obj) (its : Array Value) (n : Nat), K.lookup a = some o ∧ o.cls = .type "tuple" ∧ o.data = .seq its n ∧ its.size ≤ sizeLine ∧ Vals vs its.toList
theorem TuA.sq {K : PySem.W.Frag} {H : Hp} {a : Addr} {vs : List V} (h : TuA K H a vs) : SqT K H a vs := h.elim st_of .inr
theorem TuA.up {K : PySem.W.Frag} {H H1 : Hp} {a : Addr} {vs : List V} (e : Ex H H1) (h : TuA K H a vs) : TuA K H1 a vs := h.elim (fun h => .inl (e _ _ h)) .inr
section
variable (K : PySem.W.Frag) (dk : Addr) (H : Hp)
mutual
inductive Rp : V → D → Prop
  | non : Rp .non .non
  | bl (b : Bool) : Rp (.bl b) (.bl b)
  | int (i : Int) : Rp (.int i) (.int i)
  | str (x : Str) : Rp (.str x) (.str x)
  | ty (n : String) : Rp (.ty n) (.ty n)
  | tup {a : Addr} {vs : List V} {xs : List D} : TuA K H a vs → RpA vs xs → Rp (.ref a) (.tup xs)
  | lst {a : Addr} {vs : List V} {xs : List D} : H a = some (.lst vs) → RpA vs xs → Rp (.ref a) (.lst xs)
  | dic {a : Addr} {vs : List (Key × V)} {xs : List (Key × D)} : H a = some (.dK vs) → RpK vs xs → Rp (.ref a) (.dic xs)
  | deck : Rp (.ref dk) .deck
inductive RpA : List V → List D → Prop
  | nil : RpA [] []
  | cons {v : V} {vs : List V} {x : D} {xs : List D} : Rp v x → RpA vs xs → RpA (v :: vs) (x :: xs)
inductive RpK : List (Key × V) → List (Key × D) → Prop
  | nil : RpK [] []
  | cons {k : Key} {v : V} {vs : List (Key × V)} {x : D} {xs : List (Key × D)} : Rp v x → RpK vs xs → RpK ((k, v) :: vs) ((k, x) :: xs)
end
end
section
variable {K : PySem.W.Frag} {dk : Addr} {H H1 : Hp}
mutual
theorem Rp.up (e : Ex H H1) : ∀ {v : V} {x : D}, Rp K dk H v x → Rp K dk H1 v x
  | _, _, .non => .non
  | _, _, .bl b => .bl b
  | _, _, .int i => .int i
  | _, _, .str x => .str x
  | _, _, .ty n => .ty n
  | _, _, .tup h1 h2 => .tup (h1.up e) (RpA.up e h2)
  | _, _, .lst h1 h2 => .lst (e _ _ h1) (RpA.up e h2)
  | _, _, .dic h1 h2 => .dic (e _ _ h1) (RpK.up e h2)
  | _, _, .deck => .deck
theorem RpA.up (e : Ex H H1) : ∀ {vs : List V} {xs : List D}, RpA K dk H vs xs → RpA K dk H1 vs xs
  | _, _, .nil => .nil
  | _, _, .cons h1 h2 => .cons (Rp.up e h1) (RpA.up e h2)
theorem RpK.up (e : Ex H H1) : ∀ {vs : List (Key × V)} {xs : List (Key × D)}, RpK K dk H vs xs → RpK K dk H1 vs xs
  | _, _, .nil => .nil
  | _, _, .cons h1 h2 => .cons (Rp.up e h1) (RpK.up e h2)
end
theorem RpA.len {vs : List V} : ∀ {xs : List D}, RpA K dk H vs xs → vs.length = xs.length := by
  induction vs with
  | nil => intro xs h; cases h; rfl
  | cons v vs ih => intro xs h; cases h with | cons h1 h2 => rw [List.length_cons, List.length_cons, ih h2]
theorem RpK.len {vs : List (Key × V)} : ∀ {xs : List (Key × D)}, RpK K dk H vs xs → vs.length = xs.length := by
  induction vs with
  | nil => intro xs h; cases h; rfl
  | cons v vs ih => intro xs h; cases h with | cons h1 h2 => rw [List.length_cons, List.length_cons, ih h2]
theorem RpA.get {vs : List V} : ∀ {xs : List D} {i : Nat} {v : V}, RpA K dk H vs xs → vs[i]? = some v → ∃ x, xs[i]? = some x ∧ Rp K dk H v x := by
  induction vs with
  | nil => intro xs i v h e; simp at e
  | cons w vs ih =>
    intro xs i v h e
    cases h with
    | cons h1 h2 =>
      cases i with
      | zero => simp at e; subst e; exact ⟨_, rfl, h1⟩
      | succ i => obtain ⟨x, a, b⟩ := ih (i := i) h2 (by simpa using e); exact ⟨x, by simpa using a, b⟩
theorem RpA.gets {vs : List V} : ∀ {xs : List D} {i : Nat} {x : D}, RpA K dk H vs xs → xs[i]? = some x → ∃ v, vs[i]? = some v ∧ Rp K dk H v x := by
  induction vs with
  | nil => intro xs i v h e; cases h; simp at e
  | cons w vs ih =>
    intro xs i v h e
    cases h with
    | cons h1 h2 =>
      cases i with
      | zero => simp at e; subst e; exact ⟨_, rfl, h1⟩
      | succ i => obtain ⟨x, a, b⟩ := ih (i := i) h2 (by simpa using e); exact ⟨x, by simpa using a, b⟩
theorem RpA.append {vs ws : List V} {ys : List D} (g : RpA K dk H ws ys) : ∀ {xs : List D}, RpA K dk H vs xs → RpA K dk H (vs ++ ws) (xs ++ ys) := by
  induction vs with
  | nil => intro xs h; cases h; exact g
  | cons v vs ih => intro xs h; cases h with | cons h1 h2 => exact .cons h1 (ih h2)
theorem RpA.one {v : V} {x : D} (h : Rp K dk H v x) : RpA K dk H [v] [x] := .cons h .nil
theorem RpA.snoc {vs : List V} {xs : List D} {v : V} {x : D} (h : RpA K dk H vs xs) (g : Rp K dk H v x) : RpA K dk H (vs ++ [v]) (xs ++ [x]) := RpA.append (.one g) h
theorem RpA.reverse {vs : List V} : ∀ {xs : List D}, RpA K dk H vs xs → RpA K dk H vs.reverse xs.reverse := by
  induction vs with
  | nil => intro xs h; cases h; exact .nil
  | cons v vs ih => intro xs h; cases h with | cons h1 h2 => rw [List.reverse_cons, List.reverse_cons]; exact (ih h2).snoc h1
theorem RpA.take {vs : List V} : ∀ {xs : List D} (n : Nat), RpA K dk H vs xs → RpA K dk H (vs.take n) (xs.take n) := by
  induction vs with
  | nil => intro xs n h; cases h; simp; exact .nil
  | cons v vs ih =>
    intro xs n h
    cases h with
    | cons h1 h2 =>
      cases n with
      | zero => simp; exact .nil
      | succ n => simp; exact .cons h1 (ih n h2)
theorem RpA.drop {vs : List V} : ∀ {xs : List D} (n : Nat), RpA K dk H vs xs → RpA K dk H (vs.drop n) (xs.drop n) := by
  induction vs with
  | nil => intro xs n h; cases h; simp; exact .nil
  | cons v vs ih =>
    intro xs n h
    cases h with
    | cons h1 h2 =>
      cases n with
      | zero => simp; exact .cons h1 h2
      | succ n => simp; exact ih n h2
theorem RpA.set {vs : List V} {v : V} {x : D} (g : Rp K dk H v x) : ∀ {xs : List D} (n : Nat), RpA K dk H vs xs → RpA K dk H (vs.set n v) (xs.set n x) := by
  induction vs with
  | nil => intro xs n h; cases h; simp; exact .nil
  | cons w vs ih =>
    intro xs n h
    cases h with
    | cons h1 h2 =>
      cases n with
      | zero => simp; exact .cons g h2
      | succ n => simp; exact .cons h1 (ih n h2)
theorem RpA.rep {vs : List V} {xs : List D} (h : RpA K dk H vs xs) : ∀ n : Nat, RpA K dk H (List.replicate n vs).flatten (List.replicate n xs).flatten
  | 0 => .nil
  | n + 1 => by rw [List.replicate_succ, List.replicate_succ, List.flatten_cons, List.flatten_cons]; exact (RpA.rep h n).append h
theorem RpA.ints {vs : List V} : ∀ {ns : List Int}, RpA K dk H vs (ns.map D.int) → vs = ns.map V.int := by
  induction vs with
  | nil => intro ns h; cases ns with | nil => rfl | cons n ns => cases h
  | cons v vs ih => intro ns h; cases ns with | nil => cases h | cons n ns => cases h with | cons h1 h2 => cases h1; rw [List.map_cons, ih h2]
theorem RpA.bls {vs : List V} : ∀ {ns : List Bool}, RpA K dk H vs (ns.map D.bl) → vs = ns.map V.bl := by
  induction vs with
  | nil => intro ns h; cases ns with | nil => rfl | cons n ns => cases h
  | cons v vs ih => intro ns h; cases ns with | nil => cases h | cons n ns => cases h with | cons h1 h2 => cases h1; rw [List.map_cons, ih h2]
theorem RpA.ofInts : ∀ ns : List Int, RpA K dk H (ns.map V.int) (ns.map D.int)
  | [] => .nil
  | n :: ns => .cons (.int n) (RpA.ofInts ns)
end
/-! ### the frame: what is known, what may not change -/
structure G where
  K : PySem.W.Frag
  /-- the deck stands -/
  ok : Hp → Addr → Addr → Prop
  up : ∀ {H H1 : Hp} {d l : Addr}, ok H d l → (∀ o, H d = some o → H1 d = some o) → (∀ o, H l = some o → H1 l = some o) → ok H1 d l
  dom : ∀ {H : Hp} {d l : Addr}, ok H d l → H d ≠ none ∧ H l ≠ none
  /-- an error as it is raised -/
  xr : XV → Value → Option Addr → Addr → Hp → Hp → Prop
structure Fr where
  E0 : Hp
  He : Hp
  d : Addr
  l : Addr
structure Fm (g : G) (f : Fr) (H0 H : Hp) : Prop where
  ex : Ex H0 H
  ok : g.ok H f.d f.l
  nd : H0 f.d = none
  nl : H0 f.l = none
  e0 : Ex f.E0 H0
  new : ∀ a o, H0 a = some o → f.E0 a = some o ∨ f.He a = none
  keep : ∀ a o, a ≠ f.d → a ≠ f.l → f.He a = some o → H a = some o
  dom : f.He f.d ≠ none ∧ f.He f.l ≠ none
/-- an object that is owned by a name -/
def ObjR (g : G) (f : Fr) (H0 : Hp) (o : HO) : D → Prop
  | .lst xs => ∃ vs, o = .lst vs ∧ RpA g.K f.d H0 vs xs
  | .dic xs => ∃ vs, o = .dK vs ∧ RpK g.K f.d H0 vs xs
  | _ => False
structure Ow (g : G) (f : Fr) (H0 H : Hp) (a : Addr) (x : D) : Prop where
  n0 : H0 a = none
  ne : f.He a = none
  ob : ∃ o, H a = some o ∧ ObjR g f H0 o x
def CellOk (g : G) (f : Fr) (H0 H : Hp) (s : Option (Option V)) : Cell → Prop
  | .un => True
  | .fz x => ∃ v, s = some (some v) ∧ Rp g.K f.d H0 v x
  | .ow x => ∃ a, s = some (some (.ref a)) ∧ Ow g f H0 H a x
structure Rel (g : G) (f : Fr) (H0 H : Hp) (σ : L2.St) (env : Env) : Prop where
  fm : Fm g f H0 H
  len : σ.length = env.length
  cells : ∀ (i : Nat) (c : Cell), env[i]? = some c → CellOk g f H0 H σ[i]? c
  dist : ∀ (i j : Nat) (a : Addr) (x y : D), i ≠ j → σ[i]? = some (some (.ref a)) → σ[j]? = some (some (.ref a)) → env[i]? = some (.ow x) → env[j]? = some (.ow y) → False
section
variable {g : G} {f : Fr} {H0 H H1 H01 : Hp} {σ : L2.St} {env : Env}
theorem ObjR.up {o : HO} : ∀ {x : D}, Ex H0 H01 → ObjR g f H0 o x → ObjR g f H01 o x
  | .lst xs, e, ⟨vs, a, b⟩ => ⟨vs, a, b.up e⟩
  | .dic xs, e, ⟨vs, a, b⟩ => ⟨vs, a, b.up e⟩
  | .non, _, h => h.elim
  | .bl _, _, h => h.elim
  | .int _, _, h => h.elim
  | .str _, _, h => h.elim
  | .tup _, _, h => h.elim
  | .ty _, _, h => h.elim
  | .deck, _, h => h.elim
theorem Fm.fresh {p : Addr} (F : Fm g f H0 H) (hp : H p = none) : f.He p = none ∧ p ≠ f.d ∧ p ≠ f.l ∧ H0 p = none := by
  have a : p ≠ f.d := fun z => (g.dom F.ok).1 (z ▸ hp)
  have b : p ≠ f.l := fun z => (g.dom F.ok).2 (z ▸ hp)
  refine ⟨?_, a, b, fresh_back F.ex hp⟩
  cases h : f.He p with
  | none => rfl
  | some o =>
    rw [F.keep p o a b h] at hp
    cases hp
/-- the heap of the others changes not -/
theorem Fm.to {H0' H' : Hp} (F : Fm g f H0 H) (F2 : Fm g ⟨H0, H, f.d, f.l⟩ H0' H') : Fm g f H0' H' where
  ex := F2.ex
  ok := F2.ok
  nd := F2.nd
  nl := F2.nl
  e0 := F.e0.trans F2.e0
  new := fun a o h => by
    rcases F2.new a o h with h | h
    · exact F.new a o h
    · exact Or.inr (F.fresh h).1
  keep := fun a o h1 h2 h => F2.keep a o h1 h2 (F.keep a o h1 h2 h)
  dom := F.dom
theorem Fm.base (F : Fm g f H0 H) : Fm g ⟨H0, H, f.d, f.l⟩ H0 H where
  ex := F.ex
  ok := F.ok
  nd := F.nd
  nl := F.nl
  e0 := Ex.refl _
  new := fun a o h => Or.inl h
  keep := fun a o _ _ h => h
  dom := g.dom F.ok
theorem Ow.nd (F : Fm g f H0 H) {a : Addr} {x : D} (h : Ow g f H0 H a x) : a ≠ f.d ∧ a ≠ f.l := ⟨fun z => F.dom.1 (z ▸ h.ne), fun z => F.dom.2 (z ▸ h.ne)⟩
/-- from one heap to a later one -/
theorem Rel.step {H0' H' : Hp} (R : Rel g f H0 H σ env) (F2 : Fm g ⟨H0, H, f.d, f.l⟩ H0' H') : Rel g f H0' H' σ env where
  fm := R.fm.to F2
  len := R.len
  cells := fun i c h => by
    have q := R.cells i c h
    cases c with
    | un => trivial
    | fz x => obtain ⟨v, a, b⟩ := q; exact ⟨v, a, b.up F2.e0⟩
    | ow x =>
      obtain ⟨a, e, w⟩ := q
      refine ⟨a, e, ?_, w.ne, ?_⟩
      · cases z : H0' a with
        | none => rfl
        | some o =>
          rcases F2.new a o z with y | y
          · have := w.n0
            rw [show H0 a = some o from y] at this; cases this
          · obtain ⟨o2, h2, _⟩ := w.ob
            rw [show H a = none from y] at h2; cases h2
      · obtain ⟨o, h1, h2⟩ := w.ob
        have nd := w.nd R.fm
        exact ⟨o, F2.keep a o nd.1 nd.2 h1, h2.up F2.e0⟩
  dist := R.dist
/-- a new object, known from now on -/
theorem Fm.put {p : Addr} {o : HO} (F : Fm g f H0 H) (hp : H p = none) : Fm g ⟨H0, H, f.d, f.l⟩ (upd H0 p o) (upd H p o) := by
  obtain ⟨a, b, c, d⟩ := F.fresh hp
  exact {
    ex := fun x u h => by
      by_cases q : x = p
      · subst q; rw [upd_same] at h ⊢; exact h
      · rw [upd_ne q] at h ⊢; exact F.ex x u h
    ok := g.up F.ok (fun o h => by rw [upd_ne (Ne.symm b)]; exact h) (fun o h => by rw [upd_ne (Ne.symm c)]; exact h)
    nd := by show upd H0 p o f.d = none; rw [upd_ne (Ne.symm b)]; exact F.nd
    nl := by show upd H0 p o f.l = none; rw [upd_ne (Ne.symm c)]; exact F.nl
    e0 := Ex.new d
    new := fun x u h => by
      by_cases q : x = p
      · exact Or.inr (q ▸ hp)
      · rw [upd_ne q] at h; exact Or.inl h
    keep := fun x u _ _ h => by
      have q : x ≠ p := fun z => by
        have h : H x = some u := h
        rw [z, hp] at h; cases h
      rw [upd_ne q]; exact h
    dom := g.dom F.ok }
/-- a new object, not known (yet) -/
theorem Fm.lay {p : Addr} {o : HO} (F : Fm g f H0 H) (hp : H p = none) : Fm g ⟨H0, H, f.d, f.l⟩ H0 (upd H p o) := by
  obtain ⟨a, b, c, d⟩ := F.fresh hp
  exact {
    ex := F.ex.trans (Ex.new hp)
    ok := g.up F.ok (fun o h => by rw [upd_ne (Ne.symm b)]; exact h) (fun o h => by rw [upd_ne (Ne.symm c)]; exact h)
    nd := F.nd
    nl := F.nl
    e0 := Ex.refl _
    new := fun x u h => Or.inl h
    keep := fun x u _ _ h => by
      have q : x ≠ p := fun z => by
        have h : H x = some u := h
        rw [z, hp] at h; cases h
      rw [upd_ne q]; exact h
    dom := g.dom F.ok }
theorem get_set {α : Type} {l : List α} {i j : Nat} {x y : α} (h : (l.set i x)[j]? = some y) : (j = i ∧ y = x ∧ i < l.length) ∨ (j ≠ i ∧ l[j]? = some y) := by
  by_cases e : j = i
  · subst e
    rw [List.getElem?_set_self'] at h
    cases q : l[j]? with
    | none => rw [q] at h; cases h
    | some z =>
      rw [q] at h
      exact Or.inl ⟨rfl, (Option.some.inj h).symm, (List.getElem?_eq_some_iff.mp q).1⟩
  · rw [List.getElem?_set_ne (fun z => e z.symm)] at h
    exact Or.inr ⟨e, h⟩
/-- a name takes a known value -/
theorem Rel.set {i : Nat} {v : V} {x : D} (R : Rel g f H0 H σ env) (h : Rp g.K f.d H0 v x) : Rel g f H0 H (σ.set i (some v)) (env.set i (.fz x)) where
  fm := R.fm
  len := by rw [List.length_set, List.length_set]; exact R.len
  cells := fun j c hc => by
    rcases get_set hc with ⟨e, ec, hl⟩ | ⟨e, hc⟩
    · subst e ec
      rw [List.getElem?_set_self (by rw [R.len]; exact hl)]
      exact ⟨v, rfl, h⟩
    · rw [List.getElem?_set_ne (fun z => e z.symm)]
      exact R.cells j c hc
  dist := fun a b p x y hn h1 h2 h3 h4 => by
    rcases get_set h3 with ⟨_, z, _⟩ | ⟨e1, h3⟩
    · cases z
    rcases get_set h4 with ⟨_, z, _⟩ | ⟨e2, h4⟩
    · cases z
    rw [List.getElem?_set_ne (fun z => e1 z.symm)] at h1
    rw [List.getElem?_set_ne (fun z => e2 z.symm)] at h2
    exact R.dist a b p x y hn h1 h2 h3 h4
/-- .. a new object of its own -/
theorem Rel.own {i : Nat} {p : Addr} {x : D} (R : Rel g f H0 H σ env) (h : Ow g f H0 H p x) (hn : ∀ (j : Nat) (y : D), env[j]? = some (.ow y) → σ[j]? ≠ some (some (.ref p))) : Rel g f H0 H (σ.set i (some (.ref p))) (env.set i (.ow x)) where
  fm := R.fm
  len := by rw [List.length_set, List.length_set]; exact R.len
  cells := fun j c hc => by
    rcases get_set hc with ⟨e, ec, hl⟩ | ⟨e, hc⟩
    · subst e ec
      rw [List.getElem?_set_self (by rw [R.len]; exact hl)]
      exact ⟨p, rfl, h⟩
    · rw [List.getElem?_set_ne (fun z => e z.symm)]
      exact R.cells j c hc
  dist := fun a b q x y hab h1 h2 h3 h4 => by
    rcases get_set h3 with ⟨e1, _, hl1⟩ | ⟨e1, h6⟩
    · rcases get_set h4 with ⟨e2, _, _⟩ | ⟨e2, h5⟩
      · exact hab (e1.trans e2.symm)
      subst e1
      rw [List.getElem?_set_self (by rw [R.len]; exact hl1)] at h1
      rw [List.getElem?_set_ne (fun z => e2 z.symm)] at h2
      cases h1
      exact hn b y h5 h2
    · rw [List.getElem?_set_ne (fun z => e1 z.symm)] at h1
      rcases get_set h4 with ⟨e2, _, hl2⟩ | ⟨e2, h5⟩
      · subst e2
        rw [List.getElem?_set_self (by rw [R.len]; exact hl2)] at h2
        cases h2
        exact hn a x h6 h1
      · rw [List.getElem?_set_ne (fun z => e2 z.symm)] at h2
        exact R.dist a b q x y hab h1 h2 h6 h5
/-- an owned object changes -/
theorem Rel.mut {i : Nat} {p : Addr} {x y : D} {o : HO} (R : Rel g f H0 H σ env) (hs : σ[i]? = some (some (.ref p))) (he : env[i]? = some (.ow x)) (ho : ObjR g f H0 o y) : Rel g f H0 (upd H p o) σ (env.set i (.ow y)) := by
  obtain ⟨a, e, w⟩ : ∃ a, σ[i]? = some (some (.ref a)) ∧ Ow g f H0 H a x := R.cells i _ he
  have ea : a = p := by rw [hs] at e; cases e; rfl
  subst ea
  have nd := w.nd R.fm
  exact {
    fm := {
      ex := Ex.mut R.fm.ex w.n0
      ok := g.up R.fm.ok (fun o h => by rw [upd_ne (Ne.symm nd.1)]; exact h) (fun o h => by rw [upd_ne (Ne.symm nd.2)]; exact h)
      nd := R.fm.nd
      nl := R.fm.nl
      e0 := R.fm.e0
      new := R.fm.new
      keep := fun b u h1 h2 h => by
        have q : b ≠ a := fun z => by rw [z, w.ne] at h; cases h
        rw [upd_ne q]; exact R.fm.keep b u h1 h2 h
      dom := R.fm.dom }
    len := by rw [List.length_set]; exact R.len
    cells := fun j c hc => by
      rcases get_set hc with ⟨e1, ec, hl⟩ | ⟨e1, hc⟩
      · subst e1 ec
        exact ⟨a, hs, w.n0, w.ne, o, upd_same, ho⟩
      · have q := R.cells j c hc
        cases c with
        | un => trivial
        | fz x => exact q
        | ow z =>
          obtain ⟨b, eb, wb⟩ := q
          have hb : b ≠ a := fun z => by
            subst z
            exact R.dist j i b _ _ e1 eb hs hc he
          obtain ⟨u, h1, h2⟩ := wb.ob
          exact ⟨b, eb, wb.n0, wb.ne, u, by rw [upd_ne hb]; exact h1, h2⟩
    dist := fun j k q y1 y2 hn h1 h2 h3 h4 => by
      have own : ∀ {j : Nat} {z : D}, (env.set i (.ow y))[j]? = some (.ow z) → ∃ z', env[j]? = some (.ow z') := fun {j z} h => by
        rcases get_set h with ⟨e1, _, _⟩ | ⟨_, h⟩
        · exact ⟨x, e1 ▸ he⟩
        · exact ⟨z, h⟩
      obtain ⟨_, h3⟩ := own h3
      obtain ⟨_, h4⟩ := own h4
      exact R.dist j k q _ _ hn h1 h2 h3 h4 }
theorem ObjR.rp {o : HO} {p : Addr} : ∀ {x : D}, ObjR g f H0 o x → Rp g.K f.d (upd H0 p o) (.ref p) x ∨ H0 p ≠ none
  | .lst xs, ⟨vs, a, b⟩ => by
    subst a
    by_cases h : H0 p = none
    · exact Or.inl (.lst upd_same (b.up (Ex.new h)))
    · exact Or.inr h
  | .dic xs, ⟨vs, a, b⟩ => by
    subst a
    by_cases h : H0 p = none
    · exact Or.inl (.dic upd_same (b.up (Ex.new h)))
    · exact Or.inr h
  | .non, h => h.elim
  | .bl _, h => h.elim
  | .int _, h => h.elim
  | .str _, h => h.elim
  | .tup _, h => h.elim
  | .ty _, h => h.elim
  | .deck, h => h.elim
/-- an owned object is let go: it changes no more -/
theorem Rel.freeze {i : Nat} {x : D} (R : Rel g f H0 H σ env) (he : env[i]? = some (.ow x)) : ∃ H0', Ex H0 H0' ∧ Rel g f H0' H σ (env.set i (.fz x)) := by
  obtain ⟨p, e, w⟩ : ∃ a, σ[i]? = some (some (.ref a)) ∧ Ow g f H0 H a x := R.cells i _ he
  obtain ⟨o, h1, h2⟩ := w.ob
  have nd := w.nd R.fm
  have x0 : Ex H0 (upd H0 p o) := Ex.new w.n0
  have rp : Rp g.K f.d (upd H0 p o) (.ref p) x := by
    rcases h2.rp (p := p) with q | q
    · exact q
    · exact absurd w.n0 q
  refine ⟨upd H0 p o, x0, ?_⟩
  exact {
    fm := {
      ex := fun b u h => by
        by_cases q : b = p
        · subst q; rw [upd_same] at h; rw [← h]; exact h1
        · rw [upd_ne q] at h; exact R.fm.ex b u h
      ok := R.fm.ok
      nd := by rw [upd_ne (Ne.symm nd.1)]; exact R.fm.nd
      nl := by rw [upd_ne (Ne.symm nd.2)]; exact R.fm.nl
      e0 := R.fm.e0.trans x0
      new := fun b u h => by
        by_cases q : b = p
        · exact Or.inr (q ▸ w.ne)
        · rw [upd_ne q] at h; exact R.fm.new b u h
      keep := R.fm.keep
      dom := R.fm.dom }
    len := by rw [List.length_set]; exact R.len
    cells := fun j c hc => by
      rcases get_set hc with ⟨e1, ec, hl⟩ | ⟨e1, hc⟩
      · subst e1 ec
        exact ⟨_, e, rp⟩
      · have q := R.cells j c hc
        cases c with
        | un => trivial
        | fz x => obtain ⟨v, a, b⟩ := q; exact ⟨v, a, b.up x0⟩
        | ow z =>
          obtain ⟨b, eb, wb⟩ := q
          have hb : b ≠ p := fun z => by
            subst z
            exact R.dist j i b _ _ e1 eb e hc he
          obtain ⟨u, g1, g2⟩ := wb.ob
          exact ⟨b, eb, by rw [upd_ne hb]; exact wb.n0, wb.ne, u, g1, g2.up x0⟩
    dist := fun j k q y1 y2 hn h1 h2 h3 h4 => by
      rcases get_set h3 with ⟨_, z, _⟩ | ⟨_, h3⟩
      · cases z
      rcases get_set h4 with ⟨_, z, _⟩ | ⟨_, h4⟩
      · cases z
      exact R.dist j k q _ _ hn h1 h2 h3 h4 }
end
end VM

/-! What a reading computes, as data: judgements and the words for statements. -/
namespace VM
open PySem PySem.Spec PyProof.Rows L2 Evl HG HL
/-- what is wanted behind a statement, as data -/
structure MD where
  nx : Env → Prop
  rt : D → Prop
  bk : Env → Prop := fun _ => False
  ct : Env → Prop := fun _ => False
  ex : XV → Prop
abbrev ME := Env → M D
abbrev MT := Env → M Bool
abbrev MA := Env → M (List D)
abbrev MS := MD → Env → Prop
abbrev MG := D → Env → (Env → Prop) → Prop
/-- from one heap to a later one: what was there stays -/
abbrev Stp (g : G) (f : Fr) (H0 H H01 H1 : Hp) : Prop := Fm g ⟨H0, H, f.d, f.l⟩ H01 H1
section
variable (g : G) (E : XK)
def XOk (f : Fr) (E' : XV → Prop) : Prop := ∀ xv cls dx H0 H, Fm g f H0 H → E' xv → g.xr xv cls dx f.d H0 H → E cls dx H
def DenE (te : TE) (me : ME) : Prop := ∀ (f : Fr) (H0 H : Hp) (σ : L2.St) (env : Env) (Q : VK) (Q' : D → Prop) (E' : XV → Prop), Rel g f H0 H σ env → XOk g E f E' →
  (∀ v x H01 H1, Stp g f H0 H H01 H1 → Rp g.K f.d H01 v x → Q' x → Q v H1) → me env Q' E' → te σ H Q
def DenT (tt : TT) (mt : MT) : Prop := ∀ (f : Fr) (H0 H : Hp) (σ : L2.St) (env : Env) (Q : Bool → Hp → Prop) (Q' : Bool → Prop) (E' : XV → Prop), Rel g f H0 H σ env → XOk g E f E' →
  (∀ b H01 H1, Stp g f H0 H H01 H1 → Q' b → Q b H1) → mt env Q' E' → tt σ H Q
def DenA (ta : TA) (ma : MA) : Prop := ∀ (f : Fr) (H0 H : Hp) (σ : L2.St) (env : Env) (Q : List V → Hp → Prop) (Q' : List D → Prop) (E' : XV → Prop), Rel g f H0 H σ env → XOk g E f E' →
  (∀ vs xs H01 H1, Stp g f H0 H H01 H1 → RpA g.K f.d H01 vs xs → Q' xs → Q vs H1) → ma env Q' E' → ta σ H Q
/-- a value, known or owned by a name -/
def Sh (f : Fr) (H0 : Hp) (σ : L2.St) (env : Env) (v : V) (x : D) : Prop := Rp g.K f.d H0 v x ∨ ∃ i : Nat, σ[i]? = some (some v) ∧ env[i]? = some (Cell.ow x)
def DenO (te : TE) (me : ME) : Prop := ∀ (f : Fr) (H0 H : Hp) (σ : L2.St) (env : Env) (Q : VK) (Q' : D → Prop) (E' : XV → Prop), Rel g f H0 H σ env → XOk g E f E' →
  (∀ v x H01 H1, Stp g f H0 H H01 H1 → Sh g f H01 σ env v x → Q' x → Q v H1) → me env Q' E' → te σ H Q
/-- a new object -/
def DenF (te : TE) (me : ME) : Prop := ∀ (f : Fr) (H0 H : Hp) (σ : L2.St) (env : Env) (Q : VK) (Q' : D → Prop) (E' : XV → Prop), Rel g f H0 H σ env → XOk g E f E' →
  (∀ p o x H01 H1, Stp g f H0 H H01 H1 → H p = none → H01 p = none → H1 p = some o → ObjR g f H01 o x → Q' x → Q (.ref p) H1) → me env Q' E' → te σ H Q
structure EndsOk (f : Fr) (H0 : Hp) (D : Ends) (D' : MD) : Prop where
  nx : ∀ σ env H01 H1, Rel g f H01 H1 σ env → Ex H0 H01 → D'.nx env → D.nx σ H1
  rt : ∀ v x H01 H1, Fm g f H01 H1 → Rp g.K f.d H01 v x → D'.rt x → D.rt v H1
  bk : ∀ σ env H01 H1, Rel g f H01 H1 σ env → Ex H0 H01 → D'.bk env → D.bk σ H1
  ct : ∀ σ env H01 H1, Rel g f H01 H1 σ env → Ex H0 H01 → D'.ct env → D.ct σ H1
  ex : XOk g E f D'.ex
def DenS (ts : TS) (ms : MS) : Prop := ∀ (f : Fr) (H0 H : Hp) (σ : L2.St) (env : Env) (D : Ends) (D' : MD), Rel g f H0 H σ env → EndsOk g E f H0 D D' → ms D' env → ts D σ H
/-- a target: the names in vs at most change -/
def DenG (tg : TG) (mg : MG) (vs : List Nat) : Prop := ∀ (f : Fr) (H0 H : Hp) (σ : L2.St) (env : Env) (v : V) (x : D) (R : L2.St → Hp → Prop) (R' : Env → Prop), Rel g f H0 H σ env → Rp g.K f.d H0 v x →
  (∀ σ1 env1, Rel g f H0 H σ1 env1 → σ1.length = σ.length → (∀ i, i ∉ vs → σ1[i]? = σ[i]? ∧ env1[i]? = env[i]?) → R' env1 → R σ1 H) → mg x env R' → tg v σ H R
def DenGs (tg : TGs) (mg : List D → Env → (Env → Prop) → Prop) (vs : List Nat) : Prop := ∀ (f : Fr) (H0 H : Hp) (σ : L2.St) (env : Env) (ws : List V) (xs : List D) (R : L2.St → Hp → Prop) (R' : Env → Prop), Rel g f H0 H σ env → RpA g.K f.d H0 ws xs →
  (∀ σ1 env1, Rel g f H0 H σ1 env1 → σ1.length = σ.length → (∀ i, i ∉ vs → σ1[i]? = σ[i]? ∧ env1[i]? = env[i]?) → R' env1 → R σ1 H) → mg xs env R' → tg ws σ H R
end
section
variable {g : G} {E : XK} {f : Fr} {H0 H H01 H1 : Hp} {σ : L2.St} {env : Env} {ta tb te : TE} {ma mb me : ME} {tt tu : TT} {mt mu : MT}
theorem EndsOk.up {D : Ends} {D' : MD} (e : Ex H0 H01) (h : EndsOk g E f H0 D D') : EndsOk g E f H01 D D' :=
  ⟨fun σ env a b r x => h.nx σ env a b r (e.trans x), h.rt, fun σ env a b r x => h.bk σ env a b r (e.trans x), fun σ env a b r x => h.ct σ env a b r (e.trans x), h.ex⟩
theorem Sh.up {v : V} {x : D} (e : Ex H0 H01) (h : Sh g f H0 σ env v x) : Sh g f H01 σ env v x := h.imp (·.up e) id
theorem Stp.refl (R : Rel g f H0 H σ env) : Stp g f H0 H H0 H := R.fm.base
theorem Stp.trans {H02 H2 : Hp} (a : Stp g f H0 H H01 H1) (b : Stp g f H01 H1 H02 H2) : Stp g f H0 H H02 H2 := Fm.to a b
theorem DenE.o (h : DenE g E te me) : DenO g E te me := fun f H0 H σ env Q Q' E' R X k m => h f H0 H σ env Q Q' E' R X (fun v x a b r p q => k v x a b r (.inl p) q) m
/-- an object that was new is known from now on -/
theorem Stp.know {p : Addr} {o : HO} {x : D} (S : Stp g f H0 H H01 H1) (hp : H p = none) (h0 : H01 p = none) (h1 : H1 p = some o) (ho : ObjR g f H01 o x) : Stp g f H0 H (upd H01 p o) H1 ∧ Rp g.K f.d (upd H01 p o) (.ref p) x ∧ Ex H01 (upd H01 p o) := by
  have x0 : Ex H01 (upd H01 p o) := Ex.new h0
  have nd : p ≠ f.d := fun z => S.dom.1 (z ▸ hp)
  have nl : p ≠ f.l := fun z => S.dom.2 (z ▸ hp)
  refine ⟨?_, ?_, x0⟩
  · exact {
      ex := fun b u h => by
        by_cases q : b = p
        · subst q; rw [upd_same] at h; rw [← h]; exact h1
        · rw [upd_ne q] at h; exact S.ex b u h
      ok := S.ok
      nd := by show upd H01 p o f.d = none; rw [upd_ne (Ne.symm nd)]; exact S.nd
      nl := by show upd H01 p o f.l = none; rw [upd_ne (Ne.symm nl)]; exact S.nl
      e0 := S.e0.trans x0
      new := fun b u h => by
        by_cases q : b = p
        · exact Or.inr (q ▸ hp)
        · rw [upd_ne q] at h; exact S.new b u h
      keep := S.keep
      dom := S.dom }
  · rcases ho.rp (p := p) with z | z
    · exact z
    · exact absurd h0 z
/-- the new object is known from now on -/
theorem DenF.e (h : DenF g E te me) : DenE g E te me := fun f H0 H σ env Q Q' E' R X k m => h f H0 H σ env Q Q' E' R X (fun p o x H01 H1 S hp h0 h1 ob q => by
  obtain ⟨a, b, _⟩ := S.know hp h0 h1 ob
  exact k (.ref p) x _ H1 a b q) m
/-- a new object is laid -/
theorem Stp.lay {p : Addr} {o : HO} (S : Stp g f H0 H H01 H1) (hp : H1 p = none) : Stp g f H0 H H01 (upd H1 p o) ∧ H p = none ∧ H01 p = none := by
  obtain ⟨a, b, c, d⟩ := Fm.fresh S hp
  exact ⟨Fm.to S (Fm.lay S hp), a, d⟩
theorem Stp.put {p : Addr} {o : HO} (S : Stp g f H0 H H01 H1) (hp : H1 p = none) : Stp g f H0 H (upd H01 p o) (upd H1 p o) := Fm.to S (Fm.put S hp)
/-! ### names, constants -/
def mVar (i : Nat) : ME := fun env Q _ => match env[i]? with
  | some (.fz x) => Q x
  | _ => False
def mOwn (i : Nat) : ME := fun env Q _ => match env[i]? with
  | some (.ow x) => Q x
  | _ => False
def mC (x : D) : ME := fun _ Q _ => Q x
theorem den_var {i : Nat} : DenE g E (tVar i) (mVar i) := fun f H0 H σ env Q Q' E' R X k m => by
  unfold mVar at m
  split at m
  · next x e =>
    obtain ⟨v, h1, h2⟩ : ∃ v, σ[i]? = some (some v) ∧ Rp g.K f.d H0 v x := R.cells i _ e
    exact ⟨v, h1, k v x H0 H (Stp.refl R) h2 m⟩
  · exact m.elim
theorem den_own {i : Nat} : DenO g E (tVar i) (mOwn i) := fun f H0 H σ env Q Q' E' R X k m => by
  unfold mOwn at m
  split at m
  · next x e =>
    obtain ⟨a, h1, h2⟩ : ∃ a, σ[i]? = some (some (.ref a)) ∧ Ow g f H0 H a x := R.cells i _ e
    exact ⟨_, h1, k _ x H0 H (Stp.refl R) (.inr ⟨i, h1, e⟩) m⟩
  · exact m.elim
theorem den_c {v : V} {x : D} (h : ∀ K dk H, Rp K dk H v x) : DenE g E (tC v) (mC x) := fun f H0 H σ env Q Q' E' R X k m => k v x H0 H (Stp.refl R) (h _ _ _) m
theorem den_int {i : Int} : DenE g E (tC (.int i)) (mC (.int i)) := den_c fun _ _ _ => .int i
theorem den_bl {b : Bool} : DenE g E (tC (.bl b)) (mC (.bl b)) := den_c fun _ _ _ => .bl b
theorem den_str {b : Str} : DenE g E (tC (.str b)) (mC (.str b)) := den_c fun _ _ _ => .str b
theorem den_non : DenE g E (tC .non) (mC .non) := den_c fun _ _ _ => .non
theorem den_ty {n : String} : DenE g E (tC (.ty n)) (mC (.ty n)) := den_c fun _ _ _ => .ty n
/-! ### operators -/
def DenOpK (g : G) (r : R2) (h : D → D → M D) : Prop := ∀ (f : Fr) (H0 H : Hp) (σ : L2.St) (env : Env) (v w : V) (x y : D) (Q : VK) (Q' : D → Prop) (E' : XV → Prop), Rel g f H0 H σ env → Sh g f H0 σ env v x → Sh g f H0 σ env w y →
  (∀ z u H01 H1, Stp g f H0 H H01 H1 → Rp g.K f.d H01 z u → Q' u → Q z H1) → h x y Q' E' → r v w H Q
def DenOpF (g : G) (r : R2) (h : D → D → M D) : Prop := ∀ (f : Fr) (H0 H : Hp) (σ : L2.St) (env : Env) (v w : V) (x y : D) (Q : VK) (Q' : D → Prop) (E' : XV → Prop), Rel g f H0 H σ env → Sh g f H0 σ env v x → Sh g f H0 σ env w y →
  (∀ p o u, H p = none → ObjR g f H0 o u → Q' u → Q (.ref p) (upd H p o)) → h x y Q' E' → r v w H Q
def mOp (h : D → D → M D) (ma mb : ME) : ME := fun env Q E => ma env (fun x => mb env (fun y => h x y Q E) E) E
theorem den_op {r : R2} {h : D → D → M D} (hr : DenOpK g r h) (ha : DenO g E ta ma) (hb : DenO g E tb mb) : DenE g E (tOp r ta tb) (mOp h ma mb) := fun f H0 H σ env Q Q' E' R X k m =>
  ha f H0 H σ env _ _ E' R X (fun v x H01 H1 S1 s1 m1 => hb f H01 H1 σ env _ _ E' (R.step S1) X (fun w y H02 H2 S2 s2 m2 =>
    hr f H02 H2 σ env v w x y Q Q' E' ((R.step S1).step S2) (s1.up S2.e0) s2 (fun z u H03 H3 S3 => k z u H03 H3 ((S1.trans S2).trans S3)) m2) m1) m
theorem den_opF {r : R2} {h : D → D → M D} (hr : DenOpF g r h) (ha : DenO g E ta ma) (hb : DenO g E tb mb) : DenF g E (tOp r ta tb) (mOp h ma mb) := fun f H0 H σ env Q Q' E' R X k m =>
  ha f H0 H σ env _ _ E' R X (fun v x H01 H1 S1 s1 m1 => hb f H01 H1 σ env _ _ E' (R.step S1) X (fun w y H02 H2 S2 s2 m2 =>
    hr f H02 H2 σ env v w x y Q Q' E' ((R.step S1).step S2) (s1.up S2.e0) s2 (fun p o u hp ho hq => by
      obtain ⟨a, b, c⟩ := (S1.trans S2).lay (o := o) hp
      exact k p o u H02 _ a b c upd_same ho hq) m2) m1) m
def mUn (h : D → M D) (ma : ME) : ME := fun env Q E => ma env (fun x => h x Q E) E
def DenU (g : G) (r : V → Hp → VK → Prop) (h : D → M D) : Prop := ∀ (f : Fr) (H0 H : Hp) (σ : L2.St) (env : Env) (v : V) (x : D) (Q : VK) (Q' : D → Prop) (E' : XV → Prop), Rel g f H0 H σ env → Sh g f H0 σ env v x →
  (∀ z u H01 H1, Stp g f H0 H H01 H1 → Rp g.K f.d H01 z u → Q' u → Q z H1) → h x Q' E' → r v H Q
theorem den_un {r : V → Hp → VK → Prop} {h : D → M D} (hr : DenU g r h) (ha : DenO g E ta ma) : DenE g E (tUn r ta) (mUn h ma) := fun f H0 H σ env Q Q' E' R X k m =>
  ha f H0 H σ env _ _ E' R X (fun v x H01 H1 S1 s1 m1 => hr f H01 H1 σ env v x Q Q' E' (R.step S1) s1 (fun z u H03 H3 S3 => k z u H03 H3 (S1.trans S3)) m1) m
/-! ### tests -/
def mTest (me : ME) : MT := fun env Q E => me env (fun x => match x with
  | .bl b => Q b
  | _ => False) E
theorem rp_bl {K : PySem.W.Frag} {dk : Addr} {v : V} {b : Bool} (h : Rp K dk H v (.bl b)) : v = .bl b := by cases h; rfl
theorem rp_int {K : PySem.W.Frag} {dk : Addr} {v : V} {i : Int} (h : Rp K dk H v (.int i)) : v = .int i := by cases h; rfl
theorem sh_sc (R : Rel g f H0 H σ env) {v : V} {x : D} (h : Sh g f H0 σ env v x) (hx : ∀ o, ¬ ObjR g f H0 o x) : Rp g.K f.d H0 v x := by
  rcases h with h | ⟨i, h1, h2⟩
  · exact h
  · obtain ⟨a, _, w⟩ : ∃ a, σ[i]? = some (some (.ref a)) ∧ Ow g f H0 H a x := R.cells i _ h2
    obtain ⟨o, _, h3⟩ := w.ob
    exact absurd h3 (hx o)
theorem sh_int (R : Rel g f H0 H σ env) {v : V} {i : Int} (h : Sh g f H0 σ env v (.int i)) : v = .int i := rp_int (sh_sc R h fun _ q => q)
theorem sh_bl (R : Rel g f H0 H σ env) {v : V} {i : Bool} (h : Sh g f H0 σ env v (.bl i)) : v = .bl i := rp_bl (sh_sc R h fun _ q => q)
theorem sh_non (R : Rel g f H0 H σ env) {v : V} (h : Sh g f H0 σ env v .non) : v = .non := by
  have := sh_sc R h fun _ q => q
  cases this
  rfl
theorem sh_str (R : Rel g f H0 H σ env) {v : V} {x : Str} (h : Sh g f H0 σ env v (.str x)) : v = .str x := by
  have := sh_sc R h fun _ q => q
  cases this
  rfl
theorem sh_tup (R : Rel g f H0 H σ env) {v : V} {xs : List D} (h : Sh g f H0 σ env v (.tup xs)) : ∃ a vs, v = .ref a ∧ TuA g.K H a vs ∧ RpA g.K f.d H0 vs xs := by
  have := sh_sc R h fun _ q => q
  cases this with
  | tup h1 h2 => exact ⟨_, _, rfl, h1.up R.fm.ex, h2⟩
/-- a list stands in the heap -/
theorem sh_lst (R : Rel g f H0 H σ env) {v : V} {xs : List D} (h : Sh g f H0 σ env v (.lst xs)) : ∃ a vs, v = .ref a ∧ H a = some (.lst vs) ∧ RpA g.K f.d H0 vs xs := by
  rcases h with h | ⟨i, h1, h2⟩
  · cases h with
    | lst h1 h2 => exact ⟨_, _, rfl, R.fm.ex _ _ h1, h2⟩
  · obtain ⟨a, e, w⟩ : ∃ a, σ[i]? = some (some (.ref a)) ∧ Ow g f H0 H a (.lst xs) := R.cells i _ h2
    rw [h1] at e
    cases e
    obtain ⟨o, h3, vs, e, h4⟩ := w.ob
    subst e
    exact ⟨a, vs, rfl, h3, h4⟩
theorem sh_dic (R : Rel g f H0 H σ env) {v : V} {xs : List (Key × D)} (h : Sh g f H0 σ env v (.dic xs)) : ∃ a vs, v = .ref a ∧ H a = some (.dK vs) ∧ RpK g.K f.d H0 vs xs := by
  rcases h with h | ⟨i, h1, h2⟩
  · cases h with
    | dic h1 h2 => exact ⟨_, _, rfl, R.fm.ex _ _ h1, h2⟩
  · obtain ⟨a, e, w⟩ : ∃ a, σ[i]? = some (some (.ref a)) ∧ Ow g f H0 H a (.dic xs) := R.cells i _ h2
    rw [h1] at e
    cases e
    obtain ⟨o, h3, vs, e, h4⟩ := w.ob
    subst e
    exact ⟨a, vs, rfl, h3, h4⟩
theorem den_test (h : DenE g E te me) : DenT g E (tTest te) (mTest me) := fun f H0 H σ env Q Q' E' R X k m =>
  h f H0 H σ env _ _ E' R X (fun v x H01 H1 S1 r q => by
    cases x with
    | bl b => exact ⟨b, rp_bl r, k b H01 H1 S1 q⟩
    | _ => exact q.elim) m
theorem den_B (h : DenE g E te me) : DenT g E (tB te) (mTest me) := fun f H0 H σ env Q Q' E' R X k m =>
  h f H0 H σ env _ _ E' R X (fun v x H01 H1 S1 r q => by
    cases x with
    | bl b => exact ⟨b, rp_bl r, k b H01 H1 S1 q⟩
    | _ => exact q.elim) m
def mAnd (mt mu : MT) : MT := fun env Q E => mt env (fun b => match b with
  | true => mu env Q E
  | false => Q false) E
def mOr (mt mu : MT) : MT := fun env Q E => mt env (fun b => match b with
  | true => Q true
  | false => mu env Q E) E
def mNot (mt : MT) : MT := fun env Q E => mt env (fun b => Q (!b)) E
theorem den_and (h1 : DenT g E tt mt) (h2 : DenT g E tu mu) : DenT g E (tAnd tt tu) (mAnd mt mu) := fun f H0 H σ env Q Q' E' R X k m =>
  h1 f H0 H σ env _ _ E' R X (fun b H01 H1 S1 q => by
    cases b with
    | true => exact h2 f H01 H1 σ env Q Q' E' (R.step S1) X (fun b H02 H2 S2 => k b H02 H2 (S1.trans S2)) q
    | false => exact k false H01 H1 S1 q) m
theorem den_or (h1 : DenT g E tt mt) (h2 : DenT g E tu mu) : DenT g E (tOr tt tu) (mOr mt mu) := fun f H0 H σ env Q Q' E' R X k m =>
  h1 f H0 H σ env _ _ E' R X (fun b H01 H1 S1 q => by
    cases b with
    | true => exact k true H01 H1 S1 q
    | false => exact h2 f H01 H1 σ env Q Q' E' (R.step S1) X (fun b H02 H2 S2 => k b H02 H2 (S1.trans S2)) q) m
theorem den_not (h1 : DenT g E tt mt) : DenT g E (tNot tt) (mNot mt) := fun f H0 H σ env Q Q' E' R X k m =>
  h1 f H0 H σ env _ _ E' R X (fun b H01 H1 S1 q => k (!b) H01 H1 S1 q) m
def mAndV (ma mb : ME) : ME := fun env Q E => ma env (fun x => match x with
  | .bl true => mb env Q E
  | .bl false => Q (.bl false)
  | _ => False) E
def mOrV (ma mb : ME) : ME := fun env Q E => ma env (fun x => match x with
  | .bl true => Q (.bl true)
  | .bl false => mb env Q E
  | _ => False) E
def mNotV (ma : ME) : ME := fun env Q E => ma env (fun x => match x with
  | .bl b => Q (.bl (!b))
  | _ => False) E
theorem den_andV (h1 : DenE g E ta ma) (h2 : DenE g E tb mb) : DenE g E (tAndV ta tb) (mAndV ma mb) := fun f H0 H σ env Q Q' E' R X k m =>
  h1 f H0 H σ env _ _ E' R X (fun v x H01 H1 S1 r q => by
    cases x with
    | bl b =>
      refine ⟨b, rp_bl r, ?_⟩
      cases b with
      | true => exact h2 f H01 H1 σ env Q Q' E' (R.step S1) X (fun v x H02 H2 S2 => k v x H02 H2 (S1.trans S2)) q
      | false => exact k _ _ H01 H1 S1 (.bl false) q
    | _ => exact q.elim) m
theorem den_orV (h1 : DenE g E ta ma) (h2 : DenE g E tb mb) : DenE g E (tOrV ta tb) (mOrV ma mb) := fun f H0 H σ env Q Q' E' R X k m =>
  h1 f H0 H σ env _ _ E' R X (fun v x H01 H1 S1 r q => by
    cases x with
    | bl b =>
      refine ⟨b, rp_bl r, ?_⟩
      cases b with
      | true => exact k _ _ H01 H1 S1 (.bl true) q
      | false => exact h2 f H01 H1 σ env Q Q' E' (R.step S1) X (fun v x H02 H2 S2 => k v x H02 H2 (S1.trans S2)) q
    | _ => exact q.elim) m
theorem den_notV (h1 : DenE g E ta ma) : DenE g E (tNotV ta) (mNotV ma) := fun f H0 H σ env Q Q' E' R X k m =>
  h1 f H0 H σ env _ _ E' R X (fun v x H01 H1 S1 r q => by
    cases x with
    | bl b => exact ⟨b, rp_bl r, k _ _ H01 H1 S1 (.bl (!b)) q⟩
    | _ => exact q.elim) m
def mIf (mt : MT) (ma mb : ME) : ME := fun env Q E => mt env (fun b => match b with
  | true => ma env Q E
  | false => mb env Q E) E
theorem den_if (h : DenT g E tt mt) (h1 : DenE g E ta ma) (h2 : DenE g E tb mb) : DenE g E (tIf tt ta tb) (mIf mt ma mb) := fun f H0 H σ env Q Q' E' R X k m =>
  h f H0 H σ env _ _ E' R X (fun b H01 H1 S1 q => by
    cases b with
    | true => exact h1 f H01 H1 σ env Q Q' E' (R.step S1) X (fun v x H02 H2 S2 => k v x H02 H2 (S1.trans S2)) q
    | false => exact h2 f H01 H1 σ env Q Q' E' (R.step S1) X (fun v x H02 H2 S2 => k v x H02 H2 (S1.trans S2)) q) m
/-- a < b < c -/
def mChain (h1 h2 : D → D → M D) (ma mb mc : ME) : ME := fun env Q E => ma env (fun x => mb env (fun y => h1 x y (fun z => match z with
  | .bl true => mc env (fun w => h2 y w Q E) E
  | .bl false => Q (.bl false)
  | _ => False) E) E) E
theorem den_chain {tc : TE} {mc : ME} {r1 r2 : R2} {h1 h2 : D → D → M D} (hr1 : DenOpK g r1 h1) (hr2 : DenOpK g r2 h2) (ha : DenO g E ta ma) (hb : DenO g E tb mb) (hc : DenO g E tc mc) : DenE g E (tChain r1 r2 ta tb tc) (mChain h1 h2 ma mb mc) := fun f H0 H σ env Q Q' E' R X k m =>
  ha f H0 H σ env _ _ E' R X (fun v x H01 H1 S1 s1 m1 => hb f H01 H1 σ env _ _ E' (R.step S1) X (fun w y H02 H2 S2 s2 m2 => by
    have S12 := S1.trans S2
    refine hr1 f H02 H2 σ env v w x y _ _ E' (R.step S12) (s1.up S2.e0) s2 (fun z u H03 H3 S3 r3 m3 => ?_) m2
    cases u with
    | bl b =>
      refine ⟨b, rp_bl r3, ?_⟩
      cases b with
      | true => exact hc f H03 H3 σ env _ _ E' (R.step (S12.trans S3)) X (fun w' y' H04 H4 S4 s4 m4 => hr2 f H04 H4 σ env w w' y y' Q Q' E' (R.step ((S12.trans S3).trans S4)) ((s2.up S3.e0).up S4.e0) s4 (fun z u H05 H5 S5 => k z u H05 H5 (((S12.trans S3).trans S4).trans S5)) m4) m3
      | false => exact k _ _ H03 H3 (S12.trans S3) (.bl false) m3
    | _ => exact m3.elim) m1) m
/-! ### arguments, tuples, lists, calls -/
def mNil : MA := fun _ Q _ => Q []
def mCons (ma : ME) (mr : MA) : MA := fun env Q E => ma env (fun x => mr env (fun xs => Q (x :: xs)) E) E
theorem den_nil : DenA g E tNil mNil := fun f H0 H σ env Q Q' E' R X k m => k [] [] H0 H (Stp.refl R) .nil m
theorem den_cons {tr : TA} {mr : MA} (h1 : DenE g E ta ma) (h2 : DenA g E tr mr) : DenA g E (tCons ta tr) (mCons ma mr) := fun f H0 H σ env Q Q' E' R X k m =>
  h1 f H0 H σ env _ _ E' R X (fun v x H01 H1 S1 r1 m1 => h2 f H01 H1 σ env _ _ E' (R.step S1) X (fun vs xs H02 H2 S2 r2 m2 => k _ _ H02 H2 (S1.trans S2) (.cons (r1.up S2.e0) r2) m2) m1) m
/-- a new tuple -/
theorem put_tup {p : Addr} {vs : List V} {xs : List D} (S : Stp g f H0 H H01 H1) (hp : H1 p = none) (h : RpA g.K f.d H01 vs xs) : Stp g f H0 H (upd H01 p (.tup vs)) (upd H1 p (.tup vs)) ∧ Rp g.K f.d (upd H01 p (.tup vs)) (.ref p) (.tup xs) :=
  ⟨S.put hp, .tup (.inl upd_same) (h.up (Ex.new (Fm.fresh S hp).2.2.2))⟩
def mTup (ma : MA) : ME := fun env Q E => ma env (fun xs => xs.length ≤ 100000 ∧ Q (.tup xs)) E
theorem den_tup {t : TA} {m : MA} (h : DenA g E t m) : DenE g E (tTup t) (mTup m) := fun f H0 H σ env Q Q' E' R X k m =>
  h f H0 H σ env _ _ E' R X (fun vs xs H01 H1 S1 r1 m1 => ⟨sz_of (by rw [r1.len]; exact m1.1), fun p hp => by
    obtain ⟨a, c⟩ := put_tup S1 hp r1
    exact k _ _ _ _ a c m1.2⟩) m
def mLst (ma : MA) : ME := fun env Q E => ma env (fun xs => xs.length ≤ 100000 ∧ Q (.lst xs)) E
theorem den_lst {t : TA} {m : MA} (h : DenA g E t m) : DenF g E (tLst t) (mLst m) := fun f H0 H σ env Q Q' E' R X k m =>
  h f H0 H σ env _ _ E' R X (fun vs xs H01 H1 S1 r1 m1 => ⟨sz_of (by rw [r1.len]; exact m1.1), fun p hp => by
    obtain ⟨a, b, c⟩ := S1.lay (o := .lst vs) hp
    exact k p (.lst vs) (.lst xs) H01 _ a b c upd_same ⟨vs, rfl, r1⟩ m1.2⟩) m
/-- what a def promises: it computes m -/
def spX (g : G) (n : Nat) (m : List D → M D) : Sp := fun vs H Q E => ∃ (f : Fr) (xs : List D) (Q' : D → Prop) (E' : XV → Prop), f.He = H ∧ Fm g f f.E0 H ∧ vs.length = n ∧ RpA g.K f.d f.E0 vs xs ∧ XOk g E f E' ∧ (∀ v r H01 H1, Fm g f H01 H1 → Rp g.K f.d H01 v r → Q' r → Q v H1) ∧ m xs Q' E'
def mCall (n : Nat) (m : List D → M D) (ma : MA) : ME := fun env Q E => ma env (fun xs => xs.length = n ∧ m xs Q E) E
/-- sp is kept whenever m's is -/
def Imp (g : G) (sp : Sp) (n : Nat) (m : List D → M D) : Prop := ∀ vs H Q E, spX g n m vs H Q E → sp vs H Q E
theorem imp_self {n : Nat} {m : List D → M D} : Imp g (spX g n m) n m := fun _ _ _ _ h => h
theorem den_call {sp : Sp} {n : Nat} {m : List D → M D} {t : TA} {ma : MA} (hi : Imp g sp n m) (h : DenA g E t ma) : DenE g E (tCall sp [] E t) (mCall n m ma) := fun f H0 H σ env Q Q' E' R X k mm =>
  h f H0 H σ env _ _ E' R X (fun vs xs H01 H1 S1 r1 m1 => by
    show sp (vs ++ []) H1 Q E
    rw [List.append_nil]
    refine hi vs H1 Q E ⟨⟨H01, H1, f.d, f.l⟩, xs, Q', E', rfl, (R.step S1).fm.base, by rw [r1.len]; exact m1.1, r1, fun xv cls dx H02 H2 F2 => X xv cls dx H02 H2 ((R.step S1).fm.to F2), ?_, m1.2⟩
    intro v r H02 H2 F2 rp q
    exact k v r H02 H2 (S1.trans F2) rp q) mm
/-- by keywords, put in order -/
def mCallK (n : Nat) (m : List D → M D) (is : List Nat) (ma : MA) : ME := fun env Q E => ma env (fun zs => zs.length = n ∧ (perm is zs).length = n ∧ m (perm is zs) Q E) E
theorem perm_rp {H : Hp} {dk : Addr} {K : PySem.W.Frag} {zs : List V} {ws : List D} (r : RpA K dk H zs ws) : ∀ is : List Nat, RpA K dk H (perm is zs) (perm is ws)
  | [] => .nil
  | i :: is => by
    have ih := perm_rp r is
    unfold perm at ih ⊢
    cases e : zs[i]? with
    | none =>
      have e2 : ws[i]? = none := by
        have h1 := List.getElem?_eq_none_iff.mp e
        exact List.getElem?_eq_none_iff.mpr (by rw [← r.len]; exact h1)
      rw [List.filterMap_cons_none e, List.filterMap_cons_none e2]
      exact ih
    | some v =>
      obtain ⟨u, h1, h2⟩ := r.get e
      rw [List.filterMap_cons_some e, List.filterMap_cons_some h1]
      exact .cons h2 ih
theorem den_callK {sp : Sp} {n : Nat} {m : List D → M D} {is : List Nat} {t : TA} {ma : MA} (hi : Imp g sp n m) (h : DenA g E t ma) : DenE g E (tCallK0 n sp (perm is) E t) (mCallK n m is ma) := fun f H0 H σ env Q Q' E' R X k mm =>
  h f H0 H σ env _ _ E' R X (fun vs xs H01 H1 S1 r1 m1 => by
    refine ⟨by rw [r1.len]; exact m1.1, ?_⟩
    have r2 := perm_rp r1 is
    refine hi _ H1 Q E ⟨⟨H01, H1, f.d, f.l⟩, _, Q', E', rfl, (R.step S1).fm.base, by rw [r2.len]; exact m1.2.1, r2, fun xv cls dx H02 H2 F2 => X xv cls dx H02 H2 ((R.step S1).fm.to F2), ?_, m1.2.2⟩
    intro v r H02 H2 F2 rp q
    exact k v r H02 H2 (S1.trans F2) rp q) mm
end
end VM

/-! Statements, loops, comprehensions, whole defs, as data. -/
namespace VM
open PySem PySem.Spec PyProof.Rows L2 Evl HG HL
section
variable {g : G} {E : XK} {f : Fr} {H0 H H01 H1 : Hp} {σ : L2.St} {env : Env} {ta tb te : TE} {ma mb me : ME} {tt tu : TT} {mt mu : MT} {ts tz : TS} {ms mz : MS}
/-! ### targets -/
def mName (i : Nat) : MG := fun x env R => R (env.set i (.fz x))
theorem den_name {i : Nat} : DenG g (gName i) (mName i) [i] := fun f H0 H σ env v x R R' r h k m =>
  k _ _ (r.set h) (List.length_set ..) (fun j hj => by
    have : j ≠ i := fun z => hj (by simp [z])
    exact ⟨List.getElem?_set_ne (fun z => this z.symm), List.getElem?_set_ne (fun z => this z.symm)⟩) m
def mGNil : List D → Env → (Env → Prop) → Prop := fun xs env R => match xs with
  | [] => R env
  | _ => False
def mGCons (t : MG) (u : List D → Env → (Env → Prop) → Prop) : List D → Env → (Env → Prop) → Prop := fun xs env R => match xs with
  | x :: r => t x env (fun env1 => u r env1 R)
  | [] => False
theorem den_gnil {vs : List Nat} : DenGs g gNil mGNil vs := fun f H0 H σ env ws xs R R' r h k m => by
  cases h with
  | nil => exact ⟨rfl, k _ _ r rfl (fun _ _ => ⟨rfl, rfl⟩) m⟩
  | cons _ _ => exact m.elim
theorem den_gcons {t : TG} {u : TGs} {mt : MG} {mu : List D → Env → (Env → Prop) → Prop} {us vs ws : List Nat} (h1 : DenG g t mt us) (h2 : DenGs g u mu vs) (hw : (us ++ vs).all (ws.contains ·) = true) : DenGs g (gCons t u) (mGCons mt mu) ws := fun f H0 H σ env zs xs R R' r h k m => by
  have hw' : ∀ i, i ∉ ws → i ∉ us ∧ i ∉ vs := fun i hi => by
    have := List.all_eq_true.mp hw
    exact ⟨fun z => hi (by simpa using this i (List.mem_append_left _ z)), fun z => hi (by simpa using this i (List.mem_append_right _ z))⟩
  cases h with
  | nil => exact m.elim
  | cons a b => exact ⟨_, _, rfl, h1 f H0 H σ env _ _ _ _ r a (fun σ1 env1 r1 l1 k1 m1 => h2 f H0 H σ1 env1 _ _ R R' r1 b (fun σ2 env2 r2 l2 k2 m2 => k σ2 env2 r2 (l2.trans l1) (fun i hi => by
      obtain ⟨p1, p2⟩ := hw' i hi
      exact ⟨(k2 i p2).1.trans (k1 i p1).1, (k2 i p2).2.trans (k1 i p1).2⟩) m2) m1) m⟩
def mGTup (n : Nat) (t : List D → Env → (Env → Prop) → Prop) : MG := fun x env R => match x with
  | .tup xs => xs.length = n ∧ t xs env R
  | _ => False
theorem den_gtup {n : Nat} {t : TGs} {mt : List D → Env → (Env → Prop) → Prop} {vs : List Nat} (h : DenGs g t mt vs) : DenG g (gTup g.K n t) (mGTup n mt) vs := fun f H0 H σ env v x R R' r hx k m => by
  cases hx with
  | tup a b => exact ⟨_, _, rfl, (a.up r.fm.ex).sq, by rw [b.len]; exact m.1, h f H0 H σ env _ _ R R' r b k m.2⟩
  | _ => exact m.elim
/-! ### statements -/
def mAsg (me : ME) (mg : MG) : MS := fun D env => me env (fun x => mg x env D.nx) D.ex
theorem den_asg {tg : TG} {mg : MG} {vs : List Nat} (h : DenE g E te me) (hg : DenG g tg mg vs) : DenS g E (tAsg te tg) (mAsg me mg) := fun f H0 H σ env D D' R ok m =>
  h f H0 H σ env _ _ _ R ok.ex (fun v x H01 H1 S r q => hg f H01 H1 σ env v x _ _ (R.step S) r (fun σ1 env1 r1 _ _ m1 => ok.nx σ1 env1 H01 H1 r1 S.e0 m1) q) m
def mAsgO (me : ME) (i : Nat) : MS := fun D env => me env (fun x => D.nx (env.set i (.ow x))) D.ex
theorem Rel.owNew {p : Addr} {o : HO} {x : D} {i : Nat} (R : Rel g f H0 H σ env) (S : Stp g f H0 H H01 H1) (hp : H p = none) (h0 : H01 p = none) (h1 : H1 p = some o) (ho : ObjR g f H01 o x) : Rel g f H01 H1 (σ.set i (some (.ref p))) (env.set i (.ow x)) :=
  (R.step S).own ⟨h0, (R.fm.fresh hp).1, o, h1, ho⟩ fun j y hj hs => by
    obtain ⟨a, e, w⟩ : ∃ a, σ[j]? = some (some (.ref a)) ∧ Ow g f H0 H a y := R.cells j _ hj
    rw [hs] at e
    cases e
    obtain ⟨o, h, _⟩ := w.ob
    rw [hp] at h
    cases h
theorem den_asgO {i : Nat} (h : DenF g E te me) : DenS g E (tAsg te (gName i)) (mAsgO me i) := fun f H0 H σ env D D' R ok m =>
  h f H0 H σ env _ _ _ R ok.ex (fun p o x H01 H1 S hp h0 h1 ho q => ok.nx _ _ H01 H1 (R.owNew S hp h0 h1 ho) S.e0 q) m
def mPar (i j : Nat) (ma : MA) : MS := fun D env => ma env (fun xs => match xs with
  | [x, y] => D.nx ((env.set i (.fz x)).set j (.fz y))
  | _ => False) D.ex
theorem den_par {i j : Nat} {t : TA} {ma : MA} (h : DenA g E t ma) : DenS g E (tPar i j t) (mPar i j ma) := fun f H0 H σ env D D' R ok m =>
  h f H0 H σ env _ _ _ R ok.ex (fun vs xs H01 H1 S r q => by
    match xs, q with
    | [x, y], q =>
      cases r with
      | cons r1 r2 =>
        cases r2 with
        | cons r2 r3 =>
          cases r3
          exact ⟨_, _, rfl, ok.nx _ _ H01 H1 (((R.step S).set r1).set r2) S.e0 q⟩) m
/-- a, b = e1, e2, the first one a new object of its own -/
def mParO (i j : Nat) (ma mb : ME) : MS := fun D env => ma env (fun x => mb env (fun y => i ≠ j ∧ D.nx ((env.set j (.fz y)).set i (.ow x))) D.ex) D.ex
theorem den_parO {i j : Nat} (ha : DenF g E ta ma) (hb : DenE g E tb mb) : DenS g E (tPar i j (tCons ta (tCons tb tNil))) (mParO i j ma mb) := fun f H0 H σ env D D' R ok m =>
  ha f H0 H σ env _ _ _ R ok.ex (fun p o x H01 H1 S hp h0 h1 ho q => hb f H01 H1 σ env _ _ _ (R.step S) ok.ex (fun v y H02 H2 S2 r2 q2 => by
    have n1 : p ≠ f.d := fun z => (g.dom R.fm.ok).1 (z ▸ hp)
    have n2 : p ≠ f.l := fun z => (g.dom R.fm.ok).2 (z ▸ hp)
    have h02 : H02 p = none := by
      cases z : H02 p with
      | none => rfl
      | some u =>
        rcases S2.new p u z with y | y
        · rw [show H01 p = some u from y] at h0; cases h0
        · rw [show H1 p = none from y] at h1; cases h1
    have R2 := R.owNew (i := i) (S.trans S2) hp h02 (S2.keep p o n1 n2 h1) (ho.up S2.e0)
    refine ⟨_, _, rfl, ?_⟩
    obtain ⟨hij, q2⟩ := q2
    have R3 := R2.set (i := j) r2
    rw [List.set_comm _ _ hij] at R3
    rw [List.set_comm _ _ hij]
    have e : (env.set i (.ow x)).set j (.fz y) = (env.set j (.fz y)).set i (.ow x) := List.set_comm _ _ hij
    rw [List.set_comm _ _ (Ne.symm hij)] at R3
    rw [List.set_comm _ _ (Ne.symm hij)]
    rw [e] at R3
    exact ok.nx _ _ H02 H2 R3 (S.trans S2).e0 q2) q) m
def mDrop (me : ME) : MS := fun D env => me env (fun _ => D.nx env) D.ex
theorem den_drop (h : DenE g E te me) : DenS g E (tDrop te) (mDrop me) := fun f H0 H σ env D D' R ok m =>
  h f H0 H σ env _ _ _ R ok.ex (fun v x H01 H1 S r q => ok.nx _ _ H01 H1 (R.step S) S.e0 q) m
def mRet (me : ME) : MS := fun D env => me env D.rt D.ex
theorem den_ret (h : DenE g E te me) : DenS g E (tRet te) (mRet me) := fun f H0 H σ env D D' R ok m =>
  h f H0 H σ env _ _ _ R ok.ex (fun v x H01 H1 S r q => ok.rt v x H01 H1 (R.fm.to S) r q) m
def mRetN : MS := fun D _ => D.rt .non
theorem den_retN : DenS g E tRetN mRetN := fun f H0 H σ env D D' R ok m => ok.rt _ _ H0 H R.fm .non m
def mNext : MS := fun D env => D.nx env
def mBrk : MS := fun D env => D.bk env
def mCnt : MS := fun D env => D.ct env
theorem den_next : DenS g E tNext mNext := fun f H0 H σ env D D' R ok m => ok.nx _ _ H0 H R (Ex.refl _) m
theorem den_brk : DenS g E tBreak mBrk := fun f H0 H σ env D D' R ok m => ok.bk _ _ H0 H R (Ex.refl _) m
theorem den_cnt : DenS g E tCont mCnt := fun f H0 H σ env D D' R ok m => ok.ct _ _ H0 H R (Ex.refl _) m
def mNever : MS := fun _ _ => False
theorem den_never : DenS g E tNever mNever := fun f H0 H σ env D D' R ok m => m.elim
def mSeq (ms mz : MS) : MS := fun D env => ms { D with nx := mz D } env
theorem den_seq (h1 : DenS g E ts ms) (h2 : DenS g E tz mz) : DenS g E (tSeq ts tz) (mSeq ms mz) := fun f H0 H σ env D D' R ok m =>
  h1 f H0 H σ env _ { D' with nx := mz D' } R ⟨fun σ1 env1 H01 H1 R1 e q => h2 f H01 H1 σ1 env1 D D' R1 (ok.up e) q, ok.rt, ok.bk, ok.ct, ok.ex⟩ m
def mIfS (mt : MT) (m1 m2 : MS) : MS := fun D env => mt env (fun b => match b with
  | true => m1 D env
  | false => m2 D env) D.ex
theorem den_ifS (h : DenT g E tt mt) (h1 : DenS g E ts ms) (h2 : DenS g E tz mz) : DenS g E (tIfS tt ts tz) (mIfS mt ms mz) := fun f H0 H σ env D D' R ok m =>
  h f H0 H σ env _ _ _ R ok.ex (fun b H01 H1 S q => by
    cases b with
    | true => exact h1 f H01 H1 σ env D D' (R.step S) (ok.up S.e0) q
    | false => exact h2 f H01 H1 σ env D D' (R.step S) (ok.up S.e0) q) m
/-- a name's own object is let go ahead of the statement -/
def mFz (i : Nat) (ms : MS) : MS := fun D env => match env[i]? with
  | some (.ow x) => ms D (env.set i (.fz x))
  | _ => False
theorem den_fz {i : Nat} (h : DenS g E ts ms) : DenS g E ts (mFz i ms) := fun f H0 H σ env D D' R ok m => by
  unfold mFz at m
  split at m
  · next x e =>
    obtain ⟨H0', e0, R'⟩ := R.freeze e
    exact h f H0' H σ _ D D' R' (ok.up e0) m
  · exact m.elim
/-- xs.append(e) -/
def mApp (i : Nat) (me : ME) : MS := fun D env => match env[i]? with
  | some (.ow (.lst xs)) => me env (fun y => xs.length < 100000 ∧ D.nx (env.set i (.ow (.lst (xs ++ [y]))))) D.ex
  | _ => False
theorem Rel.lstAt {i : Nat} {xs : List D} (R : Rel g f H0 H σ env) (e : env[i]? = some (.ow (.lst xs))) : ∃ a vs, σ[i]? = some (some (.ref a)) ∧ H a = some (.lst vs) ∧ RpA g.K f.d H0 vs xs := by
  obtain ⟨a, h1, w⟩ : ∃ a, σ[i]? = some (some (.ref a)) ∧ Ow g f H0 H a (.lst xs) := R.cells i _ e
  obtain ⟨o, h2, vs, rfl, h3⟩ := w.ob
  exact ⟨a, vs, h1, h2, h3⟩
theorem Rel.dicAt {i : Nat} {xs : List (Key × D)} (R : Rel g f H0 H σ env) (e : env[i]? = some (.ow (.dic xs))) : ∃ a vs, σ[i]? = some (some (.ref a)) ∧ H a = some (.dK vs) ∧ RpK g.K f.d H0 vs xs := by
  obtain ⟨a, h1, w⟩ : ∃ a, σ[i]? = some (some (.ref a)) ∧ Ow g f H0 H a (.dic xs) := R.cells i _ e
  obtain ⟨o, h2, vs, rfl, h3⟩ := w.ob
  exact ⟨a, vs, h1, h2, h3⟩
theorem den_app {i : Nat} (h : DenE g E te me) : DenS g E (tDrop (tBM g.K "list" rAppend (tVar i) (tCons te tNil))) (mApp i me) := fun f H0 H σ env D D' R ok m => by
  unfold mApp at m
  split at m
  · next xs e =>
    obtain ⟨a, vs, h1, h2, h3⟩ := R.lstAt e
    refine ⟨.ref a, h1, Or.inl ⟨rfl, vs, sq_of h2⟩, h f H0 H σ env _ _ _ R ok.ex (fun v y H01 H1 S r q => ?_) m⟩
    have R1 := R.step S
    obtain ⟨a', vs', g1, g2, g3⟩ := R1.lstAt e
    rw [h1] at g1
    cases g1
    refine ⟨a, vs', v, rfl, rfl, g2, sz_lt (by rw [g3.len]; exact q.1), ?_⟩
    exact ok.nx _ _ H01 _ (R1.mut h1 e (y := .lst (xs ++ [y])) ⟨_, rfl, g3.snoc r⟩) S.e0 q.2
  · exact m.elim
/-- xs.extend(e), e a list -/
def mExt (i : Nat) (me : ME) : MS := fun D env => match env[i]? with
  | some (.ow (.lst xs)) => me env (fun y => match y with
    | .lst ys => xs.length + ys.length ≤ 100000 ∧ D.nx (env.set i (.ow (.lst (xs ++ ys))))
    | _ => False) D.ex
  | _ => False
theorem den_ext {i : Nat} (h : DenO g E te me) : DenS g E (tDrop (tBM g.K "list" rExtend (tVar i) (tCons te tNil))) (mExt i me) := fun f H0 H σ env D D' R ok m => by
  unfold mExt at m
  split at m
  · next xs e =>
    obtain ⟨a, vs, h1, h2, h3⟩ := R.lstAt e
    refine ⟨.ref a, h1, Or.inl ⟨rfl, vs, sq_of h2⟩, h f H0 H σ env _ _ _ R ok.ex (fun v y H01 H1 S r q => ?_) m⟩
    have R1 := R.step S
    obtain ⟨a', vs', g1, g2, g3⟩ := R1.lstAt e
    rw [h1] at g1
    cases g1
    cases y with
    | lst ys =>
      obtain ⟨b, ws, rfl, b2, b3⟩ := sh_lst R1 r
      refine ⟨a, b, vs', ws, rfl, rfl, g2, b2, sz_of (by rw [g3.len, b3.len]; exact q.1), ?_⟩
      exact ok.nx _ _ H01 _ (R1.mut h1 e (y := .lst (xs ++ ys)) ⟨_, rfl, b3.append g3⟩) S.e0 q.2
    | _ => exact q.elim
  · exact m.elim
/-- xs[k] = e -/
def mSetL (i : Nat) (mk me : ME) : MS := fun D env => me env (fun y => match env[i]? with
  | some (.ow (.lst xs)) => mk env (fun k => match k with
    | .int k => ∃ j, ixN xs.length k = some j ∧ D.nx (env.set i (.ow (.lst (xs.set j y))))
    | _ => False) D.ex
  | _ => False) D.ex
theorem den_setL {i : Nat} {tk : TE} {mk : ME} (hk : DenE g E tk mk) (h : DenE g E te me) : DenS g E (tAsg te (gSub (tVar i) tk rSetL)) (mSetL i mk me) := fun f H0 H σ env D D' R ok m =>
  h f H0 H σ env _ _ _ R ok.ex (fun v y H01 H1 S r q => by
    split at q
    · next xs e =>
      have R1 := R.step S
      obtain ⟨a, vs, h1, h2, h3⟩ := R1.lstAt e
      refine ⟨.ref a, h1, hk f H01 H1 σ env _ _ _ R1 ok.ex (fun w k H02 H2 S2 r2 q2 => ?_) q⟩
      cases k with
      | int k =>
        cases r2
        obtain ⟨j, hj, q2⟩ := q2
        have R2 := R1.step S2
        obtain ⟨a', vs', g1, g2, g3⟩ := R2.lstAt e
        rw [h1] at g1
        cases g1
        refine ⟨a, vs', k, j, rfl, rfl, g2, by rw [g3.len]; exact hj, ?_⟩
        exact ok.nx _ _ H02 _ (R2.mut h1 e (y := .lst (xs.set j y)) ⟨_, rfl, RpA.set (r.up S2.e0) j g3⟩) (S.trans S2).e0 q2
      | _ => exact q2.elim
    · exact q.elim) m
/-! ### while -/
def mWhile (mt : MT) (ms : MS) : MS := fun D env => ∃ W : Nat → Env → Prop, (∃ n, W n env) ∧ ∀ n env1, W n env1 → mt env1 (fun b => match b with
  | true => ∃ N : Env → Prop, (∀ env2, N env2 → ∃ n2, n2 < n ∧ W n2 env2) ∧ ms { D with nx := N, ct := N, bk := D.nx } env1
  | false => D.nx env1) D.ex
theorem den_while (h : DenT g E tt mt) (hs : DenS g E ts ms) : DenS g E (tWhile tt ts) (mWhile mt ms) := fun f H0 H σ env D D' R ok m => by
  obtain ⟨W, ⟨n0, w0⟩, turn⟩ := m
  refine ⟨fun n σ1 H1 => ∃ env1 H01, Rel g f H01 H1 σ1 env1 ∧ Ex H0 H01 ∧ W n env1, ⟨n0, env, H0, R, Ex.refl _, w0⟩, ?_⟩
  rintro n σ1 H1 ⟨env1, H01, R1, e1, w1⟩
  refine h f H01 H1 σ1 env1 _ _ _ R1 ok.ex (fun b H02 H2 S2 q => ?_) (turn n env1 w1)
  cases b with
  | true =>
    obtain ⟨N, hN, q⟩ := q
    refine ⟨fun σ2 H3 => ∃ env2 H03, Rel g f H03 H3 σ2 env2 ∧ Ex H0 H03 ∧ N env2, ?_, ?_⟩
    · rintro σ2 H3 ⟨env2, H03, R3, e3, n3⟩
      obtain ⟨n2, hn, w2⟩ := hN env2 n3
      exact ⟨n2, hn, env2, H03, R3, e3, w2⟩
    · have e2 := e1.trans S2.e0
      refine hs f H02 H2 σ1 env1 _ { D' with nx := N, ct := N, bk := D'.nx } (R1.step S2) ⟨fun σ3 env3 H03 H3 R3 e3 q3 => ⟨env3, H03, R3, e2.trans e3, q3⟩, ok.rt, fun σ3 env3 H03 H3 R3 e3 q3 => ok.nx _ _ H03 H3 R3 (e2.trans e3) q3, fun σ3 env3 H03 H3 R3 e3 q3 => ⟨env3, H03, R3, e2.trans e3, q3⟩, ok.ex⟩ q
  | false => exact ok.nx _ _ H02 H2 (R1.step S2) (e1.trans S2.e0) q
/-! ### what is walked -/
structure Walks (g : G) (f : Fr) (ps : List Nat) (σ : L2.St) (env : Env) (H0 : Hp) (J : It) (xs : List D) : Prop where
  stop : ∀ H01 H1 σ1 env1, Rel g f H01 H1 σ1 env1 → Ex H0 H01 → (∀ p ∈ ps, σ1[p]? = σ[p]? ∧ env1[p]? = env[p]?) → J.stop xs.length H1
  go : ∀ i H01 H1 σ1 env1, i < xs.length → Rel g f H01 H1 σ1 env1 → Ex H0 H01 → (∀ p ∈ ps, σ1[p]? = σ[p]? ∧ env1[p]? = env[p]?) → J.go i H1
  yld : ∀ i v H01 H1 H2 σ1 env1, i < xs.length → Rel g f H01 H1 σ1 env1 → Ex H0 H01 → (∀ p ∈ ps, σ1[p]? = σ[p]? ∧ env1[p]? = env[p]?) → J.yld i H1 v H2 → ∃ H02 x, xs[i]? = some x ∧ Stp g f H01 H1 H02 H2 ∧ Rp g.K f.d H02 v x
abbrev MI := Env → M (List D)
def DenI (g : G) (E : XK) (wi : TI) (mi : MI) (ps : List Nat) : Prop := ∀ (f : Fr) (H0 H : Hp) (σ : L2.St) (env : Env) (R : It → Hp → Prop) (R' : List D → Prop) (E' : XV → Prop), Rel g f H0 H σ env → XOk g E f E' →
  (∀ J xs H01 H1, Stp g f H0 H H01 H1 → Walks g f ps σ env H01 J xs → R' xs → R J H1) → mi env R' E' → wi σ H R
/-! ### for -/
def forL (mg : MG) (ms : MS) (De : MD) : List D → Env → Prop
  | [], env => De.nx env
  | x :: xs, env => mg x env (fun env1 => ms { De with nx := forL mg ms De xs, ct := forL mg ms De xs, bk := De.nx } env1)
def mFor (mi : MI) (mg : MG) (ms : MS) : MS := fun D env => mi env (fun xs => forL mg ms D xs env) D.ex
theorem den_for {wi : TI} {mi : MI} {tg : TG} {mg : MG} {vs : List Nat} (hi : DenI g E wi mi []) (hg : DenG g tg mg vs) (hs : DenS g E ts ms) : DenS g E (tFor wi tg ts) (mFor mi mg ms) := fun f H0 H σ env D D' R ok m =>
  hi f H0 H σ env _ _ _ R ok.ex (fun J xs H01 H1 S w q => by
    have em : ∀ (σ1 : L2.St) (env1 : Env), ∀ p ∈ ([] : List Nat), σ1[p]? = σ[p]? ∧ env1[p]? = env[p]? := fun _ _ p hp => by cases hp
    refine ⟨fun i n σ2 H2 => ∃ env2 H02, n = xs.length - i ∧ i ≤ xs.length ∧ Rel g f H02 H2 σ2 env2 ∧ Ex H01 H02 ∧ forL mg ms D' (xs.drop i) env2, ⟨xs.length, env, H01, rfl, Nat.zero_le _, R.step S, Ex.refl _, q⟩, ?_⟩
    rintro i n σ2 H2 ⟨env2, H02, rfl, hi, R2, e2, q2⟩
    by_cases h : i < xs.length
    · right
      refine ⟨w.go i H02 H2 σ2 env2 h R2 e2 (em _ _), fun σ3 H3 => ∃ env3 H03, Rel g f H03 H3 σ3 env3 ∧ Ex H01 H03 ∧ forL mg ms D' (xs.drop (i + 1)) env3, ?_, ?_⟩
      · rintro σ3 H3 ⟨env3, H03, R3, e3, q3⟩
        exact ⟨xs.length - (i + 1), by omega, env3, H03, rfl, by omega, R3, e3, q3⟩
      · intro v H3 hy
        obtain ⟨H03, x, hx, S3, r3⟩ := w.yld i v H02 H2 H3 σ2 env2 h R2 e2 (em _ _) hy
        have ed : xs.drop i = x :: xs.drop (i + 1) := by
          have hx' : xs[i] = x := by rw [List.getElem?_eq_getElem h] at hx; exact Option.some.inj hx
          rw [← hx']
          exact List.drop_eq_getElem_cons h
        rw [ed] at q2
        refine hg f H03 H3 σ2 env2 v x _ _ (R2.step S3) r3 (fun σ4 env4 R4 _ _ q4 => ?_) q2
        have e3 := e2.trans S3.e0
        exact hs f H03 H3 σ4 env4 _ { D' with nx := forL mg ms D' (xs.drop (i + 1)), ct := forL mg ms D' (xs.drop (i + 1)), bk := D'.nx } R4 ⟨fun σ5 env5 H05 H5 R5 e5 q5 => ⟨env5, H05, R5, e3.trans e5, q5⟩, ok.rt, fun σ5 env5 H05 H5 R5 e5 q5 => ok.nx _ _ H05 H5 R5 ((S.e0.trans e3).trans e5) q5, fun σ5 env5 H05 H5 R5 e5 q5 => ⟨env5, H05, R5, e3.trans e5, q5⟩, ok.ex⟩ q4
    · left
      have e : i = xs.length := by omega
      subst e
      rw [List.drop_length] at q2
      exact ⟨w.stop H02 H2 σ2 env2 R2 e2 (em _ _), ok.nx _ _ H02 H2 R2 (S.e0.trans e2) q2⟩) m
/-! ### comprehensions -/
def wipeE (env : Env) : List Nat → Env
  | [] => env
  | v :: vs => (wipeE env vs).set v .un
theorem wipeE_len (env : Env) : ∀ vs : List Nat, (wipeE env vs).length = env.length
  | [] => rfl
  | v :: vs => by unfold wipeE; rw [List.length_set, wipeE_len env vs]
theorem wipeE_out {i : Nat} : ∀ {vs : List Nat}, i ∉ vs → (wipeE env vs)[i]? = env[i]?
  | [], _ => rfl
  | v :: vs, h => by
    unfold wipeE
    rw [List.getElem?_set_ne (fun z => h (by simp [z])), wipeE_out fun z => h (List.mem_cons_of_mem _ z)]
theorem wipeE_in {i : Nat} {c : Cell} : ∀ {vs : List Nat}, i ∈ vs → (wipeE env vs)[i]? = some c → c = .un
  | v :: vs, h, e => by
    unfold wipeE at e
    rcases get_set e with ⟨_, h, _⟩ | ⟨n, e⟩
    · exact h
    · exact wipeE_in (by rcases List.mem_cons.mp h with z | z; exact absurd z n; exact z) e
theorem wipe_outS {i : Nat} : ∀ {vs : List Nat}, i ∉ vs → (wipe σ vs)[i]? = σ[i]?
  | [], _ => rfl
  | v :: vs, h => by
    unfold wipe
    rw [List.getElem?_set_ne (fun z => h (by simp [z])), wipe_outS fun z => h (List.mem_cons_of_mem _ z)]
theorem wipe_in {i : Nat} : ∀ {vs : List Nat}, i ∈ vs → (wipe σ vs)[i]? = if i < σ.length then some none else none
  | v :: vs, h => by
    unfold wipe
    by_cases e : i = v
    · subst e
      by_cases l : i < σ.length
      · rw [List.getElem?_set_self (by rw [wipe_length]; exact l), if_pos l]
      · rw [List.getElem?_eq_none (by rw [List.length_set, wipe_length]; omega), if_neg l]
    · rw [List.getElem?_set_ne (fun z => e z.symm)]
      exact wipe_in (by rcases List.mem_cons.mp h with z | z; exact absurd z e; exact z)
theorem Rel.wipe {vs : List Nat} (R : Rel g f H0 H σ env) : Rel g f H0 H (L2.wipe σ vs) (wipeE env vs) where
  fm := R.fm
  len := by rw [wipe_length, wipeE_len]; exact R.len
  cells := fun i c h => by
    by_cases hi : i ∈ vs
    · rw [wipeE_in hi h]; trivial
    · rw [wipeE_out hi] at h
      rw [wipe_outS hi]
      exact R.cells i c h
  dist := fun i j a x y hn h1 h2 h3 h4 => by
    have ni : i ∉ vs := fun z => by have := wipeE_in z h3; cases this
    have nj : j ∉ vs := fun z => by have := wipeE_in z h4; cases this
    rw [wipeE_out ni] at h3
    rw [wipeE_out nj] at h4
    rw [wipe_outS ni] at h1
    rw [wipe_outS nj] at h2
    exact R.dist i j a x y hn h1 h2 h3 h4
theorem wipe_same {σ1 : L2.St} {vs : List Nat} (hl : σ1.length = σ.length) (h : ∀ i, i ∉ vs → σ1[i]? = (L2.wipe σ vs)[i]?) : L2.wipe σ1 vs = L2.wipe σ vs := by
  apply List.ext_getElem?
  intro i
  by_cases hi : i ∈ vs
  · rw [wipe_in hi, wipe_in hi, hl]
  · rw [wipe_outS hi, h i hi]
def lcL (mg : MG) (mt : MT) (me : ME) (env0 : Env) : List D → (List D → Prop) → (XV → Prop) → Prop
  | [], Q, _ => Q []
  | x :: xs, Q, E => mg x env0 (fun env1 => mt env1 (fun b => match b with
    | true => me env1 (fun y => lcL mg mt me env0 xs (fun ys => Q (y :: ys)) E) E
    | false => lcL mg mt me env0 xs Q E) E)
def mLc (mi : MI) (mg : MG) (mt : MT) (me : ME) (vs : List Nat) : ME := fun env Q E => mi env (fun xs => xs.length ≤ 40000 ∧ lcL mg mt me (wipeE env vs) xs (fun ys => Q (.lst ys)) E) E
def mYes : MT := fun _ Q _ => Q true
theorem den_yes : DenT g E tYes mYes := fun f H0 H σ env Q Q' E' R X k m => k true H0 H (Stp.refl R) m
/-- an object that is no one's yet may change -/
theorem Stp.mut {p : Addr} {o : HO} (S : Stp g f H0 H H01 H1) (hp : H p = none) (h0 : H01 p = none) : Stp g f H0 H H01 (upd H1 p o) := by
  have nd : p ≠ f.d := fun z => S.dom.1 (z ▸ hp)
  have nl : p ≠ f.l := fun z => S.dom.2 (z ▸ hp)
  exact {
    ex := Ex.mut S.ex h0
    ok := g.up S.ok (fun o h => by rw [upd_ne (show f.d ≠ p from Ne.symm nd)]; exact h) (fun o h => by rw [upd_ne (show f.l ≠ p from Ne.symm nl)]; exact h)
    nd := S.nd
    nl := S.nl
    e0 := S.e0
    new := S.new
    keep := fun b u h1 h2 h => by
      have q : b ≠ p := fun z => by
        have h : H b = some u := h
        rw [z, hp] at h; cases h
      rw [upd_ne q]; exact S.keep b u h1 h2 h
    dom := S.dom }
theorem Stp.hid {p : Addr} {o : HO} {H02 H2 : Hp} (S : Stp g f H01 H1 H02 H2) (h0 : H01 p = none) (h1 : H1 p = some o) (nd : p ≠ f.d) (nl : p ≠ f.l) : H02 p = none ∧ H2 p = some o := by
  refine ⟨?_, S.keep p o nd nl h1⟩
  cases z : H02 p with
  | none => rfl
  | some u =>
    rcases S.new p u z with y | y
    · rw [show H01 p = some u from y] at h0; cases h0
    · rw [show H1 p = none from y] at h1; cases h1
theorem den_lc {wi : TI} {mi : MI} {tg : TG} {mg : MG} {vs ps : List Nat} (hi : DenI g E wi mi ps) (hg : DenG g tg mg vs) (ht : DenT g E tt mt) (he : DenE g E te me) (hp : ps.all (fun p => !vs.contains p) = true) : DenF g E (tLc wi tg tt te vs) (mLc mi mg mt me vs) := fun f H0 H σ env Q Q' E' R X k m =>
  hi f H0 H σ env _ _ _ R X (fun J xs H01 H1 S w q p hp1 => by
    obtain ⟨hsz, q⟩ := q
    obtain ⟨he1, nd, nl, h0p⟩ := (R.step S).fm.fresh hp1
    have hpH : H p = none := (Fm.fresh S hp1).1
    have out : ∀ (σ1 : L2.St) (env1 : Env), (∀ i, i ∉ vs → σ1[i]? = (L2.wipe σ vs)[i]? ∧ env1[i]? = (wipeE env vs)[i]?) → ∀ p ∈ ps, σ1[p]? = σ[p]? ∧ env1[p]? = env[p]? := fun σ1 env1 h p hpp => by
      have hv : p ∉ vs := fun z => by
        have := List.all_eq_true.mp hp p hpp
        simp at this
        exact this z
      rw [(h p hv).1, (h p hv).2, wipe_outS hv, wipeE_out hv]
      exact ⟨rfl, rfl⟩
    have R1 := R.step S
    have Rw : Rel g f H01 H1 (L2.wipe σ vs) (wipeE env vs) := R1.wipe
    refine ⟨fun i n H2 => ∃ H02 acc ds, n = xs.length - i ∧ i ≤ xs.length ∧ Stp g f H01 H1 H02 H2 ∧ H02 p = none ∧ H2 p = some (.lst acc) ∧ RpA g.K f.d H02 acc ds ∧ acc.length ≤ i ∧ lcL mg mt me (wipeE env vs) (xs.drop i) (fun ys => Q' (.lst (ds ++ ys))) E', ⟨xs.length, H01, [], [], rfl, Nat.zero_le _, Fm.lay R1.fm hp1, h0p, upd_same, .nil, Nat.zero_le _, q⟩, ?_⟩
    rintro i n H2 ⟨H02, acc, ds, rfl, hi, S2, h2p, h2, r2, hl, q2⟩
    have R2 : Rel g f H02 H2 (L2.wipe σ vs) (wipeE env vs) := Rw.step S2
    by_cases h : i < xs.length
    · right
      refine ⟨w.go i H02 H2 σ env h (R1.step S2) S2.e0 (fun _ _ => ⟨rfl, rfl⟩), fun H3 => ∃ H03 acc ds, Stp g f H01 H1 H03 H3 ∧ H03 p = none ∧ H3 p = some (.lst acc) ∧ RpA g.K f.d H03 acc ds ∧ acc.length ≤ i + 1 ∧ lcL mg mt me (wipeE env vs) (xs.drop (i + 1)) (fun ys => Q' (.lst (ds ++ ys))) E', ?_, ?_⟩
      · rintro H3 ⟨H03, acc, ds, a1, a2, a3, a4, a5, a6⟩
        exact ⟨xs.length - (i + 1), by omega, H03, acc, ds, rfl, by omega, a1, a2, a3, a4, a5, a6⟩
      · intro v H3 hy
        obtain ⟨H03, x, hx, S3, r3⟩ := w.yld i v H02 H2 H3 σ env h (R1.step S2) S2.e0 (fun _ _ => ⟨rfl, rfl⟩) hy
        have ed : xs.drop i = x :: xs.drop (i + 1) := by
          have hx' : xs[i] = x := by rw [List.getElem?_eq_getElem h] at hx; exact Option.some.inj hx
          rw [← hx']
          exact List.drop_eq_getElem_cons h
        rw [ed] at q2
        obtain ⟨h3p, h3⟩ := S3.hid h2p h2 nd nl
        have S23 := S2.trans S3
        refine hg f H03 H3 (L2.wipe σ vs) (wipeE env vs) v x _ _ (R2.step S3) r3 (fun σ4 env4 R4 l4 k4 q4 => ?_) q2
        refine ⟨wipe_same (by rw [l4, wipe_length]) (fun i hi => (k4 i hi).1), ?_⟩
        refine ht f H03 H3 σ4 env4 _ _ E' R4 X (fun b H04 H4 S4 q5 => ?_) q4
        obtain ⟨h4p, h4⟩ := S4.hid h3p h3 nd nl
        cases b with
        | true =>
          refine he f H04 H4 σ4 env4 _ _ E' (R4.step S4) X (fun y x5 H05 H5 S5 r5 q6 => ?_) q5
          obtain ⟨h5p, h5⟩ := S5.hid h4p h4 nd nl
          refine ⟨acc, h5, sz_lt (by omega), ?_⟩
          refine ⟨H05, acc ++ [y], ds ++ [x5], Stp.mut ((S23.trans S4).trans S5) hp1 h5p, h5p, upd_same, (((r2.up S3.e0).up S4.e0).up S5.e0).snoc r5, by rw [List.length_append]; simp; exact hl, ?_⟩
          have e : (fun ys => Q' (.lst (ds ++ [x5] ++ ys))) = fun ys => Q' (.lst (ds ++ x5 :: ys)) := by
            funext ys
            rw [List.append_assoc]
            rfl
          rw [e]
          exact q6
        | false =>
          exact ⟨H04, acc, ds, S23.trans S4, h4p, h4, (r2.up S3.e0).up S4.e0, by omega, q5⟩
    · left
      have e : i = xs.length := by omega
      subst e
      rw [List.drop_length] at q2
      refine ⟨w.stop H02 H2 σ env (R1.step S2) S2.e0 (fun _ _ => ⟨rfl, rfl⟩), ?_⟩
      have q3 : Q' (.lst (ds ++ [])) := q2
      rw [List.append_nil] at q3
      exact k p (.lst acc) (.lst ds) H02 H2 (S.trans S2) hpH h2p h2 ⟨acc, rfl, r2⟩ q3) m
end
/-! ### a whole def -/
def mFn (n N : Nat) (ms : MS) : List D → M D := fun xs Q E => xs.length = n ∧ ms { nx := fun _ => Q .non, rt := Q, ex := E } (xs.map Cell.fz ++ List.replicate (N - n) .un)
theorem rel_start {g : G} {f : Fr} {vs : List V} {xs : List D} {N : List Str} (F : Fm g f f.E0 f.He) (r : RpA g.K f.d f.E0 vs xs) (hn : vs.length ≤ N.length) : Rel g f f.E0 f.He (start N vs) (xs.map Cell.fz ++ List.replicate (N.length - vs.length) .un) where
  fm := F
  len := by unfold L2.start; rw [List.length_append, List.length_append, List.length_map, List.length_map, List.length_replicate, List.length_replicate, r.len]
  cells := fun i c h => by
    unfold L2.start
    by_cases hi : i < xs.length
    · rw [List.getElem?_append_left (by rw [List.length_map]; exact hi), List.getElem?_map] at h
      rw [List.getElem?_append_left (by rw [List.length_map, r.len]; exact hi), List.getElem?_map]
      cases e : xs[i]? with
      | none => rw [e] at h; cases h
      | some x =>
        rw [e] at h
        cases h
        obtain ⟨v, h1, h2⟩ := r.gets e
        rw [h1]
        exact ⟨v, rfl, h2⟩
    · rw [List.getElem?_append_right (by rw [List.length_map]; omega)] at h
      have := List.mem_of_getElem? h
      rw [List.eq_of_mem_replicate this]
      trivial
  dist := fun i j a x y _ _ _ h3 _ => by
    have : Cell.ow x ∈ (xs.map Cell.fz ++ List.replicate (N.length - vs.length) Cell.un) := List.mem_of_getElem? h3
    rcases List.mem_append.mp this with h | h
    · obtain ⟨z, _, e⟩ := List.mem_map.mp h
      cases e
    · cases List.eq_of_mem_replicate h
theorem rd_fn {g : G} {n : Nat} {N : List Str} {ts : TS} {ms : MS} {vs : List V} {H : Hp} {Q : VK} {E : XK} (h : spX g n (mFn n N.length ms) vs H Q E) (hd : DenS g E ts ms) (hn : n ≤ N.length) : ts { nx := fun _ H2 => Q .non H2, rt := Q } (start N vs) H := by
  obtain ⟨f, xs, Q', E', rfl, F, hl, r, X, k, m⟩ := h
  have R := rel_start (N := N) F r (by omega)
  rw [hl] at R
  exact hd f f.E0 f.He _ _ _ { nx := fun _ => Q' .non, rt := Q', ex := E' } R ⟨fun σ env H01 H1 R1 e q => k _ _ H01 H1 R1.fm .non q, k, fun _ _ _ _ _ _ q => q.elim, fun _ _ _ _ _ _ q => q.elim, X⟩ m.2
end VM

/-! Operators and built-ins over any kind of value. -/
namespace VM
open PySem PySem.Spec PyProof.Rows L2 Evl HG HL
/-! ### either rule -/
section
variable {X : Cx}
theorem opOr {o : Value → Value → Sem Value} {r r' : R2} (h : OpR X o r) (h' : OpR X o r') : OpR X o (fun x y H Q => r x y H Q ∨ r' x y H Q) :=
  fun pins s σ H x y v u Q I rx ry q => q.elim (h pins s σ H x y v u Q I rx ry) (h' pins s σ H x y v u Q I rx ry)
theorem callOr {o : Value} {r r' : List V → Hp → VK → Prop} (h : CallR X o r) (h' : CallR X o r') : CallR X o (fun xs H Q => r xs H Q ∨ r' xs H Q) :=
  fun pins s σ H xs us Q I rx q => q.elim (h pins s σ H xs us Q I rx) (h' pins s σ H xs us Q I rx)
theorem ixOr {r r' : R2} (h : IxR X r) (h' : IxR X r') : IxR X (fun x y H Q => r x y H Q ∨ r' x y H Q) :=
  fun a b pins s σ H x y v u Q I rx ry q e => q.elim (fun q => h a b pins s σ H x y v u Q I rx ry q e) (fun q => h' a b pins s σ H x y v u Q I rx ry q e)
end
section
variable {g : G} {E : XK} {f : Fr} {H0 H H01 H1 : Hp} {σ : L2.St} {env : Env} {ta tb te : TE} {ma mb me : ME}
/-! the data of equal kinds, as the layer's own data -/
mutual
def D.py : D → PyData
  | .non => .none
  | .bl b => .bool b
  | .int i => .int i
  | .str s => .str s
  | .tup xs => .tuple (pys xs)
  | .lst xs => .list (pys xs)
  | .dic _ => .none
  | .ty _ => .none
  | .deck => .none
def pys : List D → List PyData
  | [] => []
  | x :: xs => x.py :: pys xs
end
mutual
def D.isPy : D → Bool
  | .non => true
  | .bl _ => true
  | .int _ => true
  | .str _ => true
  | .tup xs => arePy xs
  | .lst xs => arePy xs
  | .dic _ => false
  | .ty _ => false
  | .deck => false
def arePy : List D → Bool
  | [] => true
  | x :: xs => x.isPy && arePy xs
end
theorem pys_map : ∀ xs : List D, pys xs = xs.map D.py
  | [] => rfl
  | x :: xs => by rw [List.map_cons, ← pys_map xs]; rfl
end
section
variable {K : PySem.W.Frag} {dk : Addr} {H : Hp}
mutual
theorem Rp.dp : ∀ {v : V} {x : D}, Rp K dk H v x → x.isPy = true → Dp K H v x.py
  | _, _, .non, _ => .non
  | _, _, .bl b, _ => .bl b
  | _, _, .int i, _ => .int i
  | _, _, .str s, _ => .str s
  | _, _, .tup h1 h2, h => .tup h1.sq (RpA.dp h2 h)
  | _, _, .lst h1 h2, h => .lst (sq_of h1) (RpA.dp h2 h)
  | _, _, .ty n, h => nomatch h
  | _, _, .dic _ _, h => nomatch h
  | _, _, .deck, h => nomatch h
theorem RpA.dp : ∀ {vs : List V} {xs : List D}, RpA K dk H vs xs → arePy xs = true → DpAll K H vs (pys xs)
  | _, _, .nil, _ => .nil
  | _, _, .cons h1 h2, h => .cons (Rp.dp h1 (Bool.and_eq_true_iff.mp h).1) (RpA.dp h2 (Bool.and_eq_true_iff.mp h).2)
end
end
section
variable {g : G} {E : XK} {f : Fr} {H0 H H01 H1 : Hp} {σ : L2.St} {env : Env} {ta tb te : TE} {ma mb me : ME} {v w : V} {x y : D}
theorem sh_dp (R : Rel g f H0 H σ env) (h : Sh g f H0 σ env v x) (hp : x.isPy = true) : Dp g.K H v x.py := by
  rcases h with h | ⟨i, h1, h2⟩
  · exact (h.up R.fm.ex).dp hp
  · obtain ⟨a, h3, w⟩ : ∃ a, σ[i]? = some (some (.ref a)) ∧ Ow g f H0 H a x := R.cells i _ h2
    rw [h1] at h3
    cases h3
    obtain ⟨o, h4, h5⟩ := w.ob
    cases x with
    | lst xs =>
      obtain ⟨vs, rfl, h6⟩ := h5
      exact .lst (sq_of h4) ((h6.up R.fm.ex).dp hp)
    | dic kvs => cases hp
    | _ => exact h5.elim
/-! ### + - * // % ** & -/
abbrev rAddS : R2 := fun x y H Q => ∃ i j, x = .str i ∧ y = .str j ∧ i.length + j.length ≤ sizeLine ∧ Q (.str (i ++ j)) H
def rAddU (K : PySem.W.Frag) : R2 := fun x y H Q => rAdd0 x y H Q ∨ (rCatA K x y H Q ∨ (rCat x y H Q ∨ rAddS x y H Q))
theorem op_addU {X : Cx} : OpR X (binaryOp .Add) (rAddU X.K) := opOr op_add (opOr op_catA (opOr op_cat op_add_str))
def hAdd : D → D → M D
  | .int i, .int j => fun Q _ => Q (.int (i + j))
  | .str a, .str b => fun Q _ => a.length + b.length ≤ sizeLine ∧ Q (.str (a ++ b))
  | .tup xs, .tup ys => fun Q _ => xs.length + ys.length ≤ 100000 ∧ Q (.tup (xs ++ ys))
  | .lst xs, .lst ys => fun Q _ => xs.length + ys.length ≤ 100000 ∧ Q (.lst (xs ++ ys))
  | _, _ => bad
theorem put_lst {p : Addr} {vs : List V} {xs : List D} (S : Stp g f H0 H H01 H1) (hp : H1 p = none) (h : RpA g.K f.d H01 vs xs) : Stp g f H0 H (upd H01 p (.lst vs)) (upd H1 p (.lst vs)) ∧ Rp g.K f.d (upd H01 p (.lst vs)) (.ref p) (.lst xs) :=
  ⟨S.put hp, .lst upd_same (h.up (Ex.new (Fm.fresh S hp).2.2.2))⟩
theorem do_add : DenOpK g (rAddU g.K) hAdd := fun f H0 H σ env v w x y Q Q' E' R sx sy k m => by
  cases x <;> cases y <;> try exact m.elim
  · cases sh_int R sx; cases sh_int R sy
    exact .inl ⟨_, _, rfl, rfl, k _ _ H0 H (Stp.refl R) (.int _) m⟩
  · cases sh_str R sx; cases sh_str R sy
    exact .inr (.inr (.inr ⟨_, _, rfl, rfl, m.1, k _ _ H0 H (Stp.refl R) (.str _) m.2⟩))
  · next xs ys =>
    have rx := sh_sc R sx fun _ q => q
    have ry := sh_sc R sy fun _ q => q
    obtain ⟨a, vs, rfl, a2, a3⟩ := sh_tup R sx
    obtain ⟨b, ws, rfl, b2, b3⟩ := sh_tup R sy
    refine .inr (.inl ⟨a, b, vs, ws, rfl, rfl, a2.sq, b2.sq, sz_of (by rw [a3.len, b3.len]; exact m.1), fun e => ?_, fun e e2 => ?_, fun _ _ p hp => ?_⟩)
    · subst e
      cases a3
      exact k _ _ H0 H (Stp.refl R) ry m.2
    · subst e2
      cases b3
      exact k _ _ H0 H (Stp.refl R) rx (by simpa using m.2)
    · obtain ⟨c, d⟩ := put_tup (Stp.refl R) hp (b3.append a3)
      exact k _ _ _ _ c d m.2
  · next xs ys =>
    obtain ⟨a, vs, rfl, a2, a3⟩ := sh_lst R sx
    obtain ⟨b, ws, rfl, b2, b3⟩ := sh_lst R sy
    refine .inr (.inr (.inl ⟨a, b, vs, ws, rfl, rfl, a2, b2, sz_of (by rw [a3.len, b3.len]; exact m.1), fun p hp => ?_⟩))
    obtain ⟨c, d⟩ := put_lst (Stp.refl R) hp (b3.append a3)
    exact k _ _ _ _ c d m.2
def hInt (h : Int → Int → Int) : D → D → M D
  | .int i, .int j => fun Q _ => Q (.int (h i j))
  | _, _ => bad
def hIntC (c : Int → Int → Prop) (h : Int → Int → Int) : D → D → M D
  | .int i, .int j => fun Q _ => c i j ∧ Q (.int (h i j))
  | _, _ => bad
theorem do_int {h : Int → Int → Int} : DenOpK g (rI0 fun i j => .int (h i j)) (hInt h) := fun f H0 H σ env v w x y Q Q' E' R sx sy k m => by
  cases x <;> cases y <;> try exact m.elim
  cases sh_int R sx; cases sh_int R sy
  exact ⟨_, _, rfl, rfl, k _ _ H0 H (Stp.refl R) (.int _) m⟩
theorem do_intC {c : Int → Int → Prop} {h : Int → Int → Int} : DenOpK g (rI c fun i j => .int (h i j)) (hIntC c h) := fun f H0 H σ env v w x y Q Q' E' R sx sy k m => by
  cases x <;> cases y <;> try exact m.elim
  cases sh_int R sx; cases sh_int R sy
  exact ⟨_, _, rfl, rfl, m.1, k _ _ H0 H (Stp.refl R) (.int _) m.2⟩
abbrev hSub := hInt fun i j => i - j
abbrev hAnd := hInt fun i j => Builtin.bitAnd i j
abbrev hDiv := hIntC CDivW fun i j => i / j
abbrev hMod := hIntC (fun _ j => 0 < j) fun i j => i % j
abbrev hPow := hIntC CPow fun i j => i ^ j.toNat
def rMulU (K : PySem.W.Frag) : R2 := fun x y H Q => rMulW x y H Q ∨ rRep x y H Q
/-- * of ints of which one is small, or both not too great -/
theorem op_mulU {X : Cx} : OpR X (binaryOp .Mult) (fun x y H Q => rI CMulO (fun i j => .int (i * j)) x y H Q ∨ rRep x y H Q) := opOr op_mulO op_rep
def hMul : D → D → M D
  | .int i, .int j => fun Q _ => CMulO i j ∧ Q (.int (i * j))
  | .lst xs, .int n => fun Q _ => -(2 ^ 63) ≤ n ∧ n < 2 ^ 63 ∧ xs.length * n.toNat ≤ 100000 ∧ Q (.lst (List.replicate n.toNat xs).flatten)
  | _, _ => bad
theorem do_mul : DenOpK g (fun x y H Q => rI CMulO (fun i j => .int (i * j)) x y H Q ∨ rRep x y H Q) hMul := fun f H0 H σ env v w x y Q Q' E' R sx sy k m => by
  cases x <;> cases y <;> try exact m.elim
  · cases sh_int R sx; cases sh_int R sy
    exact .inl ⟨_, _, rfl, rfl, m.1, k _ _ H0 H (Stp.refl R) (.int _) m.2⟩
  · next xs n =>
    obtain ⟨a, vs, rfl, a2, a3⟩ := sh_lst R sx
    cases sh_int R sy
    refine .inr ⟨a, n, vs, rfl, rfl, a2, m.1, m.2.1, sz_of (by rw [a3.len]; exact m.2.2.1), fun p hp => ?_⟩
    obtain ⟨c, d⟩ := put_lst (Stp.refl R) hp (a3.rep n.toNat)
    exact k _ _ _ _ c d m.2.2.2
def hNeg : D → M D
  | .int i => fun Q _ => Q (.int (-i))
  | _ => bad
theorem do_neg : DenU g rNeg hNeg := fun f H0 H σ env v x Q Q' E' R sx k m => by
  cases x <;> try exact m.elim
  cases sh_int R sx
  exact ⟨_, rfl, k _ _ H0 H (Stp.refl R) (.int _) m⟩
/-! ### comparisons -/
def rEqU (K : PySem.W.Frag) : R2 := fun x y H Q => rEq x y H Q ∨ rEqD K x y H Q
def rNeU (K : PySem.W.Frag) : R2 := fun x y H Q => rNe x y H Q ∨ rNeD K x y H Q
theorem op_eqU {X : Cx} (hu : X.A.units + 64 < cLine) : OpR X (compareOp .Eq) (rEqU X.K) := opOr op_eq (op_eqD hu)
theorem op_neU {X : Cx} (hu : X.A.units + 64 < cLine) : OpR X (compareOp .NotEq) (rNeU X.K) := opOr op_ne (op_neD hu)
def D.isStr : D → Option Str
  | .str a => some a
  | _ => none
def hEq : D → D → M D := fun x y Q _ => match x.isStr, y.isStr with
  | some a, some b => Q (.bl (decide (a = b)))
  | _, _ => x.isPy = true ∧ y.isPy = true ∧ SeqAt.shaped x.py = true ∧ SeqAt.shaped y.py = true ∧ Q (.bl (PyData.eqv x.py y.py))
def hNe : D → D → M D := fun x y Q _ => match x.isStr, y.isStr with
  | some a, some b => Q (.bl (!decide (a = b)))
  | _, _ => x.isPy = true ∧ y.isPy = true ∧ SeqAt.shaped x.py = true ∧ SeqAt.shaped y.py = true ∧ Q (.bl (!PyData.eqv x.py y.py))
theorem isStr_of {x : D} {a : Str} (h : x.isStr = some a) : x = .str a := by cases x <;> first | (cases h; rfl) | cases h
theorem do_eq : DenOpK g (rEqU g.K) hEq := fun f H0 H σ env v w x y Q Q' E' R sx sy k m => by
  unfold hEq at m
  split at m
  · next a b ea eb =>
    cases isStr_of ea; cases isStr_of eb
    cases sh_str R sx; cases sh_str R sy
    refine .inl ⟨rfl, k _ _ H0 H (Stp.refl R) (.bl _) ?_⟩
    have e : decide (V.str a = V.str b) = decide (a = b) := by by_cases q : a = b <;> simp [q]
    rw [e]
    exact m
  · exact .inr ⟨_, _, sh_dp R sx m.1, sh_dp R sy m.2.1, m.2.2.1, m.2.2.2.1, k _ _ H0 H (Stp.refl R) (.bl _) m.2.2.2.2⟩
theorem do_ne : DenOpK g (rNeU g.K) hNe := fun f H0 H σ env v w x y Q Q' E' R sx sy k m => by
  unfold hNe at m
  split at m
  · next a b ea eb =>
    cases isStr_of ea; cases isStr_of eb
    cases sh_str R sx; cases sh_str R sy
    refine .inl ⟨rfl, k _ _ H0 H (Stp.refl R) (.bl _) ?_⟩
    have e : decide (V.str a = V.str b) = decide (a = b) := by by_cases q : a = b <;> simp [q]
    rw [e]
    exact m
  · exact .inr ⟨_, _, sh_dp R sx m.1, sh_dp R sy m.2.1, m.2.2.1, m.2.2.2.1, k _ _ H0 H (Stp.refl R) (.bl _) m.2.2.2.2⟩
def hCmp (h : Int → Int → Bool) : D → D → M D
  | .int i, .int j => fun Q _ => Q (.bl (h i j))
  | _, _ => bad
theorem do_cmp {h : Int → Int → Bool} : DenOpK g (rI0 fun i j => .bl (h i j)) (hCmp h) := fun f H0 H σ env v w x y Q Q' E' R sx sy k m => by
  cases x <;> cases y <;> try exact m.elim
  cases sh_int R sx; cases sh_int R sy
  exact ⟨_, _, rfl, rfl, k _ _ H0 H (Stp.refl R) (.bl _) m⟩
def rLtU (K : PySem.W.Frag) : R2 := fun x y H Q => rLt0 x y H Q ∨ rLtT K x y H Q
theorem op_ltU {X : Cx} (hu : X.A.units < cLine) : OpR X (compareOp .Lt) (rLtU X.K) := opOr op_lt (op_ltT hu)
def hLt : D → D → M D
  | .int i, .int j => fun Q _ => Q (.bl (decide (i < j)))
  | .tup xs, .tup ys => fun Q _ => ∃ ns ms : List Int, xs = ns.map D.int ∧ ys = ms.map D.int ∧ Q (.bl (HT.lexLt ns ms))
  | _, _ => bad
theorem do_lt : DenOpK g (rLtU g.K) hLt := fun f H0 H σ env v w x y Q Q' E' R sx sy k m => by
  cases x <;> cases y <;> try exact m.elim
  · cases sh_int R sx; cases sh_int R sy
    exact .inl ⟨_, _, rfl, rfl, k _ _ H0 H (Stp.refl R) (.bl _) m⟩
  · obtain ⟨ns, ms, rfl, rfl, q⟩ := m
    obtain ⟨a, vs, rfl, a2, a3⟩ := sh_tup R sx
    obtain ⟨b, ws, rfl, b2, b3⟩ := sh_tup R sy
    cases a3.ints; cases b3.ints
    exact .inr ⟨a, b, ns, ms, rfl, rfl, a2.sq, b2.sq, k _ _ H0 H (Stp.refl R) (.bl _) q⟩
abbrev hLe := hCmp fun i j => decide (i ≤ j)
abbrev hGt := hCmp fun i j => decide (j < i)
abbrev hGe := hCmp fun i j => decide (j ≤ i)
/-- is, is not: of bools, of None -/
def rIsU : R2 := fun x y H Q => rIs0 x y H Q ∨ (y = .non ∧ Q (.bl (decide (x = .non))) H)
def rNisU : R2 := fun x y H Q => rIsNot0 x y H Q ∨ (y = .non ∧ Q (.bl (!decide (x = .non))) H)
theorem op_isU {X : Cx} : OpR X (compareOp .Is) rIsU := opOr op_is_bl op_isN
theorem op_nisU {X : Cx} : OpR X (compareOp .IsNot) rNisU := opOr op_isnot_bl op_notN
def D.isN : D → Bool
  | .non => true
  | _ => false
def hIs : D → D → M D
  | x, .non => fun Q _ => Q (.bl x.isN)
  | .bl a, .bl b => fun Q _ => Q (.bl (decide (a = b)))
  | _, _ => bad
def hNis : D → D → M D
  | x, .non => fun Q _ => Q (.bl (!x.isN))
  | .bl a, .bl b => fun Q _ => Q (.bl (!decide (a = b)))
  | _, _ => bad
theorem sh_isN (R : Rel g f H0 H σ env) (h : Sh g f H0 σ env v x) : decide (v = .non) = x.isN := by
  rcases h with h | ⟨i, h1, h2⟩
  · cases h <;> rfl
  · obtain ⟨a, h3, w⟩ : ∃ a, σ[i]? = some (some (.ref a)) ∧ Ow g f H0 H a x := R.cells i _ h2
    rw [h1] at h3
    cases h3
    obtain ⟨o, _, h5⟩ := w.ob
    cases x <;> first | exact h5.elim | rfl
theorem do_is : DenOpK g rIsU hIs := fun f H0 H σ env v w x y Q Q' E' R sx sy k m => by
  cases y with
  | non =>
    have m : Q' (.bl x.isN) := by cases x <;> exact m
    refine .inr ⟨sh_non R sy, ?_⟩
    rw [sh_isN R sx]
    exact k _ _ H0 H (Stp.refl R) (.bl _) m
  | bl b =>
    cases x <;> try exact m.elim
    exact .inl ⟨_, _, sh_bl R sx, sh_bl R sy, k _ _ H0 H (Stp.refl R) (.bl _) m⟩
  | _ => cases x <;> exact m.elim
theorem do_nis : DenOpK g rNisU hNis := fun f H0 H σ env v w x y Q Q' E' R sx sy k m => by
  cases y with
  | non =>
    have m : Q' (.bl (!x.isN)) := by cases x <;> exact m
    refine .inr ⟨sh_non R sy, ?_⟩
    rw [sh_isN R sx]
    exact k _ _ H0 H (Stp.refl R) (.bl _) m
  | bl b =>
    cases x <;> try exact m.elim
    exact .inl ⟨_, _, sh_bl R sx, sh_bl R sy, k _ _ H0 H (Stp.refl R) (.bl _) m⟩
  | _ => cases x <;> exact m.elim
/-- x in xs, flat things -/
def D.flat : D → Option V
  | .non => some .non
  | .bl b => some (.bl b)
  | .int i => some (.int i)
  | .str s => some (.str s)
  | _ => none
theorem flat_rp {K : PySem.W.Frag} {dk : Addr} {u : V} (h : Rp K dk H v x) (e : x.flat = some u) : v = u := by
  cases h <;> cases e <;> rfl
theorem flats_rp {K : PySem.W.Frag} {dk : Addr} {vs : List V} : ∀ {xs : List D} {us : List V}, RpA K dk H vs xs → xs.map D.flat = us.map some → vs = us := by
  induction vs with
  | nil => intro xs us h e; cases h; cases us with | nil => rfl | cons u us => cases e
  | cons v vs ih =>
    intro xs us h e
    cases h with
    | cons h1 h2 =>
      cases us with
      | nil => cases e
      | cons u us =>
        injection e with e1 e2
        rw [flat_rp h1 e1, ih h2 e2]
def hInX (neg : Bool) (x : D) (ys : List D) : M D := fun Q _ => ∃ (u : V) (us : List V), x.flat = some u ∧ ys.map D.flat = us.map some ∧ flatV u = true ∧ us.all flatV = true ∧ Q (.bl (if neg then !inV u us else inV u us))
def hIn (neg : Bool) : D → D → M D
  | x, .tup ys => hInX neg x ys
  | x, .lst ys => hInX neg x ys
  | _, _ => bad
theorem sh_flat {u : V} (R : Rel g f H0 H σ env) (h : Sh g f H0 σ env v x) (e : x.flat = some u) : v = u := by
  refine flat_rp (sh_sc R h fun o q => ?_) e
  cases x <;> first | exact q.elim | cases e
theorem do_in {neg : Bool} : DenOpK g (rIn g.K neg) (hIn neg) := fun f H0 H σ env v w x y Q Q' E' R sx sy k m => by
  cases y with
  | tup ys =>
    obtain ⟨u, us, e1, e2, f1, f2, m⟩ := m
    cases sh_flat R sx e1
    obtain ⟨a, vs, rfl, a2, a3⟩ := sh_tup R sy
    cases flats_rp a3 e2
    exact ⟨a, _, rfl, .inr a2.sq, f1, f2, k _ _ H0 H (Stp.refl R) (.bl _) m⟩
  | lst ys =>
    obtain ⟨u, us, e1, e2, f1, f2, m⟩ := m
    cases sh_flat R sx e1
    obtain ⟨a, vs, rfl, a2, a3⟩ := sh_lst R sy
    cases flats_rp a3 e2
    exact ⟨a, _, rfl, .inl (sq_of a2), f1, f2, k _ _ H0 H (Stp.refl R) (.bl _) m⟩
  | _ => exact m.elim
/-! ### a[i], a[lo:hi] -/
def rIxU (K : PySem.W.Frag) : R2 := fun x y H Q => rIxL K x y H Q ∨ rIxT K x y H Q
theorem ix_any {X : Cx} : IxR X (rIxU X.K) := ixOr ix_list ix_tup
def hIxX (xs : List D) (i : Int) : M D := fun Q _ => ∃ u, atI xs i = some u ∧ Q u
def hIx : D → D → M D
  | .tup xs, .int i => hIxX xs i
  | .lst xs, .int i => hIxX xs i
  | _, _ => bad
theorem at_rp {K : PySem.W.Frag} {dk : Addr} {vs : List V} {xs : List D} {i : Int} {u : D} (h : RpA K dk H vs xs) (e : atI xs i = some u) : ∃ v, atI vs i = some v ∧ Rp K dk H v u := by
  unfold atI at e ⊢
  rw [h.len]
  cases q : ixN xs.length i with
  | none => rw [q] at e; cases e
  | some j =>
    rw [q] at e
    exact h.gets e
theorem do_ix : DenOpK g (rIxU g.K) hIx := fun f H0 H σ env v w x y Q Q' E' R sx sy k m => by
  cases x with
  | tup xs =>
    cases y <;> try exact m.elim
    obtain ⟨u, e, m⟩ := m
    obtain ⟨a, vs, rfl, a2, a3⟩ := sh_tup R sx
    cases sh_int R sy
    obtain ⟨z, h1, h2⟩ := at_rp a3 e
    exact .inr ⟨a, vs, _, z, rfl, rfl, a2.sq, h1, k _ _ H0 H (Stp.refl R) h2 m⟩
  | lst xs =>
    cases y <;> try exact m.elim
    obtain ⟨u, e, m⟩ := m
    obtain ⟨a, vs, rfl, a2, a3⟩ := sh_lst R sx
    cases sh_int R sy
    obtain ⟨z, h1, h2⟩ := at_rp a3 e
    exact .inl ⟨a, vs, _, z, rfl, rfl, sq_of a2, h1, k _ _ H0 H (Stp.refl R) h2 m⟩
  | _ => exact m.elim
abbrev MO := Env → M (Option Int)
def DenP (g : G) (E : XK) (to : TO) (mo : MO) : Prop := ∀ (f : Fr) (H0 H : Hp) (σ : L2.St) (env : Env) (Q : Option Int → Hp → Prop) (Q' : Option Int → Prop) (E' : XV → Prop), Rel g f H0 H σ env → XOk g E f E' →
  (∀ i H01 H1, Stp g f H0 H H01 H1 → Q' i → Q i H1) → mo env Q' E' → to σ H Q
def mNoP : MO := fun _ Q _ => Q none
def mP (me : ME) : MO := fun env Q E => me env (fun x => match x with
  | .int i => Q (some i)
  | _ => False) E
theorem den_nop : DenP g E tNoPart mNoP := fun f H0 H σ env Q Q' E' R X k m => k none H0 H (Stp.refl R) m
theorem den_p (h : DenE g E te me) : DenP g E (tPart te) (mP me) := fun f H0 H σ env Q Q' E' R X k m =>
  h f H0 H σ env _ _ E' R X (fun v x H01 H1 S r q => by
    cases x with
    | int i => exact ⟨i, rp_int r, k _ H01 H1 S q⟩
    | _ => exact q.elim) m
/-- a part of a list of data -/
def cutD (xs : List D) (lo hi : Option Int) : List D := (xs.drop (HT.sIx xs.length 0 lo)).take (HT.sIx xs.length xs.length hi - HT.sIx xs.length 0 lo)
theorem cut_rp {K : PySem.W.Frag} {dk : Addr} {vs : List V} {xs : List D} {lo hi : Option Int} (h : RpA K dk H vs xs) : RpA K dk H (cutV vs lo hi) (cutD xs lo hi) := by
  unfold cutV cutD
  rw [h.len]
  exact (h.drop _).take _
def rSlU (K : PySem.W.Frag) : V → Option Int → Option Int → Hp → VK → Prop := fun x lo hi H Q => rSlL K x lo hi H Q ∨ rSlA K x lo hi H Q
theorem sl_any {X : Cx} : L2.SlR X (rSlU X.K) := L2.SlR.or sl_list sl_tupA
def mSl (me : ME) (ml mh : MO) : ME := fun env Q E => me env (fun x => ml env (fun lo => mh env (fun hi => match x with
  | .tup xs => Q (.tup (cutD xs lo hi))
  | .lst xs => Q (.lst (cutD xs lo hi))
  | _ => False) E) E) E
theorem den_sl {tl th : TO} {ml mh : MO} (h : DenO g E te me) (hl : DenP g E tl ml) (hh : DenP g E th mh) : DenE g E (tSl (rSlU g.K) te tl th) (mSl me ml mh) := fun f H0 H σ env Q Q' E' R X k m =>
  h f H0 H σ env _ _ E' R X (fun v x H01 H1 S1 s1 q1 => hl f H01 H1 σ env _ _ E' (R.step S1) X (fun lo H02 H2 S2 q2 => hh f H02 H2 σ env _ _ E' (R.step (S1.trans S2)) X (fun hi H03 H3 S3 q3 => by
    have S := (S1.trans S2).trans S3
    have R3 := R.step S
    have s3 : Sh g f H03 σ env v x := (s1.up S2.e0).up S3.e0
    cases x with
    | tup xs =>
      have rx := sh_sc R3 s3 fun _ q => q
      obtain ⟨a, vs, rfl, a2, a3⟩ := sh_tup R3 s3
      refine .inr ⟨a, vs, rfl, a2.sq, fun e => ?_, fun e p hp => ?_⟩
      · have : cutD xs lo hi = xs := by
          unfold cutD
          rw [← a3.len, e.1, e.2, List.drop_zero, Nat.sub_zero, a3.len, List.take_length]
        have q3 : Q' (.tup (cutD xs lo hi)) := q3
        rw [this] at q3
        exact k _ _ H03 H3 S rx q3
      · obtain ⟨c, d⟩ := put_tup S hp (cut_rp (lo := lo) (hi := hi) a3)
        exact k _ _ _ _ c d q3
    | lst xs =>
      obtain ⟨a, vs, rfl, a2, a3⟩ := sh_lst R3 s3
      refine .inl ⟨a, vs, rfl, sq_of a2, fun p hp => ?_⟩
      obtain ⟨c, d⟩ := put_lst S hp (cut_rp (lo := lo) (hi := hi) a3)
      exact k _ _ _ _ c d q3
    | _ => exact q3.elim) q2) q1) m
def mRevL (me : ME) : ME := fun env Q E => me env (fun x => match x with
  | .lst xs => Q (.lst xs.reverse)
  | _ => False) E
def mRevT (me : ME) : ME := fun env Q E => me env (fun x => match x with
  | .tup xs => Q (.tup xs.reverse)
  | _ => False) E
theorem den_revL (h : DenO g E te me) : DenE g E (tRevL g.K te) (mRevL me) := fun f H0 H σ env Q Q' E' R X k m =>
  h f H0 H σ env _ _ E' R X (fun v x H01 H1 S1 s1 q1 => by
    cases x with
    | lst xs =>
      obtain ⟨a, vs, rfl, a2, a3⟩ := sh_lst (R.step S1) s1
      refine ⟨a, vs, rfl, sq_of a2, fun p hp => ?_⟩
      obtain ⟨c, d⟩ := put_lst S1 hp a3.reverse
      exact k _ _ _ _ c d q1
    | _ => exact q1.elim) m
theorem den_revT (h : DenO g E te me) : DenE g E (HR3.tRevT g.K te) (mRevT me) := fun f H0 H σ env Q Q' E' R X k m =>
  h f H0 H σ env _ _ E' R X (fun v x H01 H1 S1 s1 q1 => by
    cases x with
    | tup xs =>
      obtain ⟨a, vs, rfl, a2, a3⟩ := sh_tup (R.step S1) s1
      refine ⟨a, vs, rfl, a2.sq, fun p hp => ?_⟩
      obtain ⟨c, d⟩ := put_tup S1 hp a3.reverse
      exact k _ _ _ _ c d q1
    | _ => exact q1.elim) m
end
end VM

/-! What is walked, and built-ins. -/
namespace VM
open PySem PySem.Spec PyProof.Rows L2 Evl HG HL
section
variable {X : Cx} {tg : Expr}
/-- a list or a tuple is walked -/
def iSeq (K : PySem.W.Frag) (tl : TE) : TI := fun σ H R => tl σ H fun x H1 => ∃ a, x = .ref a ∧ (((∃ xs, SqL K H1 a xs) ∧ R (Itl K a) H1) ∨ ((∃ xs, SqT K H1 a xs) ∧ R (Itt K a) H1))
theorem pi_seq {l : Expr} {tl : TE} (hl : PE X l tl) : PI X tg l (iSeq X.K tl) := by
  constructor
  intro pins s σ H R I h
  refine thn (hl.run pins s σ H _ I h) ?_
  rintro v s1 ⟨x, H1, I1, r1, a, rfl, q1⟩
  cases r1
  have fresh : ∀ b ∈ [s1.heap.objs.size], FpOk X pins H1 b := by
    intro b hb
    have e : b = s1.heap.objs.size := by simpa using hb
    subst e
    exact I1.fpOk (Nat.le_refl _) (I1.hok.fresh (Nat.le_refl _))
  rcases q1 with ⟨⟨xs, hq⟩, q⟩ | ⟨⟨xs, hq⟩, q⟩
  · obtain ⟨its, rv, p, hz⟩ := I1.list hq
    refine wpAny_pyIter_list p.isList ⟨_, [s1.heap.objs.size], _, _, H1, rfl, ?_, turn_list a _, ?_, fresh, q⟩
    · exact I1.kept (t' := s1.toks) fun b o e => Heap.get?_push_of_some _ e
    · exact ⟨_, Heap.get?_push_size _ rfl, rfl, rfl⟩
  · obtain ⟨its, rv, p, hz⟩ := I1.tuple hq
    refine wpAny_pyIter_tuple (show s1.heap.IsTuple a its.toArray from p) ⟨_, [s1.heap.objs.size], _, _, H1, rfl, ?_, turn_tuple a _, ?_, fresh, q⟩
    · exact I1.kept (t' := s1.toks) fun b o e => Heap.get?_push_of_some _ e
    · exact ⟨_, Heap.get?_push_size _ rfl, rfl, rfl⟩
end
section
variable {g : G} {E : XK} {f : Fr} {H0 H H01 H1 : Hp} {σ : L2.St} {env : Env} {ta tb te : TE} {ma mb me : ME} {v w : V} {x y : D}
def mSeqI (me : ME) : MI := fun env Q E => me env (fun x => match x with
  | .tup xs => Q xs
  | .lst xs => Q xs
  | _ => False) E
theorem get_rp {K : PySem.W.Frag} {dk : Addr} {vs : List V} {xs : List D} (r : RpA K dk H vs xs) {i : Nat} (h : i < xs.length) : ∃ v x, vs[i]? = some v ∧ xs[i]? = some x ∧ Rp K dk H v x := by
  obtain ⟨v, h1, h2⟩ := r.gets (List.getElem?_eq_getElem h)
  exact ⟨v, _, h1, List.getElem?_eq_getElem h, h2⟩
theorem walk_l {a : Addr} {vs : List V} {xs : List D} {ps : List Nat} (r : RpA g.K f.d H0 vs xs) (h : ∀ H01 H1 σ1 env1, Rel g f H01 H1 σ1 env1 → Ex H0 H01 → (∀ p ∈ ps, σ1[p]? = σ[p]? ∧ env1[p]? = env[p]?) → ∃ ws, SqL g.K H1 a ws ∧ RpA g.K f.d H01 ws xs) : Walks g f ps σ env H0 (Itl g.K a) xs where
  stop := fun H01 H1 σ1 env1 R e k => by
    obtain ⟨ws, h1, h2⟩ := h H01 H1 σ1 env1 R e k
    exact ⟨ws, h1, by rw [h2.len]; exact Nat.le_refl _⟩
  go := fun i H01 H1 σ1 env1 hi R e k => by
    obtain ⟨ws, h1, h2⟩ := h H01 H1 σ1 env1 R e k
    obtain ⟨v, x, h3, _, _⟩ := get_rp h2 hi
    exact ⟨ws, v, h1, h3⟩
  yld := fun i v H01 H1 H2 σ1 env1 hi R e k hy => by
    obtain ⟨ws, h1, h2⟩ := h H01 H1 σ1 env1 R e k
    obtain ⟨w, x, h3, h4, h5⟩ := get_rp h2 hi
    obtain ⟨rfl, hy⟩ := hy
    have := hy ws h1
    rw [h3] at this
    cases this
    exact ⟨H01, x, h4, Stp.refl R, h5⟩
theorem walk_t {a : Addr} {vs : List V} {xs : List D} {ps : List Nat} (r : RpA g.K f.d H0 vs xs) (h : SqT g.K H0 a vs) : Walks g f ps σ env H0 (Itt g.K a) xs where
  stop := fun H01 H1 σ1 env1 R e k => ⟨vs, ex_t (e.trans R.fm.ex) h, by rw [r.len]; exact Nat.le_refl _⟩
  go := fun i H01 H1 σ1 env1 hi R e k => by
    obtain ⟨v, x, h3, _, _⟩ := get_rp r hi
    exact ⟨vs, v, ex_t (e.trans R.fm.ex) h, h3⟩
  yld := fun i v H01 H1 H2 σ1 env1 hi R e k hy => by
    obtain ⟨w, x, h3, h4, h5⟩ := get_rp r hi
    obtain ⟨rfl, hy⟩ := hy
    have := hy vs (ex_t (e.trans R.fm.ex) h)
    rw [h3] at this
    cases this
    exact ⟨H01, x, h4, Stp.refl R, h5.up e⟩
theorem rp_lst_at {a : Addr} {xs : List D} (h : Rp g.K f.d H0 (.ref a) (.lst xs)) : ∃ vs, H0 a = some (.lst vs) ∧ RpA g.K f.d H0 vs xs := by
  cases h with | lst h1 h2 => exact ⟨_, h1, h2⟩
theorem rp_tup_at {a : Addr} {xs : List D} (h : Rp g.K f.d H0 (.ref a) (.tup xs)) : ∃ vs, SqT g.K H0 a vs ∧ RpA g.K f.d H0 vs xs := by
  cases h with | tup h1 h2 => exact ⟨_, h1.sq, h2⟩
theorem den_seqI {ps : List Nat} (h : DenE g E te me) : DenI g E (iSeq g.K te) (mSeqI me) ps := fun f H0 H σ env R R' E' r X k m =>
  h f H0 H σ env _ _ E' r X (fun v x H01 H1 S rp q => by
    cases x with
    | tup xs =>
      have rp0 := rp
      cases rp with
      | tup h1 h2 => exact ⟨_, rfl, .inr ⟨⟨_, ex_t S.ex h1.sq⟩, k _ xs H01 H1 S (walk_t h2 h1.sq) q⟩⟩
    | lst xs =>
      cases rp with
      | lst h1 h2 => exact ⟨_, rfl, .inl ⟨⟨_, sq_of (S.ex _ _ h1)⟩, k _ xs H01 H1 S (walk_l h2 fun H02 H2 σ1 env1 R1 e _ => ⟨_, sq_of (R1.fm.ex _ _ (e _ _ h1)), h2.up e⟩) q⟩⟩
    | _ => exact q.elim) m
/-- over a list that a name owns -/
def mOwnI (i : Nat) : MI := fun env Q _ => match env[i]? with
  | some (.ow (.lst xs)) => Q xs
  | _ => False
theorem den_ownI {i : Nat} : DenI g E (iSeq g.K (tVar i)) (mOwnI i) [i] := fun f H0 H σ env R R' E' r X k m => by
  unfold mOwnI at m
  split at m
  · next xs e =>
    obtain ⟨a, vs, h1, h2, h3⟩ := r.lstAt e
    refine ⟨.ref a, h1, a, rfl, .inl ⟨⟨vs, sq_of h2⟩, k _ xs H0 H (Stp.refl r) (walk_l h3 fun H02 H2 σ1 env1 R1 e1 hp => ?_) m⟩⟩
    obtain ⟨p1, p2⟩ := hp i (by simp)
    rw [e] at p2
    obtain ⟨a', vs', g1, g2, g3⟩ := R1.lstAt p2
    rw [p1, h1] at g1
    cases g1
    exact ⟨vs', sq_of g2, g3⟩
  · exact m.elim
/-! ### range -/
def rngD (lo c : Int) (n : Nat) : List D := (List.range n).map fun (i : Nat) => D.int (lo + i * c)
theorem rng_len (lo c : Int) (n : Nat) : (rngD lo c n).length = n := by unfold rngD; rw [List.length_map, List.length_range]
theorem rng_at {lo c : Int} {n i : Nat} (h : i < n) : (rngD lo c n)[i]? = some (.int (lo + i * c)) := by
  unfold rngD
  rw [List.getElem?_map, List.getElem?_range h]
  rfl
theorem walk_r {lo : Int} {n : Nat} {ps : List Nat} : Walks g f ps σ env H0 (Itr lo n) (rngD lo 1 n) where
  stop := fun H01 H1 σ1 env1 R e k => by rw [rng_len]; exact Nat.le_refl _
  go := fun i H01 H1 σ1 env1 hi R e k => by rw [rng_len] at hi; exact hi
  yld := fun i v H01 H1 H2 σ1 env1 hi R e k hy => by
    rw [rng_len] at hi
    obtain ⟨rfl, rfl⟩ := hy
    exact ⟨H01, _, rng_at hi, Stp.refl R, by rw [Int.mul_one]; exact .int _⟩
theorem walk_c {lo c : Int} {n : Nat} {ps : List Nat} : Walks g f ps σ env H0 (Itc lo c n) (rngD lo c n) where
  stop := fun H01 H1 σ1 env1 R e k => by rw [rng_len]; exact Nat.le_refl _
  go := fun i H01 H1 σ1 env1 hi R e k => by rw [rng_len] at hi; exact hi
  yld := fun i v H01 H1 H2 σ1 env1 hi R e k hy => by
    rw [rng_len] at hi
    obtain ⟨rfl, rfl⟩ := hy
    exact ⟨H01, _, rng_at hi, Stp.refl R, .int _⟩
def mRng1 (ma : MA) : MI := fun env Q E => ma env (fun xs => match xs with
  | [.int n] => -1000000 ≤ n ∧ n ≤ 1000000 ∧ Q (rngD 0 1 n.toNat)
  | _ => False) E
def mRng2 (ma : MA) : MI := fun env Q E => ma env (fun xs => match xs with
  | [.int a, .int b] => -1000000 ≤ a ∧ a ≤ 1000000 ∧ -1000000 ≤ b ∧ b ≤ 1000000 ∧ Q (rngD a 1 (b - a).toNat)
  | _ => False) E
/-- range(a, b, -1) -/
def mRng3 (ma : MA) : MI := fun env Q E => ma env (fun xs => match xs with
  | [.int a, .int b, .int c] => c = -1 ∧ -1000000 ≤ a ∧ a ≤ 1000000 ∧ -1000000 ≤ b ∧ b ≤ 1000000 ∧ Q (rngD a (-1) (a - b).toNat)
  | _ => False) E
theorem rpa1 {K : PySem.W.Frag} {dk : Addr} {vs : List V} {i : Int} (r : RpA K dk H vs [.int i]) : vs = [.int i] := by
  cases r with | cons a b => cases b; rw [rp_int a]
theorem rpa2 {K : PySem.W.Frag} {dk : Addr} {vs : List V} {i j : Int} (r : RpA K dk H vs [.int i, .int j]) : vs = [.int i, .int j] := by
  cases r with | cons a b => rw [rpa1 b, rp_int a]
theorem rpa3 {K : PySem.W.Frag} {dk : Addr} {vs : List V} {i j k : Int} (r : RpA K dk H vs [.int i, .int j, .int k]) : vs = [.int i, .int j, .int k] := by
  cases r with | cons a b => rw [rpa2 b, rp_int a]
theorem den_rng1 {t : TA} {m : MA} {ps : List Nat} (h : DenA g E t m) : DenI g E (iRng1 t) (mRng1 m) ps := fun f H0 H σ env R R' E' r X k m =>
  h f H0 H σ env _ _ E' r X (fun vs xs H01 H1 S rp q => by
    match xs, q with
    | [.int n], q =>
      cases rpa1 rp
      exact ⟨n, rfl, by omega, by omega, k _ _ H01 H1 S walk_r q.2.2⟩) m
theorem den_rng2 {t : TA} {m : MA} {ps : List Nat} (h : DenA g E t m) : DenI g E (iRng2 t) (mRng2 m) ps := fun f H0 H σ env R R' E' r X k m =>
  h f H0 H σ env _ _ E' r X (fun vs xs H01 H1 S rp q => by
    match xs, q with
    | [.int a, .int b], ⟨q1, q2, q3, q4, q⟩ =>
      cases rpa2 rp
      exact ⟨a, b, rfl, ⟨by omega, by omega, by omega, by omega⟩, k _ _ H01 H1 S walk_r q⟩) m
theorem den_rng3 {t : TA} {m : MA} {ps : List Nat} (h : DenA g E t m) : DenI g E (iRng3 t) (mRng3 m) ps := fun f H0 H σ env R R' E' r X k m =>
  h f H0 H σ env _ _ E' r X (fun vs xs H01 H1 S rp q => by
    match xs, q with
    | [.int a, .int b, .int c], ⟨q0, q1, q2, q3, q4, q⟩ =>
      subst q0
      cases rpa3 rp
      exact ⟨a, b, -1, _, rfl, RgC.neg (by omega) (by omega) (by omega) (by omega), k _ _ H01 H1 S walk_c q⟩) m
end
end VM

/-! enumerate, zip, built-ins. -/
namespace VM
open PySem PySem.Spec PyProof.Rows L2 Evl HG HL
section
variable {X : Cx} {tg it e : Expr}
theorem pi_or {w1 w2 : TI} (h1 : PI X tg it w1) (h2 : PI X tg it w2) : PI X tg it (fun σ H R => w1 σ H R ∨ w2 σ H R) :=
  ⟨fun pins s σ H R I h => h.elim (h1.run pins s σ H R I) (h2.run pins s σ H R I)⟩
theorem pe_or2 {t1 t2 : TE} (h1 : PE X e t1) (h2 : PE X e t2) : PE X e (fun σ H Q => t1 σ H Q ∨ t2 σ H Q) :=
  ⟨fun pins s σ H R I h => h.elim (h1.run pins s σ H R I) (h2.run pins s σ H R I)⟩
end
section
variable {g : G} {E : XK} {f : Fr} {H0 H H01 H1 : Hp} {σ : L2.St} {env : Env} {ta tb te : TE} {ma mb me : ME} {v w : V} {x y : D}
def mOr2 (m1 m2 : ME) : ME := fun env Q E => m1 env Q E ∨ m2 env Q E
theorem den_or2 {t1 t2 : TE} {m1 m2 : ME} (h1 : DenE g E t1 m1) (h2 : DenE g E t2 m2) : DenE g E (fun σ H Q => t1 σ H Q ∨ t2 σ H Q) (mOr2 m1 m2) := fun f H0 H σ env Q Q' E' R X k m =>
  m.elim (fun m => .inl (h1 f H0 H σ env Q Q' E' R X k m)) (fun m => .inr (h2 f H0 H σ env Q Q' E' R X k m))
def mOrI (m1 m2 : MI) : MI := fun env Q E => m1 env Q E ∨ m2 env Q E
theorem den_orI {t1 t2 : TI} {m1 m2 : MI} {ps : List Nat} (h1 : DenI g E t1 m1 ps) (h2 : DenI g E t2 m2 ps) : DenI g E (fun σ H Q => t1 σ H Q ∨ t2 σ H Q) (mOrI m1 m2) ps := fun f H0 H σ env Q Q' E' R X k m =>
  m.elim (fun m => .inl (h1 f H0 H σ env Q Q' E' R X k m)) (fun m => .inr (h2 f H0 H σ env Q Q' E' R X k m))
/-! ### enumerate -/
def enumD (xs : List D) : List D := xs.mapIdx fun i x => D.tup [.int (i : Nat), x]
theorem enum_len (xs : List D) : (enumD xs).length = xs.length := by unfold enumD; rw [List.length_mapIdx]
theorem enum_at {xs : List D} {i : Nat} {x : D} (h : xs[i]? = some x) : (enumD xs)[i]? = some (.tup [.int (i : Nat), x]) := by
  unfold enumD
  rw [List.getElem?_mapIdx, h]
  rfl
theorem walk_el {a : Addr} {vs : List V} {xs : List D} {ps : List Nat} (r : RpA g.K f.d H0 vs xs) (h : ∀ H01 H1 σ1 env1, Rel g f H01 H1 σ1 env1 → Ex H0 H01 → SqL g.K H1 a vs) : Walks g f ps σ env H0 (Ite g.K a) (enumD xs) where
  stop := fun H01 H1 σ1 env1 R e k => ⟨vs, h H01 H1 σ1 env1 R e, by rw [enum_len, r.len]; exact Nat.le_refl _⟩
  go := fun i H01 H1 σ1 env1 hi R e k => by
    rw [enum_len] at hi
    obtain ⟨v, x, h3, _, _⟩ := get_rp r hi
    exact ⟨vs, v, h H01 H1 σ1 env1 R e, h3⟩
  yld := fun i v H01 H1 H2 σ1 env1 hi R e k hy => by
    rw [enum_len] at hi
    obtain ⟨w, x, h3, h4, h5⟩ := get_rp r hi
    obtain ⟨T, u, rfl, hT, rfl, hy⟩ := hy
    have := hy vs (h H01 H1 σ1 env1 R e)
    rw [h3] at this
    cases this
    obtain ⟨c, d⟩ := put_tup (Stp.refl R) hT (.cons (.int (i : Nat)) (.one (h5.up e)))
    exact ⟨_, _, enum_at h4, c, d⟩
theorem walk_et {a : Addr} {vs : List V} {xs : List D} {ps : List Nat} (r : RpA g.K f.d H0 vs xs) (h : SqT g.K H0 a vs) : Walks g f ps σ env H0 (IteT g.K a) (enumD xs) where
  stop := fun H01 H1 σ1 env1 R e k => ⟨vs, ex_t (e.trans R.fm.ex) h, by rw [enum_len, r.len]; exact Nat.le_refl _⟩
  go := fun i H01 H1 σ1 env1 hi R e k => by
    rw [enum_len] at hi
    obtain ⟨v, x, h3, _, _⟩ := get_rp r hi
    exact ⟨vs, v, ex_t (e.trans R.fm.ex) h, h3⟩
  yld := fun i v H01 H1 H2 σ1 env1 hi R e k hy => by
    rw [enum_len] at hi
    obtain ⟨w, x, h3, h4, h5⟩ := get_rp r hi
    obtain ⟨T, u, rfl, hT, rfl, hy⟩ := hy
    have := hy vs (ex_t (e.trans R.fm.ex) h)
    rw [h3] at this
    cases this
    obtain ⟨c, d⟩ := put_tup (Stp.refl R) hT (.cons (.int (i : Nat)) (.one (h5.up e)))
    exact ⟨_, _, enum_at h4, c, d⟩
def mEnumL (ma : MA) : MI := fun env Q E => ma env (fun xs => match xs with
  | [.lst xs] => Q (enumD xs)
  | _ => False) E
def mEnumT (ma : MA) : MI := fun env Q E => ma env (fun xs => match xs with
  | [.tup xs] => Q (enumD xs)
  | _ => False) E
theorem den_enumL {t : TA} {m : MA} {ps : List Nat} (h : DenA g E t m) : DenI g E (iEnum g.K t) (mEnumL m) ps := fun f H0 H σ env R R' E' r X k m =>
  h f H0 H σ env _ _ E' r X (fun vs xs H01 H1 S rp q => by
    match xs, q with
    | [.lst xs], q =>
      cases rp with
      | cons a b =>
        cases b
        cases a with
        | lst h1 h2 => exact ⟨_, _, rfl, sq_of (S.ex _ _ h1), k _ _ H01 H1 S (walk_el h2 fun H02 H2 σ1 env1 R1 e => sq_of (R1.fm.ex _ _ (e _ _ h1))) q⟩) m
theorem den_enumT {t : TA} {m : MA} {ps : List Nat} (h : DenA g E t m) : DenI g E (iEnumT g.K t) (mEnumT m) ps := fun f H0 H σ env R R' E' r X k m =>
  h f H0 H σ env _ _ E' r X (fun vs xs H01 H1 S rp q => by
    match xs, q with
    | [.tup xs], q =>
      cases rp with
      | cons a b =>
        cases b
        cases a with
        | tup h1 h2 => exact ⟨_, _, rfl, ex_t S.ex h1.sq, k _ _ H01 H1 S (walk_et h2 h1.sq) q⟩) m
/-! ### zip -/
def zipD (xs ys : List D) : List D := List.zipWith (fun x y => D.tup [x, y]) xs ys
theorem zip_len (xs ys : List D) : (zipD xs ys).length = min xs.length ys.length := by unfold zipD; rw [List.length_zipWith]
theorem zip_at {xs ys : List D} {i : Nat} {x y : D} (h : xs[i]? = some x) (h2 : ys[i]? = some y) : (zipD xs ys)[i]? = some (.tup [x, y]) := by
  unfold zipD
  rw [List.getElem?_zipWith, h, h2]
theorem walk_zl {a b : Addr} {vs ws : List V} {xs ys : List D} {ps : List Nat} (r : RpA g.K f.d H0 vs xs) (r2 : RpA g.K f.d H0 ws ys) (h : H0 a = some (.lst vs)) (h2 : H0 b = some (.lst ws)) : Walks g f ps σ env H0 (Itz g.K a b) (zipD xs ys) where
  stop := fun H01 H1 σ1 env1 R e k => ⟨vs, ws, sq_of (R.fm.ex _ _ (e _ _ h)), sq_of (R.fm.ex _ _ (e _ _ h2)), by rw [zip_len, r.len, r2.len]; omega⟩
  go := fun i H01 H1 σ1 env1 hi R e k => by
    rw [zip_len] at hi
    obtain ⟨v, x, h3, _, _⟩ := get_rp r (show i < xs.length by omega)
    obtain ⟨w, y, h4, _, _⟩ := get_rp r2 (show i < ys.length by omega)
    exact ⟨vs, ws, v, w, sq_of (R.fm.ex _ _ (e _ _ h)), sq_of (R.fm.ex _ _ (e _ _ h2)), h3, h4⟩
  yld := fun i v H01 H1 H2 σ1 env1 hi R e k hy => by
    rw [zip_len] at hi
    obtain ⟨v1, x, h3, h4, h5⟩ := get_rp r (show i < xs.length by omega)
    obtain ⟨w1, y, g3, g4, g5⟩ := get_rp r2 (show i < ys.length by omega)
    obtain ⟨T, u, z, rfl, hT, rfl, hy, hz⟩ := hy
    have := hy vs (sq_of (R.fm.ex _ _ (e _ _ h)))
    rw [h3] at this
    cases this
    have := hz ws (sq_of (R.fm.ex _ _ (e _ _ h2)))
    rw [g3] at this
    cases this
    obtain ⟨c, d⟩ := put_tup (Stp.refl R) hT (.cons (h5.up e) (.one (g5.up e)))
    exact ⟨_, _, zip_at h4 g4, c, d⟩
theorem walk_zt {a b : Addr} {vs ws : List V} {xs ys : List D} {ps : List Nat} (r : RpA g.K f.d H0 vs xs) (r2 : RpA g.K f.d H0 ws ys) (h : SqT g.K H0 a vs) (h2 : SqT g.K H0 b ws) : Walks g f ps σ env H0 (RZ.ItzT g.K a b) (zipD xs ys) where
  stop := fun H01 H1 σ1 env1 R e k => ⟨vs, ws, ex_t (e.trans R.fm.ex) h, ex_t (e.trans R.fm.ex) h2, by rw [zip_len, r.len, r2.len]; omega⟩
  go := fun i H01 H1 σ1 env1 hi R e k => by
    rw [zip_len] at hi
    obtain ⟨v, x, h3, _, _⟩ := get_rp r (show i < xs.length by omega)
    obtain ⟨w, y, h4, _, _⟩ := get_rp r2 (show i < ys.length by omega)
    exact ⟨vs, ws, v, w, ex_t (e.trans R.fm.ex) h, ex_t (e.trans R.fm.ex) h2, h3, h4⟩
  yld := fun i v H01 H1 H2 σ1 env1 hi R e k hy => by
    rw [zip_len] at hi
    obtain ⟨v1, x, h3, h4, h5⟩ := get_rp r (show i < xs.length by omega)
    obtain ⟨w1, y, g3, g4, g5⟩ := get_rp r2 (show i < ys.length by omega)
    obtain ⟨T, u, z, rfl, hT, rfl, hy, hz⟩ := hy
    have := hy vs (ex_t (e.trans R.fm.ex) h)
    rw [h3] at this
    cases this
    have := hz ws (ex_t (e.trans R.fm.ex) h2)
    rw [g3] at this
    cases this
    obtain ⟨c, d⟩ := put_tup (Stp.refl R) hT (.cons (h5.up e) (.one (g5.up e)))
    exact ⟨_, _, zip_at h4 g4, c, d⟩
def mZip (ma : MA) : MI := fun env Q E => ma env (fun xs => match xs with
  | [.lst xs, .lst ys] => Q (zipD xs ys)
  | [.tup xs, .tup ys] => Q (zipD xs ys)
  | _ => False) E
theorem den_zip {t : TA} {m : MA} {ps : List Nat} (h : DenA g E t m) : DenI g E (RZ.iZipA g.K t) (mZip m) ps := fun f H0 H σ env R R' E' r X k m =>
  h f H0 H σ env _ _ E' r X (fun vs xs H01 H1 S rp q => by
    match xs, q with
    | [.lst xs, .lst ys], q =>
      cases rp with
      | cons a b =>
        cases b with
        | cons b c =>
          cases c
          cases a with
          | lst h1 h2 => cases b with | lst g1 g2 => exact ⟨_, _, _, _, rfl, .inl ⟨sq_of (S.ex _ _ h1), sq_of (S.ex _ _ g1), k _ _ H01 H1 S (walk_zl h2 g2 h1 g1) q⟩⟩
    | [.tup xs, .tup ys], q =>
      cases rp with
      | cons a b =>
        cases b with
        | cons b c =>
          cases c
          cases a with
          | tup h1 h2 => cases b with | tup g1 g2 => exact ⟨_, _, _, _, rfl, .inr ⟨ex_t S.ex h1.sq, ex_t S.ex g1.sq, k _ _ H01 H1 S (walk_zt h2 g2 h1.sq g1.sq) q⟩⟩) m
/-! ### built-ins -/
def ShA (g : G) (f : Fr) (H0 : Hp) (σ : L2.St) (env : Env) : List V → List D → Prop
  | [], [] => True
  | v :: vs, x :: xs => Sh g f H0 σ env v x ∧ ShA g f H0 σ env vs xs
  | _, _ => False
def DenAO (g : G) (E : XK) (ta : TA) (ma : MA) : Prop := ∀ (f : Fr) (H0 H : Hp) (σ : L2.St) (env : Env) (Q : List V → Hp → Prop) (Q' : List D → Prop) (E' : XV → Prop), Rel g f H0 H σ env → XOk g E f E' →
  (∀ vs xs H01 H1, Stp g f H0 H H01 H1 → ShA g f H01 σ env vs xs → Q' xs → Q vs H1) → ma env Q' E' → ta σ H Q
theorem den_nilO : DenAO g E tNil mNil := fun f H0 H σ env Q Q' E' R X k m => k [] [] H0 H (Stp.refl R) trivial m
theorem den_consO {tr : TA} {mr : MA} (h1 : DenO g E ta ma) (h2 : DenAO g E tr mr) : DenAO g E (tCons ta tr) (mCons ma mr) := fun f H0 H σ env Q Q' E' R X k m =>
  h1 f H0 H σ env _ _ E' R X (fun v x H01 H1 S1 r1 m1 => h2 f H01 H1 σ env _ _ E' (R.step S1) X (fun vs xs H02 H2 S2 r2 m2 => k _ _ H02 H2 (S1.trans S2) (show ShA g f H02 σ env (v :: vs) (x :: xs) from ⟨r1.up S2.e0, r2⟩) m2) m1) m
def DenR (g : G) (r : List V → Hp → VK → Prop) (h : List D → M D) : Prop := ∀ (f : Fr) (H0 H : Hp) (σ : L2.St) (env : Env) (vs : List V) (xs : List D) (Q : VK) (Q' : D → Prop) (E' : XV → Prop), Rel g f H0 H σ env → ShA g f H0 σ env vs xs →
  (∀ z u H01 H1, Stp g f H0 H H01 H1 → Rp g.K f.d H01 z u → Q' u → Q z H1) → h xs Q' E' → r vs H Q
def mCb (h : List D → M D) (ma : MA) : ME := fun env Q E => ma env (fun xs => h xs Q E) E
theorem den_cb {r : List V → Hp → VK → Prop} {h : List D → M D} {t : TA} {ma : MA} (hr : DenR g r h) (ha : DenAO g E t ma) : DenE g E (tCB r t) (mCb h ma) := fun f H0 H σ env Q Q' E' R X k m =>
  ha f H0 H σ env _ _ E' R X (fun vs xs H01 H1 S1 r1 m1 => hr f H01 H1 σ env vs xs Q Q' E' (R.step S1) r1 (fun z u H02 H2 S2 => k z u H02 H2 (S1.trans S2)) m1) m
theorem sha1 {vs : List V} (h : ShA g f H0 σ env vs [x]) : ∃ v, vs = [v] ∧ Sh g f H0 σ env v x := by
  match vs, h with
  | [v], h => exact ⟨v, rfl, h.1⟩
theorem sha2 {vs : List V} (h : ShA g f H0 σ env vs [x, y]) : ∃ v w, vs = [v, w] ∧ Sh g f H0 σ env v x ∧ Sh g f H0 σ env w y := by
  match vs, h with
  | [v, w], h => exact ⟨v, w, rfl, h.1, h.2.1⟩
-- len
def rLenU (K : PySem.W.Frag) : List V → Hp → VK → Prop := fun xs H Q => rLenS K xs H Q ∨ ∃ (p : Addr) (kvs : List (Key × V)), xs = [.ref p] ∧ H p = some (.dK kvs) ∧ Q (.int ((kvs.length : Nat) : Int)) H
def hLen : List D → M D
  | [.tup xs] => fun Q _ => Q (.int (xs.length : Nat))
  | [.lst xs] => fun Q _ => Q (.int (xs.length : Nat))
  | [.dic xs] => fun Q _ => Q (.int (xs.length : Nat))
  | _ => bad
theorem do_len : DenR g (rLenU g.K) hLen := fun f H0 H σ env vs xs Q Q' E' R r k m => by
  match xs, m with
  | [.tup xs], m =>
    obtain ⟨v, rfl, s⟩ := sha1 r
    obtain ⟨a, vs, rfl, h1, h2⟩ := sh_tup R s
    exact .inl ⟨a, vs, rfl, .inr h1.sq, by rw [h2.len]; exact k _ _ H0 H (Stp.refl R) (.int _) m⟩
  | [.lst xs], m =>
    obtain ⟨v, rfl, s⟩ := sha1 r
    obtain ⟨a, vs, rfl, h1, h2⟩ := sh_lst R s
    exact .inl ⟨a, vs, rfl, .inl (sq_of h1), by rw [h2.len]; exact k _ _ H0 H (Stp.refl R) (.int _) m⟩
  | [.dic xs], m =>
    obtain ⟨v, rfl, s⟩ := sha1 r
    obtain ⟨a, vs, rfl, h1, h2⟩ := sh_dic R s
    exact .inr ⟨a, vs, rfl, h1, by rw [h2.len]; exact k _ _ H0 H (Stp.refl R) (.int _) m⟩
-- isinstance
def D.kind : D → String
  | .non => "NoneType"
  | .bl _ => "bool"
  | .int _ => "int"
  | .str _ => "str"
  | .tup _ => "tuple"
  | .lst _ => "list"
  | .dic _ => "dict"
  | .ty _ => "type"
  | .deck => "dict"
def isiB (k T : String) : Bool := k == T || (k == "bool" && T == "int")
def isiTs : List String := ["int", "bool", "str", "tuple", "list", "dict"]
def isiKs : List String := ["NoneType", "bool", "int", "str", "tuple", "list", "dict"]
theorem isi_all : (isiKs.all fun k => isiTs.all fun T => decide (kitB k T = some (isiB k T))) = true := by decide +kernel
theorem isi_kit {K : PySem.W.Frag} {k T : String} (h1 : k ∈ isiKs) (h2 : T ∈ isiTs) : PySem.W.kitOne K (.type k) (.type T) = some (isiB k T) :=
  kit_ty (of_decide_eq_true (List.all_eq_true.mp (List.all_eq_true.mp isi_all k h1) T h2))
def D.plain : D → Bool
  | .ty _ => false
  | .deck => false
  | _ => true
theorem kind_in (h : x.plain = true) : x.kind ∈ isiKs := by cases x <;> first | (simp [isiKs, D.kind]; done) | (exact absurd h (by simp [D.plain]))
def hIsi : List D → M D
  | [x, .ty T] => fun Q _ => T ∈ isiTs ∧ x.plain = true ∧ Q (.bl (isiB x.kind T))
  | _ => bad
theorem ty_of (R : Rel g f H0 H σ env) (h : Sh g f H0 σ env v x) (hx : x.plain = true) : TyX g.K H v (.type x.kind) := by
  cases x with
  | non => cases sh_non R h; exact .base .non
  | bl b => cases sh_bl R h; exact .base (.bl b)
  | int i => cases sh_int R h; exact .base (.int i)
  | str s => cases sh_str R h; exact .base (.str s)
  | tup xs =>
    obtain ⟨a, vs, rfl, h1, _⟩ := sh_tup R h
    rcases h1 with h1 | ⟨o, its, n, e, c, _⟩
    · exact .base (.tup h1)
    · exact .kTuple e c
  | lst xs =>
    obtain ⟨a, vs, rfl, h1, _⟩ := sh_lst R h
    exact .base (.lst h1)
  | dic xs =>
    obtain ⟨a, vs, rfl, h1, _⟩ := sh_dic R h
    exact .base (.dK h1)
  | ty n => cases hx
  | deck => cases hx
theorem do_isi : DenR g (rIsi g.K) hIsi := fun f H0 H σ env vs xs Q Q' E' R r k m => by
  match xs, m with
  | [x, .ty T], ⟨m1, m2, m⟩ =>
    obtain ⟨v, w, rfl, s1, s2⟩ := sha2 r
    have s3 := sh_sc R s2 fun _ q => q
    cases s3
    exact ⟨v, .ty T, .type x.kind, .type T, _, rfl, .ty T, ty_of R s1 m2, isi_kit (kind_in m2) m1, k _ _ H0 H (Stp.refl R) (.bl _) m⟩
end
end VM

/-! More built-ins; defs as they stand; the deck. -/
namespace VM
open PySem PySem.Spec PyProof.Rows L2 Evl HG HL
/-! ### what repr shows -/
/-- small data: n leaves, k deep -/
structure SW (n k : Nat) (d : PyData) : Prop where
  sh : d.showable = true
  nd : d.hasDict = false
  dp : d.depth ≤ k
  lf : d.leavesShort 1921 = true
  bk : d.bulk ≤ n
structure SWs (n k : Nat) (ds : List PyData) : Prop where
  sh : PyData.showableAll ds = true
  nd : PyData.hasDictAll ds = false
  dp : PyData.depthAll ds ≤ k
  lf : PyData.leavesShortAll 1921 ds = true
  bk : PyData.bulkAll ds ≤ n
theorem log_lt {m : Nat} (h : m < 2 ^ 1900) : m.log2 < 1920 := by
  by_cases h0 : m = 0
  · subst h0
    decide
  · exact Nat.lt_of_lt_of_le ((Nat.log2_lt h0).mpr h) (by decide)
theorem sw_int {i : Int} (h : i.natAbs < 2 ^ 1900) : SW 0 0 (.int i) :=
  ⟨decide_eq_true (log_lt h), rfl, Nat.le_refl _, decide_eq_true (int_text_len_1921 (log_lt h)), Nat.le_refl _⟩
theorem sw_bl {b : Bool} : SW 0 0 (.bool b) := ⟨rfl, rfl, Nat.le_refl _, rfl, Nat.le_refl _⟩
theorem sw_non : SW 0 0 .none := ⟨rfl, rfl, Nat.le_refl _, rfl, Nat.le_refl _⟩
theorem sw_tup {n k : Nat} {ds : List PyData} (h : SWs n k ds) : SW n (k + 1) (.tuple ds) := ⟨h.sh, h.nd, Nat.succ_le_succ h.dp, h.lf, h.bk⟩
theorem sw_lst {n k : Nat} {ds : List PyData} (h : SWs n k ds) : SW n (k + 1) (.list ds) := ⟨h.sh, h.nd, Nat.succ_le_succ h.dp, h.lf, h.bk⟩
theorem sws_nil : SWs 0 0 [] := ⟨rfl, rfl, Nat.le_refl _, rfl, Nat.le_refl _⟩
theorem sws_cons {n m k j : Nat} {d : PyData} {ds : List PyData} (h : SW n k d) (g : SWs m j ds) : SWs (n + 1 + m) (max k j) (d :: ds) := by
  refine ⟨?_, ?_, ?_, ?_, ?_⟩
  · show (d.showable && PyData.showableAll ds) = true
    rw [h.sh, g.sh]; rfl
  · show (d.hasDict || PyData.hasDictAll ds) = false
    rw [h.nd, g.nd]; rfl
  · show max d.depth (PyData.depthAll ds) ≤ _
    have := h.dp; have := g.dp; omega
  · show (d.leavesShort 1921 && PyData.leavesShortAll 1921 ds) = true
    rw [h.lf, g.lf]; rfl
  · show d.bulk + 1 + PyData.bulkAll ds ≤ _
    have := h.bk; have := g.bk; omega
theorem SW.mono {n m k j : Nat} {d : PyData} (h : SW n k d) (h1 : n ≤ m) (h2 : k ≤ j) : SW m j d := ⟨h.sh, h.nd, Nat.le_trans h.dp h2, h.lf, Nat.le_trans h.bk h1⟩
theorem SWs.mono {n m k j : Nat} {d : List PyData} (h : SWs n k d) (h1 : n ≤ m) (h2 : k ≤ j) : SWs m j d := ⟨h.sh, h.nd, Nat.le_trans h.dp h2, h.lf, Nat.le_trans h.bk h1⟩
theorem sws_all {n k : Nat} : ∀ {ds : List PyData}, (∀ d ∈ ds, SW n k d) → SWs (ds.length * (n + 1)) k ds
  | [], _ => sws_nil.mono (Nat.zero_le _) (Nat.zero_le _)
  | d :: ds, h => (sws_cons (h d (List.mem_cons_self ..)) (sws_all fun x hx => h x (List.mem_cons_of_mem _ hx))).mono (by rw [List.length_cons, Nat.succ_mul]; omega) (by omega)
theorem sws_ints {ns : List Int} (h : ∀ i ∈ ns, i.natAbs < 2 ^ 1900) : SWs ns.length 0 (ns.map PyData.int) := by
  have := sws_all (n := 0) (k := 0) (ds := ns.map PyData.int) fun d hd => by
    obtain ⟨i, hi, rfl⟩ := List.mem_map.mp hd
    exact sw_int (h i hi)
  rw [List.length_map] at this
  exact this.mono (by omega) (by omega)
theorem SW.len {n k : Nat} {d : PyData} (h : SW n k d) (hn : n ≤ 8000) : d.shown.length ≤ sizeLine := by
  have h1 := PyData.shown_le_bulk 1921 (by decide) d h.lf
  have h2 : (1921 + 2) * d.bulk ≤ (1921 + 2) * 8000 := Nat.mul_le_mul_left _ (Nat.le_trans h.bk hn)
  have h3 : sizeLine = 16777216 := by decide
  omega


section
variable {g : G} {E : XK} {f : Fr} {H0 H H01 H1 : Hp} {σ : L2.St} {env : Env} {ta tb te : TE} {ma mb me : ME} {v w : V} {x y : D}
/-- the items of a list or a tuple -/
def D.items : D → Option (List D)
  | .tup xs => some xs
  | .lst xs => some xs
  | _ => none
theorem sh_items (R : Rel g f H0 H σ env) {xs : List D} (h : Sh g f H0 σ env v x) (e : x.items = some xs) : ∃ a vs, v = .ref a ∧ (H a = some (.lst vs) ∨ SqT g.K H a vs) ∧ RpA g.K f.d H0 vs xs := by
  cases x with
  | tup ys =>
    cases e
    obtain ⟨a, vs, rfl, h1, h2⟩ := sh_tup R h
    exact ⟨a, vs, rfl, .inr h1.sq, h2⟩
  | lst ys =>
    cases e
    obtain ⟨a, vs, rfl, h1, h2⟩ := sh_lst R h
    exact ⟨a, vs, rfl, .inl h1, h2⟩
  | _ => cases e
-- sum
def rSumU (K : PySem.W.Frag) : List V → Hp → VK → Prop := fun xs H Q => rSum K xs H Q ∨ HR3.rSumT K xs H Q
theorem call_sumU {X : Cx} (hc : X.calm = true) : CallR X (.builtin "sum") (rSumU X.K) := callOr (cr_sum hc) (HR3.cr_sumT hc)
def hSum : List D → M D
  | [x] => fun Q _ => ∃ ns : List Int, x.items = some (ns.map D.int) ∧ Q (.int ns.sum)
  | _ => bad
theorem do_sum : DenR g (rSumU g.K) hSum := fun f H0 H σ env vs xs Q Q' E' R r k m => by
  match xs, m with
  | [x], ⟨ns, e, m⟩ =>
    obtain ⟨v, rfl, s⟩ := sha1 r
    obtain ⟨a, vs, rfl, h1, h2⟩ := sh_items R s e
    cases h2.ints
    rcases h1 with h1 | h1
    · exact .inl ⟨a, ns, rfl, sq_of h1, k _ _ H0 H (Stp.refl R) (.int _) m⟩
    · exact .inr ⟨a, ns, rfl, h1, k _ _ H0 H (Stp.refl R) (.int _) m⟩
-- min, max
def rMinU (K : PySem.W.Frag) : List V → Hp → VK → Prop := fun xs H Q => rMin K xs H Q ∨ (HR3.rMinT K xs H Q ∨ rMin2 xs H Q)
def rMaxU (K : PySem.W.Frag) : List V → Hp → VK → Prop := fun xs H Q => rMax K xs H Q ∨ (HR3.rMaxT K xs H Q ∨ rMax2 xs H Q)
theorem call_minU {X : Cx} (hc : X.calm = true) : CallR X (.builtin "min") (rMinU X.K) := callOr (cr_min hc) (callOr (HR3.cr_minT hc) (call_min2 hc))
theorem call_maxU {X : Cx} (hc : X.calm = true) : CallR X (.builtin "max") (rMaxU X.K) := callOr (cr_max hc) (callOr (HR3.cr_maxT hc) (call_max2 hc))
def hMin : List D → M D
  | [.int i, .int j] => fun Q _ => Q (.int (min i j))
  | [x] => fun Q _ => ∃ ns : List Int, x.items = some (ns.map D.int) ∧ 0 < ns.length ∧ ∀ m, m ∈ ns → (∀ y, y ∈ ns → m ≤ y) → Q (.int m)
  | _ => bad
def hMax : List D → M D
  | [.int i, .int j] => fun Q _ => Q (.int (max i j))
  | [x] => fun Q _ => ∃ ns : List Int, x.items = some (ns.map D.int) ∧ 0 < ns.length ∧ ∀ m, m ∈ ns → (∀ y, y ∈ ns → y ≤ m) → Q (.int m)
  | _ => bad
theorem do_min : DenR g (rMinU g.K) hMin := fun f H0 H σ env vs xs Q Q' E' R r k m => by
  match xs, m with
  | [.int i, .int j], m =>
    obtain ⟨v, w, rfl, s1, s2⟩ := sha2 r
    cases sh_int R s1; cases sh_int R s2
    refine .inr (.inr ⟨i, j, rfl, ?_⟩)
    have e : (if j < i then j else i) = min i j := by by_cases q : j < i <;> simp [q] <;> omega
    rw [e]
    exact k _ _ H0 H (Stp.refl R) (.int _) m
  | [x], m =>
    have m : ∃ ns : List Int, x.items = some (ns.map D.int) ∧ 0 < ns.length ∧ ∀ m, m ∈ ns → (∀ y, y ∈ ns → m ≤ y) → Q' (.int m) := by cases x <;> exact m
    obtain ⟨ns, e, hl, m⟩ := m
    obtain ⟨v, rfl, s⟩ := sha1 r
    obtain ⟨a, vs, rfl, h1, h2⟩ := sh_items R s e
    cases h2.ints
    rcases h1 with h1 | h1
    · exact .inl ⟨a, ns, rfl, sq_of h1, hl, fun z hz hy => k _ _ H0 H (Stp.refl R) (.int _) (m z hz hy)⟩
    · exact .inr (.inl ⟨a, ns, rfl, h1, hl, fun z hz hy => k _ _ H0 H (Stp.refl R) (.int _) (m z hz hy)⟩)
theorem do_max : DenR g (rMaxU g.K) hMax := fun f H0 H σ env vs xs Q Q' E' R r k m => by
  match xs, m with
  | [.int i, .int j], m =>
    obtain ⟨v, w, rfl, s1, s2⟩ := sha2 r
    cases sh_int R s1; cases sh_int R s2
    refine .inr (.inr ⟨i, j, rfl, ?_⟩)
    have e : (if j > i then j else i) = max i j := by by_cases q : j > i <;> simp [q] <;> omega
    rw [e]
    exact k _ _ H0 H (Stp.refl R) (.int _) m
  | [x], m =>
    have m : ∃ ns : List Int, x.items = some (ns.map D.int) ∧ 0 < ns.length ∧ ∀ m, m ∈ ns → (∀ y, y ∈ ns → y ≤ m) → Q' (.int m) := by cases x <;> exact m
    obtain ⟨ns, e, hl, m⟩ := m
    obtain ⟨v, rfl, s⟩ := sha1 r
    obtain ⟨a, vs, rfl, h1, h2⟩ := sh_items R s e
    cases h2.ints
    rcases h1 with h1 | h1
    · exact .inl ⟨a, ns, rfl, sq_of h1, hl, fun z hz hy => k _ _ H0 H (Stp.refl R) (.int _) (m z hz hy)⟩
    · exact .inr (.inl ⟨a, ns, rfl, h1, hl, fun z hz hy => k _ _ H0 H (Stp.refl R) (.int _) (m z hz hy)⟩)
-- all, any of a list
def hAll : List D → M D
  | [.lst xs] => fun Q _ => ∃ bs : List Bool, xs = bs.map D.bl ∧ Q (.bl (bs.all id))
  | _ => bad
def hAny : List D → M D
  | [.lst xs] => fun Q _ => ∃ bs : List Bool, xs = bs.map D.bl ∧ Q (.bl (bs.any id))
  | _ => bad
theorem do_all : DenR g (rAll g.K) hAll := fun f H0 H σ env vs xs Q Q' E' R r k m => by
  match xs, m with
  | [.lst xs], ⟨bs, e, m⟩ =>
    obtain ⟨v, rfl, s⟩ := sha1 r
    obtain ⟨a, vs, rfl, h1, h2⟩ := sh_lst R s
    subst e
    cases h2.bls
    exact ⟨a, bs, rfl, sq_of h1, k _ _ H0 H (Stp.refl R) (.bl _) m⟩
theorem do_any : DenR g (rAny g.K) hAny := fun f H0 H σ env vs xs Q Q' E' R r k m => by
  match xs, m with
  | [.lst xs], ⟨bs, e, m⟩ =>
    obtain ⟨v, rfl, s⟩ := sha1 r
    obtain ⟨a, vs, rfl, h1, h2⟩ := sh_lst R s
    subst e
    cases h2.bls
    exact ⟨a, bs, rfl, sq_of h1, k _ _ H0 H (Stp.refl R) (.bl _) m⟩
-- int, tuple, list, abs
def hInt1 : List D → M D
  | [.int i] => fun Q _ => Q (.int i)
  | [.bl b] => fun Q _ => Q (.int (if b then 1 else 0))
  | _ => bad
theorem do_int1 : DenR g rInt1 hInt1 := fun f H0 H σ env vs xs Q Q' E' R r k m => by
  match xs, m with
  | [.int i], m =>
    obtain ⟨v, rfl, s⟩ := sha1 r
    cases sh_int R s
    exact .inl ⟨i, rfl, k _ _ H0 H (Stp.refl R) (.int _) m⟩
  | [.bl b], m =>
    obtain ⟨v, rfl, s⟩ := sha1 r
    cases sh_bl R s
    exact .inr ⟨b, rfl, k _ _ H0 H (Stp.refl R) (.int _) m⟩
def hTuple : List D → M D
  | [.tup xs] => fun Q _ => Q (.tup xs)
  | [.lst xs] => fun Q _ => Q (.tup xs)
  | _ => bad
theorem do_tuple : DenR g (rTupleOf g.K) hTuple := fun f H0 H σ env vs xs Q Q' E' R r k m => by
  match xs, m with
  | [.tup xs], m =>
    obtain ⟨v, rfl, s⟩ := sha1 r
    have rp := sh_sc R s fun _ q => q
    obtain ⟨a, vs, rfl, h1, h2⟩ := sh_tup R s
    exact ⟨a, vs, rfl, .inr ⟨h1.sq, k _ _ H0 H (Stp.refl R) rp m⟩⟩
  | [.lst xs], m =>
    obtain ⟨v, rfl, s⟩ := sha1 r
    obtain ⟨a, vs, rfl, h1, h2⟩ := sh_lst R s
    refine ⟨a, vs, rfl, .inl ⟨sq_of h1, fun p hp => ?_⟩⟩
    obtain ⟨c, d⟩ := put_tup (Stp.refl R) hp h2
    exact k _ _ _ _ c d m
def DenRF (g : G) (r : List V → Hp → VK → Prop) (h : List D → M D) : Prop := ∀ (f : Fr) (H0 H : Hp) (σ : L2.St) (env : Env) (vs : List V) (xs : List D) (Q : VK) (Q' : D → Prop) (E' : XV → Prop), Rel g f H0 H σ env → ShA g f H0 σ env vs xs →
  (∀ p o u, H p = none → ObjR g f H0 o u → Q' u → Q (.ref p) (upd H p o)) → h xs Q' E' → r vs H Q
theorem den_cbF {r : List V → Hp → VK → Prop} {h : List D → M D} {t : TA} {ma : MA} (hr : DenRF g r h) (ha : DenAO g E t ma) : DenF g E (tCB r t) (mCb h ma) := fun f H0 H σ env Q Q' E' R X k m =>
  ha f H0 H σ env _ _ E' R X (fun vs xs H01 H1 S1 r1 m1 => hr f H01 H1 σ env vs xs Q Q' E' (R.step S1) r1 (fun p o u hp ho hq => by
    obtain ⟨a, b, c⟩ := S1.lay (o := o) hp
    exact k p o u H01 _ a b c upd_same ho hq) m1) m
def hList : List D → M D
  | [.tup xs] => fun Q _ => Q (.lst xs)
  | [.lst xs] => fun Q _ => Q (.lst xs)
  | _ => bad
theorem do_list : DenRF g (rListS g.K) hList := fun f H0 H σ env vs xs Q Q' E' R r k m => by
  match xs, m with
  | [.tup xs], m =>
    obtain ⟨v, rfl, s⟩ := sha1 r
    obtain ⟨a, vs, rfl, h1, h2⟩ := sh_tup R s
    exact ⟨a, vs, rfl, .inr h1.sq, fun p hp => k p _ (.lst xs) hp ⟨vs, rfl, h2⟩ m⟩
  | [.lst xs], m =>
    obtain ⟨v, rfl, s⟩ := sha1 r
    obtain ⟨a, vs, rfl, h1, h2⟩ := sh_lst R s
    exact ⟨a, vs, rfl, .inl (sq_of h1), fun p hp => k p _ (.lst xs) hp ⟨vs, rfl, h2⟩ m⟩
abbrev rAbs : List V → Hp → VK → Prop := fun xs H Q => ∃ i : Int, xs = [.int i] ∧ Q (.int (if i < 0 then -i else i)) H
def hAbs : List D → M D
  | [.int i] => fun Q _ => Q (.int (if i < 0 then -i else i))
  | _ => bad
theorem do_abs : DenR g rAbs hAbs := fun f H0 H σ env vs xs Q Q' E' R r k m => by
  match xs, m with
  | [.int i], m =>
    obtain ⟨v, rfl, s⟩ := sha1 r
    cases sh_int R s
    exact ⟨i, rfl, k _ _ H0 H (Stp.refl R) (.int _) m⟩
-- repr
/-- data that repr shows -/
def Shows (d : PyData) : Prop := ∃ n k, SW n k d ∧ n ≤ 8000 ∧ k ≤ 50
def rReprU (K : PySem.W.Frag) : List V → Hp → VK → Prop := fun xs H Q => rRepr K xs H Q ∨ (rReprI xs H Q ∨ HR3.rReprB xs H Q)
theorem call_reprU {X : Cx} (hc : X.A.guards = some []) (hu : X.A.units + 64 < cLine) : CallR X (.builtin "repr") (rReprU X.K) := callOr (call_repr hc hu) (callOr SkE.call_repr_int HR3.call_repr_bl)
def D.reprs : D → Bool
  | .bl _ => true
  | .int _ => true
  | .tup _ => true
  | .lst _ => true
  | _ => false
def hRepr : List D → M D
  | [x] => fun Q _ => x.isPy = true ∧ x.reprs = true ∧ Shows x.py ∧ Q (.str x.py.shown)
  | _ => bad
theorem do_repr : DenR g (rReprU g.K) hRepr := fun f H0 H σ env vs xs Q Q' E' R r k m => by
  match xs, m with
  | [x], ⟨hp, hr, ⟨n, j, sw, hn, hj⟩, m⟩ =>
    obtain ⟨v, rfl, s⟩ := sha1 r
    have kk := k (.str x.py.shown) _ H0 H (Stp.refl R) (.str _) m
    have dp := sh_dp R s hp
    cases x with
    | bl b => cases sh_bl R s; exact .inr (.inr ⟨b, rfl, kk⟩)
    | int i => cases sh_int R s; exact .inr (.inl ⟨i, rfl, of_decide_eq_true sw.sh, kk⟩)
    | tup ys =>
      obtain ⟨a, vs, rfl, h1, h2⟩ := sh_tup R s
      exact .inl ⟨a, _, rfl, dp, sw.sh, sw.nd, Nat.le_trans sw.dp hj, sw.len hn, kk⟩
    | lst ys =>
      obtain ⟨a, vs, rfl, h1, h2⟩ := sh_lst R s
      exact .inl ⟨a, _, rfl, dp, sw.sh, sw.nd, Nat.le_trans sw.dp hj, sw.len hn, kk⟩
    | _ => cases hr
end
section
variable {X : Cx}
theorem call_lenU : CallR X (.builtin "len") (rLenU X.K) := callOr call_len_seq call_lenD
end
end VM

/-! Defs as they stand, the draws, the law's start. -/
namespace VM
open PySem PySem.Spec PyProof.Rows L2 Evl HG HL
section
variable {g : G} {E : XK} {f : Fr} {H0 H H01 H1 : Hp} {σ : L2.St} {env : Env} {ta tb te : TE} {ma mb me : ME} {ts : TS} {ms : MS}
/-- a call of a def that raises nothing -/
def mCall0 (n : Nat) (m : List D → M D) (ma : MA) : ME := fun env Q E => ma env (fun xs => xs.length = n ∧ m xs Q (fun _ => False)) E
theorem den_call0 {sp : Sp} {n : Nat} {m : List D → M D} {t : TA} {ma : MA} (hi : Imp g sp n m) (h : DenA g E t ma) : DenE g E (tCall sp [] E0 t) (mCall0 n m ma) := fun f H0 H σ env Q Q' E' R X k mm =>
  h f H0 H σ env _ _ E' R X (fun vs xs H01 H1 S1 r1 m1 => by
    show sp (vs ++ []) H1 Q E0
    rw [List.append_nil]
    refine hi vs H1 Q E0 ⟨⟨H01, H1, f.d, f.l⟩, xs, Q', fun _ => False, rfl, (R.step S1).fm.base, by rw [r1.len]; exact m1.1, r1, fun xv cls dx H02 H2 F2 z => z.elim, ?_, m1.2⟩
    intro v r H02 H2 F2 rp q
    exact k v r H02 H2 (S1.trans F2) rp q) mm
def mCallK0 (n : Nat) (m : List D → M D) (is : List Nat) (ma : MA) : ME := fun env Q E => ma env (fun zs => zs.length = n ∧ (perm is zs).length = n ∧ m (perm is zs) Q (fun _ => False)) E
theorem den_callK0 {sp : Sp} {n : Nat} {m : List D → M D} {is : List Nat} {t : TA} {ma : MA} (hi : Imp g sp n m) (h : DenA g E t ma) : DenE g E (tCallK0 n sp (perm is) E0 t) (mCallK0 n m is ma) := fun f H0 H σ env Q Q' E' R X k mm =>
  h f H0 H σ env _ _ E' R X (fun vs xs H01 H1 S1 r1 m1 => by
    refine ⟨by rw [r1.len]; exact m1.1, ?_⟩
    have r2 := perm_rp r1 is
    refine hi _ H1 Q E0 ⟨⟨H01, H1, f.d, f.l⟩, _, Q', fun _ => False, rfl, (R.step S1).fm.base, by rw [r2.len]; exact m1.2.1, r2, fun xv cls dx H02 H2 F2 z => z.elim, ?_, m1.2.2⟩
    intro v r H02 H2 F2 rp q
    exact k v r H02 H2 (S1.trans F2) rp q) mm
end
section
variable {P : Program} {w : World} {K : PySem.W.Frag} {mg : Str → Option Value} {base : Heap}
/-- a def, by its body's data -/
theorem clM {g : G} {k n : Nat} {x nm : Str} {st : Stmt} {N ps : List Str} {ms : MS} (A : At K mg x nm st) (S : FnScope N ps (defScope st))
    (hb : ∀ (kV doc pm : Value) (an : Option Addr) (cdv ct : Value) (us : List Value), us.length = ps.length → bindArgs (PySem.W.fnOf nm nm (defArgs st) (defBody st) (defScope st) .none kV doc pm an cdv ct) ⟨us, []⟩ = pure (ps.zip us))
    (hn : ps.length = n) (hN : n ≤ N.length)
    (body : ∀ (f : Addr) (cd : Value) (B : Around) (fr : List PySem.Env) (t : Shared) (H : Hp) (E : XK),
      (B.deeper (envOfC nm (defScope st) t.heap.objs.size f cd)).guards = some [] → Room k (B.deeper (envOfC nm (defScope st) t.heap.objs.size f cd)) →
      ∃ r, PSs (cxOf CX0 P w K mg base N nm (defScope st) f cd B fr t H E).nox (defBody st) r ∧ DenS g E r ms) :
    Cl P w K mg base (k + 1) x nm st ps (spX g n (mFn n N.length ms)) := by
  refine cl A S hb ?_ ?_
  · rintro xs H Q E ⟨f, ds, Q', E', h1, h2, h3, _⟩
    rw [h3, hn]
  · intro f cd B fr t H xs Q E hg hr h
    obtain ⟨r, h1, h2⟩ := body f cd B fr t H E hg hr
    exact ⟨r, h1, rd_fn h h2 hN⟩
end
/-! ### the draws -/
def m_draw : List D → M D
  | [.deck, .int many] => fun Q _ => 1 ≤ many ∧ many < 2 ^ 8000 ∧ ∀ r : Int, 0 ≤ r → r < many → Q (.int r)
  | _ => bad
/-- what a deck's own text shows of itself -/
structure DeckI where
  ok : Hp → Addr → Addr → Prop
  up : ∀ {H H1 : Hp} {d l : Addr}, ok H d l → (∀ o, H d = some o → H1 d = some o) → (∀ o, H l = some o → H1 l = some o) → ok H1 d l
  dom : ∀ {H : Hp} {d l : Addr}, ok H d l → H d ≠ none ∧ H l ≠ none
def DeckI.g (I : DeckI) (K : PySem.W.Frag) (xr : XV → Value → Option Addr → Addr → Hp → Hp → Prop := fun _ _ _ _ _ _ => False) : G := ⟨K, I.ok, I.up, I.dom, xr⟩
def spDraw (I : DeckI) : Sp := fun vs H Q _ => ∃ (d l : Addr) (many : Int), vs = [.ref d, .int many] ∧ 1 ≤ many ∧ many < 2 ^ 8000 ∧ I.ok H d l ∧ ∀ (r : Int) (H1 : Hp), 0 ≤ r → r < many → I.ok H1 d l → (∀ b o, b ≠ d → b ≠ l → H b = some o → H1 b = some o) → Q (.int r) H1
theorem imp_draw (I : DeckI) {K : PySem.W.Frag} {xr : XV → Value → Option Addr → Addr → Hp → Hp → Prop} : Imp (I.g K xr) (spDraw I) 2 m_draw := by
  rintro vs H Q E ⟨f, xs, Q', E', rfl, F, hl, r, X, k, m⟩
  match xs, m with
  | [.deck, .int many], ⟨h1, h2, m⟩ =>
    cases r with
    | cons a b =>
      cases b with
      | cons b c =>
        cases c
        cases a
        cases b
        refine ⟨f.d, f.l, many, rfl, h1, h2, F.ok, fun r H1 r0 r1 ok o => ?_⟩
        refine k _ _ f.E0 H1 ?_ (.int r) (m r r0 r1)
        exact {
          ex := fun x u h => o x u (fun z => by rw [z, F.nd] at h; cases h) (fun z => by rw [z, F.nl] at h; cases h) (F.ex x u h)
          ok := ok
          nd := F.nd
          nl := F.nl
          e0 := Ex.refl _
          new := fun x u h => Or.inl h
          keep := fun x u h1 h2 h => o x u h1 h2 h
          dom := F.dom }
/-! ### the law -/
def spDeck (I : DeckI) (K : PySem.W.Frag) : Sp := fun vs H Q _ => ∃ (a : Addr) (ns : List Int), vs = [.ref a] ∧ SqL K H a (ns.map V.int) ∧ ns.length ≤ 63 ∧ ∀ d l H1, H d = none → H l = none → I.ok H1 d l → Ex H H1 → Q (.ref d) H1
def spLaw (K : PySem.W.Frag) : Sp := fun vs H Q _ => ∃ (a : Addr) (ns : List Int), vs = [.ref a] ∧ SqL K H a (ns.map V.int) ∧ ns.length ≤ 63 ∧ ∀ H', Q (.bl true) H'
def LawOk (N : Nat) (ms : MS) : Prop := ms { nx := fun _ => False, rt := fun r => r = .bl true, ex := fun _ => False } (.un :: .fz .deck :: List.replicate (N - 2) .un)
theorem rd_law {I : DeckI} {K : PySem.W.Frag} {xr : XV → Value → Option Addr → Addr → Hp → Hp → Prop} {N : List Str} {ts : TS} {ms : MS} {vs : List V} {H : Hp} {Q : VK} {E : XK} (h : spLaw K vs H Q E) (hd : DenS (I.g K xr) E ts ms) (hN : 2 ≤ N.length) (m : LawOk N.length ms) :
    tSeq (tAsg (tCall (spDeck I K) [] E0 (tCons (tVar 0) tNil)) (gName 1)) ts { nx := fun _ H2 => Q .non H2, rt := Q } (L2.start N vs) H := by
  obtain ⟨a, ns, rfl, hs, hl, k⟩ := h
  obtain ⟨N2, hN2⟩ : ∃ N2, N.length = N2 + 2 := ⟨N.length - 2, by omega⟩
  have est : L2.start N [.ref a] = some (.ref a) :: none :: List.replicate N2 none := by
    unfold L2.start
    have e : N.length - [V.ref a].length = N2 + 1 := by show N.length - 1 = N2 + 1; omega
    rw [e, List.replicate_succ]
    rfl
  rw [est]
  refine ⟨.ref a, rfl, a, ns, rfl, hs, hl, fun d l H1 hd1 hl1 ok e => ?_⟩
  have F : Fm (I.g K xr) ⟨fun _ => none, H1, d, l⟩ (fun _ => none) H1 := {
    ex := fun x u h => by cases h
    ok := ok
    nd := rfl
    nl := rfl
    e0 := Ex.refl _
    new := fun x u h => by cases h
    keep := fun x u _ _ h => h
    dom := I.dom ok }
  have R : Rel (I.g K xr) ⟨fun _ => none, H1, d, l⟩ (fun _ => none) H1 (some (.ref a) :: some (.ref d) :: List.replicate N2 none) (.un :: .fz .deck :: List.replicate N2 .un) := {
    fm := F
    len := by rw [List.length_cons, List.length_cons, List.length_cons, List.length_cons, List.length_replicate, List.length_replicate]
    cells := fun i c h => by
      match i with
      | 0 => cases h; trivial
      | 1 => cases h; exact ⟨_, rfl, .deck⟩
      | i + 2 =>
        have := List.mem_of_getElem? (show (List.replicate N2 Cell.un)[i]? = some c by simpa using h)
        rw [List.eq_of_mem_replicate this]
        trivial
    dist := fun i j p x y _ _ _ h3 _ => by
      match i with
      | 0 => cases h3
      | 1 => cases h3
      | i + 2 =>
        have := List.mem_of_getElem? (show (List.replicate N2 Cell.un)[i]? = some (.ow x) by simpa using h3)
        cases List.eq_of_mem_replicate this }
  have e2 : N.length - 2 = N2 := by omega
  unfold LawOk at m
  rw [e2] at m
  refine hd ⟨fun _ => none, H1, d, l⟩ (fun _ => none) H1 _ _ _ { nx := fun _ => False, rt := fun r => r = .bl true, ex := fun _ => False } R ⟨fun _ _ _ _ _ _ q => q.elim, fun v x H01 H1 F r q => ?_, fun _ _ _ _ _ _ q => q.elim, fun _ _ _ _ _ _ q => q.elim, fun xv cls dx H01 H1 F q => q.elim⟩ m
  subst q
  cases r
  exact k H1
section
variable {P : Program} {w : World} {K : PySem.W.Frag} {mg : Str → Option Value} {base : Heap}
/-- the law itself -/
theorem clLaw {I : DeckI} {xr : XV → Value → Option Addr → Addr → Hp → Hp → Prop} {k : Nat} {x nm : Str} {st : Stmt} {N ps : List Str} {ms : MS} (A : At K mg x nm st) (S : FnScope N ps (defScope st))
    (hb : ∀ (kV doc pm : Value) (an : Option Addr) (cdv ct : Value) (us : List Value), us.length = ps.length → bindArgs (PySem.W.fnOf nm nm (defArgs st) (defBody st) (defScope st) .none kV doc pm an cdv ct) ⟨us, []⟩ = pure (ps.zip us))
    (hn : ps.length = 1) (hN : 2 ≤ N.length) (m : LawOk N.length ms)
    (body : ∀ (f : Addr) (cd : Value) (B : Around) (fr : List PySem.Env) (t : Shared) (H : Hp) (E : XK),
      (B.deeper (envOfC nm (defScope st) t.heap.objs.size f cd)).guards = some [] → Room k (B.deeper (envOfC nm (defScope st) t.heap.objs.size f cd)) →
      ∃ r, PSs (cxOf CX0 P w K mg base N nm (defScope st) f cd B fr t H E).nox (defBody st) (tSeq (tAsg (tCall (spDeck I K) [] E0 (tCons (tVar 0) tNil)) (gName 1)) r) ∧ DenS (I.g K xr) E r ms) :
    Cl P w K mg base (k + 1) x nm st ps (spLaw K) := by
  refine cl A S hb ?_ ?_
  · rintro xs H Q E ⟨a, ns, rfl, _⟩
    rw [hn]
    rfl
  · intro f cd B fr t H xs Q E hg hr h
    obtain ⟨r, h1, h2⟩ := body f cd B fr t H E hg hr
    exact ⟨_, h1, rd_law h h2 hN m⟩
end
end VM

/-! More statements. -/
namespace VM
open PySem PySem.Spec PyProof.Rows L2 Evl HG HL
section
variable {g : G} {E : XK} {f : Fr} {H0 H H01 H1 : Hp} {σ : L2.St} {env : Env} {ta tb te : TE} {ma mb me : ME} {ts : TS} {ms : MS} {v w : V} {x y : D}
/-- a, b = e1, e2, the second one a new object of its own -/
def mParP (i j : Nat) (ma mb : ME) : MS := fun D env => ma env (fun x => mb env (fun y => D.nx ((env.set i (.fz x)).set j (.ow y))) D.ex) D.ex
theorem den_parP {i j : Nat} (ha : DenE g E ta ma) (hb : DenF g E tb mb) : DenS g E (tPar i j (tCons ta (tCons tb tNil))) (mParP i j ma mb) := fun f H0 H σ env D D' R ok m =>
  ha f H0 H σ env _ _ _ R ok.ex (fun v x H01 H1 S r q => hb f H01 H1 σ env _ _ _ (R.step S) ok.ex (fun p o y H02 H2 S2 hp h0 h1 ho q2 => by
    have R1 : Rel g f H01 H1 (σ.set i (some v)) (env.set i (.fz x)) := (R.step S).set r
    exact ⟨_, _, rfl, ok.nx _ _ H02 H2 (R1.owNew (i := j) S2 hp h0 h1 ho) (S.trans S2).e0 q2⟩) q) m
/-- x op= e, of ints -/
def mAug (i : Nat) (h : Int → Int → Int) (me : ME) : MS := fun D env => match env[i]? with
  | some (.fz (.int a)) => me env (fun y => match y with
    | .int b => D.nx (env.set i (.fz (.int (h a b))))
    | _ => False) D.ex
  | _ => False
theorem den_aug {i : Nat} {h : Int → Int → Int} (hb : DenE g E te me) : DenS g E (tAug i te (ipI h)) (mAug i h me) := fun f H0 H σ env D D' R ok m => by
  unfold mAug at m
  split at m
  · next a e =>
    obtain ⟨v, h1, h2⟩ : ∃ v, σ[i]? = some (some v) ∧ Rp g.K f.d H0 v (.int a) := R.cells i _ e
    cases h2
    refine ⟨_, h1, hb f H0 H σ env _ _ _ R ok.ex (fun w y H01 H1 S r q => ?_) m⟩
    cases y with
    | int b =>
      cases r
      exact ⟨a, b, rfl, rfl, ok.nx _ _ H01 H1 ((R.step S).set (.int _)) S.e0 q⟩
    | _ => exact q.elim
  · exact m.elim
/-- lists put together, repeated: new ones -/
def hMulL : D → D → M D
  | .lst xs, .int n => fun Q _ => -(2 ^ 63) ≤ n ∧ n < 2 ^ 63 ∧ xs.length * n.toNat ≤ 100000 ∧ Q (.lst (List.replicate n.toNat xs).flatten)
  | _, _ => bad
theorem do_mulF : DenOpF g (fun x y H Q => rI CMulO (fun i j => .int (i * j)) x y H Q ∨ rRep x y H Q) hMulL := fun f H0 H σ env v w x y Q Q' E' R sx sy k m => by
  cases x <;> cases y <;> try exact m.elim
  next xs n =>
    obtain ⟨a, vs, rfl, a2, a3⟩ := sh_lst R sx
    cases sh_int R sy
    exact .inr ⟨a, n, vs, rfl, rfl, a2, m.1, m.2.1, sz_of (by rw [a3.len]; exact m.2.2.1), fun p hp => k p _ (.lst _) hp ⟨_, rfl, a3.rep n.toNat⟩ m.2.2.2⟩
def hAddL : D → D → M D
  | .lst xs, .lst ys => fun Q _ => xs.length + ys.length ≤ 100000 ∧ Q (.lst (xs ++ ys))
  | _, _ => bad
theorem do_addF : DenOpF g (rAddU g.K) hAddL := fun f H0 H σ env v w x y Q Q' E' R sx sy k m => by
  cases x <;> cases y <;> try exact m.elim
  next xs ys =>
    obtain ⟨a, vs, rfl, a2, a3⟩ := sh_lst R sx
    obtain ⟨b, ws, rfl, b2, b3⟩ := sh_lst R sy
    exact .inr (.inr (.inl ⟨a, b, vs, ws, rfl, rfl, a2, b2, sz_of (by rw [a3.len, b3.len]; exact m.1), fun p hp => k p _ (.lst _) hp ⟨_, rfl, b3.append a3⟩ m.2⟩))
end
end VM

/-! zip of a tuple and a list, either way round. -/
namespace VM
open PySem PySem.Spec PyProof.Rows L2 Evl HG HL
section
/-- a tracked tuple (true) or list (false) -/
def Sqk : Bool → PySem.W.Frag → Hp → Addr → List V → Prop
  | true, K, H, a, xs => SqT K H a xs
  | false, K, H, a, xs => SqL K H a xs
def Itk : Bool → Heap → Addr → Addr → Nat → Prop
  | true, h, i, l, k => h.IsTupleIter i l k
  | false, h, i, l, k => h.IsListIter i l k
def Isk : Bool → Heap → Addr → Array Value → Prop
  | true, h, l, v => h.IsTuple l v
  | false, h, l, v => h.IsList l v
def obk : Bool → Addr → Obj
  | true, l => { cls := .type "tuple_iterator", data := .fields #[.ref l, .int 0 0] }
  | false, l => { cls := .type "list_iterator", data := .fields #[.ref l, .int 0 0] }
theorem Itk.get {t : Bool} {h : Heap} {i l : Addr} {k : Nat} (x : Itk t h i l k) : ∃ o, h.get? i = some o ∧ ∀ v, o.data ≠ .cell v := by
  cases t with
  | true => obtain ⟨o, e, _, d⟩ := (show h.IsTupleIter i l k from x); exact ⟨o, e, fun v q => by rw [d] at q; cases q⟩
  | false => obtain ⟨o, e, _, d⟩ := (show h.IsListIter i l k from x); exact ⟨o, e, fun v q => by rw [d] at q; cases q⟩
theorem Itk.at {t : Bool} {h h' : Heap} {i l : Addr} {k : Nat} (x : Itk t h i l k) (e : ∀ o, h.get? i = some o → h'.get? i = some o) : Itk t h' i l k := by
  cases t with
  | true => exact Heap.IsTupleIter.at (show h.IsTupleIter i l k from x) e
  | false => exact Heap.IsListIter.at (show h.IsListIter i l k from x) e
theorem Itk.new {t : Bool} {h : Heap} {i l : Addr} (e : h.get? i = some (obk t l)) : Itk t h i l 0 := by
  cases t with
  | true => exact ⟨_, e, rfl, rfl⟩
  | false => exact ⟨_, e, rfl, rfl⟩
theorem Isk.lt {t : Bool} {h : Heap} {l : Addr} {v : Array Value} (x : Isk t h l v) : l < h.objs.size := by
  cases t with
  | true => obtain ⟨o, e, _⟩ := (show h.IsTuple l v from x); exact Heap.lt_size e
  | false => obtain ⟨o, e, _⟩ := (show h.IsList l v from x); exact Heap.lt_size e
theorem beg_k (t : Bool) (l : Addr) (v : Array Value) : Begins (.ref l) (obk t l) fun h => Isk t h l v := by
  cases t with
  | true => exact begins_tuple l v
  | false => exact begins_list l v
theorem drw_k {P : Program} {w : World} {A : Around} (hh : A.handled = none) (t : Bool) (i l : Addr) (ne : l ≠ i) (v : Array Value) :
    Draws P w A i [i, l] v.size (fun k x => v[k]? = some x) (fun k h => Itk t h i l k ∧ Isk t h l v) := by
  cases t with
  | true => exact Draws.tuple hh i l ne v
  | false => exact Draws.list hh i l ne v
theorem Sqk.real {X : Cx} {pins : List (Addr × Obj)} {σ : L2.St} {H : Hp} {s : Shared} {t : Bool} {a : Addr} {xs : List V} (I : Inv X pins σ H s) (q : Sqk t X.K H a xs) : ∃ vs, Vals xs vs ∧ Isk t s.heap a vs.toArray := by
  cases t with
  | true => obtain ⟨vs, r, p, _⟩ := I.tuple q; exact ⟨vs, r, p⟩
  | false => obtain ⟨vs, r, p, _⟩ := I.list q; exact ⟨vs, r, p.isList⟩
theorem Sqk.inj {X : Cx} {pins : List (Addr × Obj)} {σ : L2.St} {H : Hp} {s : Shared} {t : Bool} {a : Addr} {xs ys : List V} (I : Inv X pins σ H s) (q : Sqk t X.K H a xs) (r : Sqk t X.K H a ys) : xs = ys := by
  cases t with
  | true => exact I.tuple_inj q r
  | false => exact I.list_inj q r
def Itm (t u : Bool) (K : PySem.W.Frag) (a b : Addr) : It :=
  ⟨fun i H => ∃ (xs ys : List V) (x y : V), Sqk t K H a xs ∧ Sqk u K H b ys ∧ xs[i]? = some x ∧ ys[i]? = some y,
    fun i H v H' => ∃ T x y, v = .ref T ∧ H T = none ∧ H' = upd H T (.tup [x, y]) ∧ (∀ xs, Sqk t K H a xs → xs[i]? = some x) ∧ ∀ ys, Sqk u K H b ys → ys[i]? = some y,
    fun i H => ∃ xs ys : List V, Sqk t K H a xs ∧ Sqk u K H b ys ∧ i = min xs.length ys.length⟩
/-- the cells of a zip at n, over a and b below n -/
def chz (n : Nat) : List Addr := [n + 4, n + 2, n + 3, n, n + 1]
def Tnz (t u : Bool) (n a b : Addr) (i : Nat) (h : Heap) : Prop :=
  IsZip h (n + 4) (n + 2) (n + 3) .none ∧ IsTupOf2 h (n + 2) (.ref n) (.ref (n + 1)) ∧ (∃ x y, IsTupOf2 h (n + 3) x y) ∧ Itk t h n a i ∧ Itk u h (n + 1) b i
theorem chz_mem {n c : Nat} (h : c ∈ chz n) : c = n + 4 ∨ c = n + 2 ∨ c = n + 3 ∨ c = n ∨ c = n + 1 := by
  unfold chz at h
  simpa using h
theorem chz_le {n c : Nat} (h : c ∈ chz n) : n ≤ c ∧ c ≤ n + 4 := by
  have := chz_mem h
  omega
theorem sepz {n a b : Addr} (ha : a < n) (hb : b < n) : ZipSep2 (n + 4) (n + 2) (n + 3) n (n + 1) [n, a] [n + 1, b] :=
  zip_sep2 (fun c h => by rw [List.mem_singleton.mp h]; exact ha) (fun c h => by rw [List.mem_singleton.mp h]; exact hb)
theorem turn_m {P : Program} {w : World} {K : PySem.W.Frag} {es : List Expr} {k0 : Nat} {ps : Pos} {t u : Bool} {n a b : Addr} (ha : a < n) (hb : b < n) :
    Turn P w K (.Tuple es k0 ps) (Itm t u K a b) (chz n) (n + 4) (Tnz t u n a b) where
  mem := List.mem_cons_self ..
  obj := fun i h st c hc => by
    obtain ⟨hz, hT, ⟨x, y, hO⟩, g1, g2⟩ := st
    rcases chz_mem hc with e | e | e | e | e <;> subst e
    · exact ⟨_, hz, fun v q => nomatch q⟩
    · exact ⟨_, hT, fun v q => nomatch q⟩
    · exact ⟨_, hO, fun v q => nomatch q⟩
    · exact g1.get
    · exact g2.get
  keep := fun i h h' st k => by
    obtain ⟨hz, hT, ⟨x, y, hO⟩, g1, g2⟩ := st
    unfold chz at k
    exact ⟨k _ (by simp) _ hz, k _ (by simp) _ hT, ⟨x, y, k _ (by simp) _ hO⟩, g1.at fun o q => k _ (by simp) o q, g2.at fun o q => k _ (by simp) o q⟩
  item := by
    intro X eP ew eK cm i pins s σ H E I hf st hg
    subst eP ew eK
    obtain ⟨hz, hT, ⟨x0, y0, hO⟩, g1, g2⟩ := st
    obtain ⟨xs, ys, x, y, qx, qy, hx, hy⟩ := hg
    obtain ⟨vs, rx, px⟩ := qx.real I
    obtain ⟨ws, ry, py⟩ := qy.real I
    have hh : X.A.in1.handled = none := I.ok.hd cm
    have lx : i < vs.toArray.size := by
      have e := rx.length
      have := (List.getElem?_eq_some_iff.mp hx).1
      rw [List.size_toArray]
      omega
    have ly : i < ws.toArray.size := by
      have e := ry.length
      have := (List.getElem?_eq_some_iff.mp hy).1
      rw [List.size_toArray]
      omega
    have zl : n + 4 < s.heap.objs.size := Heap.lt_size hz
    refine wpAny_pyNext_zipD2_item (sepz ha hb) (drw_k (A := X.A.in1) hh t n a (Nat.ne_of_lt ha) vs.toArray) (drw_k (A := X.A.in1) hh u (n + 1) b (Nat.ne_of_lt (Nat.lt_succ_of_lt hb)) ws.toArray) hz hT hO ⟨g1, px⟩ ⟨g2, py⟩ lx ly ?_
    intro m1 m2 h' tk e1 e2 z' O' d1 d2 T' sz kp
    obtain ⟨v, hv, rv⟩ := rx.get hx
    obtain ⟨v2, hv2, rv2⟩ := ry.get hy
    have := e1.symm.trans (show vs.toArray[i]? = some v by simpa using hv)
    cases this
    have := e2.symm.trans (show ws.toArray[i]? = some v2 by simpa using hv2)
    cases this
    refine ⟨_, rfl, wpAny_letOwnedTupleGo_zip (s := { s with heap := h', toks := tk }) z' fun h2 z2 sb => ?_⟩
    have T2 := (sb.2 _ (Nat.ne_of_gt zl)).trans T'
    have new : ObjOk X.prog X.w (upd H s.heap.objs.size (.tup [x, y])) h2 s.heap.objs.size (.tup [x, y]) :=
      ⟨by show 2 ≤ sizeLine; decide, [m1, m2], .cons rv (.cons rv2 .nil), _, T2, rfl, _, rfl⟩
    have nin : ∀ {c : Addr}, c ∉ chz n → c ≠ n + 4 ∧ c ≠ n + 3 ∧ c ≠ n ∧ c ≠ n + 1 := fun {c} hc => by
      unfold chz at hc
      simp only [List.mem_cons, List.not_mem_nil, or_false, not_or] at hc
      exact ⟨hc.1, hc.2.2.1, hc.2.2.2.1, hc.2.2.2.2⟩
    have I2 : Inv X pins σ (upd H s.heap.objs.size (.tup [x, y])) { s with heap := h2, toks := tk } :=
      I.turnedNew (t' := tk) (ch := chz n) (fun c o hc q => (sb.2 c (nin hc).1).trans (kp c o (nin hc).1 (nin hc).2.1 (nin hc).2.2.1 (nin hc).2.2.2 q)) hf (Nat.le_refl _) new
    have S := sepz ha hb
    refine ⟨.ref s.heap.objs.size, _, I2, rfl, ⟨_, x, y, rfl, I.hok.fresh (Nat.le_refl _), rfl, fun l hl => ?_, fun l hl => ?_⟩, ⟨z2, ?_, ⟨m1, m2, ?_⟩, ?_, ?_⟩, fun c hc => ?_⟩
    · rw [hl.inj I qx]; exact hx
    · rw [hl.inj I qy]; exact hy
    · exact (sb.2 _ S.TIz).trans (kp _ _ S.TIz S.TITO S.TIi1 S.TIi2 hT)
    · exact (sb.2 _ S.TOz).trans O'
    · exact d1.1.at fun o q => (sb.2 _ S.zi1.symm).trans q
    · exact d2.1.at fun o q => (sb.2 _ S.zi2.symm).trans q
    · have lt : c < s.heap.objs.size := Nat.lt_of_le_of_lt (chz_le hc).2 zl
      rw [upd_ne (Nat.ne_of_lt lt)]
      exact (hf c hc).1
  done := by
    intro X eP ew eK cm i pins s σ H E I hf st hg
    subst eP ew eK
    obtain ⟨hz, hT, ⟨x0, y0, hO⟩, g1, g2⟩ := st
    obtain ⟨xs, ys, qx, qy, he⟩ := hg
    obtain ⟨vs, rx, px⟩ := qx.real I
    obtain ⟨ws, ry, py⟩ := qy.real I
    have hh : X.A.in1.handled = none := I.ok.hd cm
    have l1 : vs.toArray.size = xs.length := by rw [List.size_toArray, rx.length]
    have l2 : ws.toArray.size = ys.length := by rw [List.size_toArray, ry.length]
    refine wpAny_pyNext_zipD2_end (sepz ha hb) (drw_k (A := X.A.in1) hh t n a (Nat.ne_of_lt ha) vs.toArray) (drw_k (A := X.A.in1) hh u (n + 1) b (Nat.ne_of_lt (Nat.lt_succ_of_lt hb)) ws.toArray) hz hT hO ⟨g1, px⟩ ⟨g2, py⟩ (by omega) (by omega) (by omega) ?_
    intro h' tk kp
    refine ⟨rfl, I.turnedL (t' := tk) (ch := chz n) (fun c o hc q => ?_) hf⟩
    unfold chz at hc
    simp only [List.mem_cons, List.not_mem_nil, or_false, not_or] at hc
    exact kp c o hc.1 hc.2.2.1 hc.2.2.2.1 hc.2.2.2.2 q
  self := fun A i s Q E st h => wpAny_pyIter_zip st.1 h
def iZipM (K : PySem.W.Frag) (ta : TA) : TI := fun σ H R => ta σ H fun vs H1 => ∃ t u a b xs ys, vs = [.ref a, .ref b] ∧ Sqk t K H1 a xs ∧ Sqk u K H1 b ys ∧ R (Itm t u K a b) H1
theorem pi_zipM {X : Cx} {e e2 : Expr} {ta : TA} {p pos tp : Pos} {es : List Expr} {k0 : Nat} (hg : Gl X "zip") (hm : X.mg "zip" = none) (ha : PA X [e, e2] ta)
    (hs : starEach [e, e2] X.env = (false, eval e X.env) :: starEach [e2] X.env := by rfl) (hp : (backTo pos (starEach [e2] X.env)).any (·.1) = false := by rfl) :
    PI X (.Tuple es k0 tp) (.Call (.Name "zip" p) [e, e2] [] pos) (iZipM X.K ta) := by
  constructor
  intro pins s σ H R I h
  refine Call_ (ld_blt I hg hm PyProof.Rows.boot_zip (PyProof.Rows.callWith_type1 (thn (ha.run pos pins s σ H _ I h) fun us s1 q => ?_) hs hp))
  obtain ⟨vs, H1, I1, r1, t, u, a, b, xs, ys, rfl, qx, qy, q⟩ := q
  match us, r1 with
  | [_, _], .cons ra (.cons rb .nil) =>
  cases ra
  cases rb
  obtain ⟨vs, rx, px⟩ := qx.real I1
  obtain ⟨ws, ry, py⟩ := qy.real I1
  have la := px.lt
  have lb := py.lt
  refine zip_begins2 (beg_k t a vs.toArray) (beg_k u b ws.toArray) px py fun h' hz hT hO o1 o2 sz kp => ?_
  refine wpAny_pyIter_zip hz ?_
  refine ⟨s1.heap.objs.size + 4, chz s1.heap.objs.size, _, _, H1, rfl, I1.kept (t' := s1.toks) kp, turn_m la lb, ⟨hz, hT, ⟨_, _, hO⟩, Itk.new o1, Itk.new o2⟩, fun c hc => ?_, q⟩
  have hle : s1.heap.objs.size ≤ c := (chz_le hc).1
  exact I1.fpOk hle (I1.hok.fresh hle)
end
section
variable {g : G} {H0 : Hp} {f : Fr} {σ : L2.St} {env : VM.Env} {E : XK}
theorem Sqk.ex {t : Bool} {K : PySem.W.Frag} {H H1 : Hp} {a : Addr} {xs : List V} (e : Ex H H1) (h : Sqk t K H a xs) (hl : t = false → H a = some (.lst xs)) : Sqk t K H1 a xs := by
  cases t with
  | true => exact ex_t e h
  | false => exact sq_of (e _ _ (hl rfl))
theorem walk_zm {t u : Bool} {a b : Addr} {vs ws : List V} {xs ys : List D} {ps : List Nat} (r : RpA g.K f.d H0 vs xs) (r2 : RpA g.K f.d H0 ws ys) (h : Sqk t g.K H0 a vs) (hl : t = false → H0 a = some (.lst vs)) (h2 : Sqk u g.K H0 b ws) (hl2 : u = false → H0 b = some (.lst ws)) : Walks g f ps σ env H0 (Itm t u g.K a b) (zipD xs ys) where
  stop := fun H01 H1 σ1 env1 R e k => ⟨vs, ws, h.ex (e.trans R.fm.ex) hl, h2.ex (e.trans R.fm.ex) hl2, by rw [zip_len, r.len, r2.len]⟩
  go := fun i H01 H1 σ1 env1 hi R e k => by
    rw [zip_len] at hi
    obtain ⟨v, x, h3, _, _⟩ := get_rp r (show i < xs.length by omega)
    obtain ⟨w, y, h4, _, _⟩ := get_rp r2 (show i < ys.length by omega)
    exact ⟨vs, ws, v, w, h.ex (e.trans R.fm.ex) hl, h2.ex (e.trans R.fm.ex) hl2, h3, h4⟩
  yld := fun i v H01 H1 H2 σ1 env1 hi R e k hy => by
    rw [zip_len] at hi
    obtain ⟨v1, x, h3, h4, h5⟩ := get_rp r (show i < xs.length by omega)
    obtain ⟨w1, y, g3, g4, g5⟩ := get_rp r2 (show i < ys.length by omega)
    obtain ⟨T, p, z, rfl, hT, rfl, hy, hz⟩ := hy
    have := hy vs (h.ex (e.trans R.fm.ex) hl)
    rw [h3] at this
    cases this
    have := hz ws (h2.ex (e.trans R.fm.ex) hl2)
    rw [g3] at this
    cases this
    obtain ⟨c, d⟩ := put_tup (Stp.refl R) hT (.cons (h5.up e) (.one (g5.up e)))
    exact ⟨_, _, zip_at h4 g4, c, d⟩
def mZipM (ma : MA) : MI := fun env Q E => ma env (fun xs => match xs with
  | [.lst xs, .lst ys] => Q (zipD xs ys)
  | [.tup xs, .tup ys] => Q (zipD xs ys)
  | [.lst xs, .tup ys] => Q (zipD xs ys)
  | [.tup xs, .lst ys] => Q (zipD xs ys)
  | _ => False) E
theorem den_zipM {t : TA} {m : MA} {ps : List Nat} (h : DenA g E t m) : DenI g E (iZipM g.K t) (mZipM m) ps := fun f H0 H σ env R R' E' r X k m =>
  h f H0 H σ env _ _ E' r X (fun vs xs H01 H1 S rp q => by
    have sl : ∀ {a : Addr} {vs : List V}, H01 a = some (.lst vs) → Sqk false g.K H1 a vs := fun h => sq_of (S.ex _ _ h)
    have st : ∀ {a : Addr} {vs : List V}, SqT g.K H01 a vs → Sqk true g.K H1 a vs := fun h => ex_t S.ex h
    match xs, q with
    | [.lst xs, .lst ys], q =>
      match rp with
      | .cons (.lst h1 h2) (.cons (.lst g1 g2) .nil) => exact ⟨false, false, _, _, _, _, rfl, sl h1, sl g1, k _ _ H01 H1 S (walk_zm h2 g2 (sq_of h1) (fun _ => h1) (sq_of g1) (fun _ => g1)) q⟩
    | [.tup xs, .tup ys], q =>
      match rp with
      | .cons (.tup h1 h2) (.cons (.tup g1 g2) .nil) => exact ⟨true, true, _, _, _, _, rfl, st h1.sq, st g1.sq, k _ _ H01 H1 S (walk_zm h2 g2 h1.sq (fun z => by cases z) g1.sq (fun z => by cases z)) q⟩
    | [.lst xs, .tup ys], q =>
      match rp with
      | .cons (.lst h1 h2) (.cons (.tup g1 g2) .nil) => exact ⟨false, true, _, _, _, _, rfl, sl h1, st g1.sq, k _ _ H01 H1 S (walk_zm h2 g2 (sq_of h1) (fun _ => h1) g1.sq (fun z => by cases z)) q⟩
    | [.tup xs, .lst ys], q =>
      match rp with
      | .cons (.tup h1 h2) (.cons (.lst g1 g2) .nil) => exact ⟨true, false, _, _, _, _, rfl, st h1.sq, sl g1, k _ _ H01 H1 S (walk_zm h2 g2 h1.sq (fun z => by cases z) (sq_of g1) (fun _ => g1)) q⟩) m
end
end VM

/-! The deck of draws: whatever is drawn. -/
namespace HD
open PySem PySem.Spec PyProof.Rows L2 Evl HG HL HC
variable {K : PySem.W.Frag}
theorem el_is {σ : L2.St} {H : Hp} {te : TE} {xs ys : List V} (h : EvL te σ H xs) (e : xs = ys) : EvL te σ H ys := by
  rw [← e]
  exact h
/-! ### the deck -/
def kv3 (l : Addr) (m n : Int) : List (Key × V) := [(Sum.inr "cells", .ref l), (Sum.inr "mixed", .int m), (Sum.inr "turn", .int n)]
theorem ne_cm : ¬ ((Sum.inr ("cells" : Str) : Key) = Sum.inr ("mixed" : Str)) := by decide +kernel
theorem ne_cd : ¬ ((Sum.inr ("cells" : Str) : Key) = Sum.inr ("turn" : Str)) := by decide +kernel
theorem ne_md : ¬ ((Sum.inr ("mixed" : Str) : Key) = Sum.inr ("turn" : Str)) := by decide +kernel
theorem kv3_cells (l : Addr) (m n : Int) : valV (kv3 l m n) (Sum.inr ("cells" : Str)) = some (.ref l) := by simp [valV, kv3]
theorem kv3_mixed (l : Addr) (m n : Int) : valV (kv3 l m n) (Sum.inr ("mixed" : Str)) = some (.int m) := by simp only [valV, kv3, List.find?_cons, ne_cm, decide_false, decide_true, Option.map_some]
theorem kv3_draws (l : Addr) (m n : Int) : valV (kv3 l m n) (Sum.inr ("turn" : Str)) = some (.int n) := by simp only [valV, kv3, List.find?_cons, ne_cd, ne_md, decide_false, decide_true, Option.map_some]
theorem kv3_put (l : Addr) (m n k : Int) : putK (kv3 l m n) (Sum.inr ("turn" : Str)) (.int k) = kv3 l m k := by
  unfold putK kv3
  simp only [List.any_cons, List.any_nil, ne_cd, ne_md, decide_false, decide_true, Bool.or_true, Bool.true_or, if_true, List.map_cons, List.map_nil, if_false]
theorem kv3_merge (l : Addr) (m n : Int) : mergeK [] (kv3 l m n) = kv3 l m n := by
  unfold mergeK kv3
  simp only [List.foldl_cons, List.foldl_nil, putK, List.any_nil, List.any_cons, Bool.false_eq_true, if_false, List.nil_append, ne_cm, ne_cd, ne_md, decide_false, Bool.or_false, List.cons_append]
structure Dk (H : Hp) (d l : Addr) : Prop where
  ex : ∃ (cells : List Int) (m n : Int), H d = some (.dK (kv3 l m n)) ∧ H l = some (.lst (cells.map V.int)) ∧ cells.length ≤ 63 ∧ 0 ≤ m
theorem Dk.ne {H : Hp} {d l : Addr} (h : Dk H d l) : d ≠ l := by
  obtain ⟨c, m, n, h1, h2, _⟩ := h.ex
  exact ne_of h1 h2 (by intro z; cases z)
theorem Dk.up {H H1 : Hp} {d l : Addr} (h : Dk H d l) (e : Ex H H1) : Dk H1 d l := by
  obtain ⟨c, m, n, h1, h2, h3⟩ := h.ex
  exact ⟨c, m, n, e _ _ h1, e _ _ h2, h3⟩
/-- all but the deck stays -/
def Oth (d l : Addr) (H H1 : Hp) : Prop := ∀ b o, b ≠ d → b ≠ l → H b = some o → H1 b = some o
theorem Oth.refl {d l : Addr} (H : Hp) : Oth d l H H := fun _ _ _ _ h => h
theorem Oth.trans {d l : Addr} {H H1 H2 : Hp} (a : Oth d l H H1) (b : Oth d l H1 H2) : Oth d l H H2 := fun x o h1 h2 h => b x o h1 h2 (a x o h1 h2 h)
theorem Oth.ex {d l : Addr} {H H1 : Hp} (e : Ex H H1) : Oth d l H H1 := fun b o _ _ h => e b o h
theorem Oth.putd {d l : Addr} {H : Hp} {o : HO} : Oth d l H (upd H d o) := fun b u h1 _ h => by rw [upd_ne h1]; exact h
theorem Oth.putl {d l : Addr} {H : Hp} {o : HO} : Oth d l H (upd H l o) := fun b u _ h2 h => by rw [upd_ne h2]; exact h
/-! ### the draws -/
def sp_law_draw : Sp := fun vs H Q _ => ∃ (d l : Addr) (many : Int), vs = [.ref d, .int many] ∧ 1 ≤ many ∧ many < 2 ^ 8000 ∧ Dk H d l ∧ ∀ (r : Int) (H1 : Hp), 0 ≤ r → r < many → Dk H1 d l → Oth d l H H1 → Q (.int r) H1
def t_law_draw (K : PySem.W.Frag) : TS :=
    (tSeq (sDPut (tVar 0) (tC (.str "turn")) (tOp rAdd0 (tDGet (tVar 0) (tC (.str "turn"))) (tC (.int 1))))
    (tSeq (tAsg (tOp rAdd0 (tDGet (tVar 0) (tC (.str "mixed"))) (tOp rMulW (tC (.int 61001)) (tDGet (tVar 0) (tC (.str "turn"))))) (gName 2))
    (tSeq (tIfS (tTest (tOp (rNeD K) (tDGet (tVar 0) (tC (.str "cells"))) (tLst tNil))) (tSeq (tAsg (tBM0 K "list" rPop (tDGet (tVar 0) (tC (.str "cells")))) (gName 3))
    (tSeq (tIfS (tTest (tOp rGe0 (tVar 3) (tOp rPow0 (tC (.int 10)) (tC (.int 18))))) (tSeq (tDrop (tBM K "list" rAppend (tDGet (tVar 0) (tC (.str "cells"))) (tCons (tOp rDivW (tVar 3) (tCB rMax2 (tCons (tC (.int 2)) (tCons (tVar 1) tNil)))) tNil)))
    (tRet (tOp rMod0 (tCB rInt1 (tCons (tVar 3) tNil)) (tVar 1)))) tNext)
    (tAsg (tOp rAdd0 (tVar 2) (tOp rMod0 (tCB rInt1 (tCons (tVar 3) tNil)) (tC (.int 2147483587)))) (gName 2)))) tNext)
    (tSeq (tAsg (tOp rMod0 (tCB rInt1 (tCons (tOp rAdd0 (tOp rMulW (tVar 2) (tC (.int 16807))) (tC (.int 59))) tNil)) (tC (.int 2147483543))) (gName 2))
    (tSeq (tAsg (tOp rMod0 (tCB rInt1 (tCons (tOp rAdd0 (tOp rAdd0 (tOp rMulW (tVar 2) (tVar 2)) (tOp rMulW (tC (.int 72223)) (tDGet (tVar 0) (tC (.str "turn"))))) (tC (.int 59))) tNil)) (tC (.int 2147483647))) (gName 2))
    (tSeq (tAsg (tOp rMod0 (tCB rInt1 (tCons (tOp rMulW (tVar 2) (tC (.int 39373))) tNil)) (tC (.int 2147483563))) (gName 2))
    (tRet (tOp rMod0 (tCB rInt1 (tCons (tOp rDivW (tVar 2) (tC (.int 64))) tNil)) (tVar 1)))))))))
theorem get_cells {σ : L2.St} {H : Hp} {d l : Addr} {m n : Int} {te : TE} (h : Ev te σ H (.ref d)) (hd : H d = some (.dK (kv3 l m n))) : Ev (tDGet te (tC (.str "cells"))) σ H (.ref l) := fun H1 e Q q =>
  h H1 e _ fun H2 e2 => ⟨d, .ref l, rfl, by rw [← kv3_cells l m n]; exact DGet.k (k := Sum.inr ("cells" : Str)) (e2 _ _ (e _ _ hd)), q H2 e2⟩
theorem get_mixed {σ : L2.St} {H : Hp} {d l : Addr} {m n : Int} {te : TE} (h : Ev te σ H (.ref d)) (hd : H d = some (.dK (kv3 l m n))) : Ev (tDGet te (tC (.str "mixed"))) σ H (.int m) := fun H1 e Q q =>
  h H1 e _ fun H2 e2 => ⟨d, .int m, rfl, by rw [← kv3_mixed l m n]; exact DGet.k (k := Sum.inr ("mixed" : Str)) (e2 _ _ (e _ _ hd)), q H2 e2⟩
theorem get_draws {σ : L2.St} {H : Hp} {d l : Addr} {m n : Int} {te : TE} (h : Ev te σ H (.ref d)) (hd : H d = some (.dK (kv3 l m n))) : Ev (tDGet te (tC (.str "turn"))) σ H (.int n) := fun H1 e Q q =>
  h H1 e _ fun H2 e2 => ⟨d, .int n, rfl, by rw [← kv3_draws l m n]; exact DGet.k (k := Sum.inr ("turn" : Str)) (e2 _ _ (e _ _ hd)), q H2 e2⟩
theorem dp_ints {H : Hp} : ∀ ns : List Int, DpAll K H (ns.map V.int) (ns.map PyData.int)
  | [] => .nil
  | n :: ns => .cons (.int n) (dp_ints ns)
theorem shaped_ints (ns : List Int) : SeqAt.shaped (.list (ns.map PyData.int)) = true := by
  have h1 : ∀ ns : List Int, PyData.canLayAll0 (ns.map PyData.int) = true := by
    intro ns
    induction ns with
    | nil => rfl
    | cons a ns ih => show (PyData.canLay0 (.int a) && PyData.canLayAll0 (ns.map PyData.int)) = true; rw [ih]; rfl
  have h2 : ∀ ns : List Int, PyData.depthAll (ns.map PyData.int) = 0 := by
    intro ns
    induction ns with
    | nil => rfl
    | cons a ns ih => show max (PyData.depth (.int a)) (PyData.depthAll (ns.map PyData.int)) = 0; rw [ih]; rfl
  unfold SeqAt.shaped
  show (PyData.canLayAll0 (ns.map PyData.int) && decide (PyData.depthAll (ns.map PyData.int) + 1 ≤ 64)) = true
  rw [h1, h2]
  rfl
/-- a list of ints against [] -/
theorem ev_neNil {σ : L2.St} {H : Hp} {te : TE} {a : Addr} {ns : List Int} (h : Ev te σ H (.ref a)) (hl : H a = some (.lst (ns.map V.int))) : Ev (tOp (rNeD K) te (tLst tNil)) σ H (.bl (!ns.isEmpty)) := by
  refine ev_opL (xs := []) h (el_lst ea_nil (by decide)) fun p H1 hp e => rv_val fun H2 e2 Q q => ?_
  refine ⟨.list (ns.map PyData.int), .list [], .lst (sq_of (e2 _ _ (e _ _ hl))) (dp_ints ns), .lst (sq_of (e2 _ _ hp)) .nil, shaped_ints ns, rfl, ?_⟩
  have : PyData.eqv (.list (ns.map PyData.int)) (.list []) = ns.isEmpty := by cases ns <;> rfl
  rw [this]
  exact q
theorem rd_law_draw {vs : List V} {H : Hp} {Q : VK} {E : XK} (h : sp_law_draw vs H Q E) : t_law_draw K { nx := fun _ H2 => Q .non H2, rt := Q } (start ["deck", "below", "figure", "cell"] vs) H := by
  obtain ⟨d, l, many, rfl, h1, h2, dk, k⟩ := h
  obtain ⟨cells, m, n, hd, hl, hc, hm⟩ := dk.ex
  have ndl := dk.ne
  -- deck['draws'] = deck['draws'] + 1
  show tSeq (sDPut _ _ _) _ _ _ _
  refine (ev_op (get_draws (ev_var rfl) hd) ev_c rv_I0 : Ev _ _ H (.int (n + 1))) H (Ex.refl H) _ fun H1 e1 => ?_
  refine ⟨.ref d, rfl, d, upd H1 d (.dK (kv3 l m (n + 1))), rfl, ?_, ?_⟩
  · have p := DPut.k (k := Sum.inr ("turn" : Str)) (v := .int (n + 1)) (e1 _ _ hd) (show (kv3 l m n).length < sizeLine by show 3 < sizeLine; decide)
    rw [kv3_put] at p
    exact p
  generalize hH2 : upd H1 d (.dK (kv3 l m (n + 1))) = H2
  have d2 : H2 d = some (.dK (kv3 l m (n + 1))) := by rw [← hH2]; exact upd_same
  have l2 : H2 l = some (.lst (cells.map V.int)) := by rw [← hH2, upd_ne ndl.symm]; exact e1 _ _ hl
  have o2 : Oth d l H H2 := (Oth.ex e1).trans (by rw [← hH2]; exact Oth.putd)
  clear hH2
  -- number = deck['mixed'] + 61473 * deck['draws']
  refine q_asg (ev_op (get_mixed (ev_var rfl) d2) (ev_op ev_c (get_draws (ev_var rfl) d2) (rv_I mulL)) rv_I0) fun H3 e3 => ?_
  -- the last rows: from any number and any deck
  have tail : ∀ (x : Int) (y : Option V) (H4 : Hp) (cs : List Int), cs.length ≤ 63 → H4 d = some (.dK (kv3 l m (n + 1))) → H4 l = some (.lst (cs.map V.int)) → Oth d l H H4 →
      tSeq (tAsg (tOp rMod0 (tCB rInt1 (tCons (tOp rAdd0 (tOp rMulW (tVar 2) (tC (.int 16807))) (tC (.int 59))) tNil)) (tC (.int 2147483543))) (gName 2))
      (tSeq (tAsg (tOp rMod0 (tCB rInt1 (tCons (tOp rAdd0 (tOp rAdd0 (tOp rMulW (tVar 2) (tVar 2)) (tOp rMulW (tC (.int 72223)) (tDGet (tVar 0) (tC (.str "turn"))))) (tC (.int 59))) tNil)) (tC (.int 2147483647))) (gName 2))
      (tSeq (tAsg (tOp rMod0 (tCB rInt1 (tCons (tOp rMulW (tVar 2) (tC (.int 39373))) tNil)) (tC (.int 2147483563))) (gName 2))
      (tRet (tOp rMod0 (tCB rInt1 (tCons (tOp rDivW (tVar 2) (tC (.int 64))) tNil)) (tVar 1))))) { nx := fun _ H2 => Q .non H2, rt := Q } [some (.ref d), some (.int many), some (.int x), y] H4 := by
    intro x y H4 cs hcs d4 l4 o4
    refine q_asg (ev_op (ev_cb (ea_cons (ev_op (ev_op (ev_var rfl) ev_c (rv_I mulR)) ev_c rv_I0) ea_nil) rc_int) ev_c (rv_I (by decide))) fun H5 e5 => ?_
    generalize hx1 : (x * 16807 + 59) % 2147483543 = x1
    have b1 : 0 ≤ x1 ∧ x1 < 2147483543 := by rw [← hx1]; omega
    refine q_asg (ev_op (ev_cb (ea_cons (ev_op (ev_op (ev_op (ev_var rfl) (ev_var rfl) (rv_I (mulL (by omega) (by omega)))) (ev_op ev_c (get_draws (ev_var rfl) (e5 _ _ d4)) (rv_I mulL)) rv_I0) ev_c rv_I0) ea_nil) rc_int) ev_c (rv_I (by decide))) fun H6 e6 => ?_
    generalize (x1 * x1 + 72223 * (n + 1) + 59) % 2147483647 = x2
    refine q_asg (ev_op (ev_cb (ea_cons (ev_op (ev_var rfl) ev_c (rv_I mulR)) ea_nil) rc_int) ev_c (rv_I (by decide))) fun H7 e7 => ?_
    generalize x2 * 39373 % 2147483563 = x3
    refine s_ret (ev_op (ev_cb (ea_cons (ev_op (ev_var rfl) ev_c (rv_I (divW (m := 64) (b := 7) (by decide) (by decide)))) ea_nil) rc_int) (ev_var rfl) (rv_I (by omega))) fun H8 e8 => ?_
    have e48 := ((e5.trans e6).trans e7).trans e8
    refine k _ H8 (Int.emod_nonneg _ (by omega)) (Int.emod_lt_of_pos _ (by omega)) ⟨cs, m, n + 1, e48 _ _ d4, e48 _ _ l4, hcs, hm⟩ (o4.trans (Oth.ex e48))
  -- if deck['cells'] != []
  refine q_if (et_test (ev_neNil (get_cells (ev_var rfl) (e3 _ _ d2)) (e3 _ _ l2))) (fun hb H4 e4 => ?_) (fun hb H4 e4 => ?_)
  · have e24 := e3.trans e4
    have d4 := e24 _ _ d2
    have l4 := e24 _ _ l2
    have o4 := o2.trans (Oth.ex e24)
    have hne : cells ≠ [] := by
      intro z
      subst z
      cases hb
    have hlast : (cells.map V.int)[(cells.map V.int).length - 1]? = some (.int (cells.getLast hne)) := by
      rw [List.getElem?_map, List.length_map, ← List.getLast?_eq_getElem?, List.getLast?_eq_some_getLast hne]
      rfl
    have hdrop : (cells.map V.int).dropLast = cells.dropLast.map V.int := by simp
    generalize hcl : cells.getLast hne = cell at hlast
    generalize hcs : cells.dropLast = cs at hdrop
    have lcs : cs.length + 1 = cells.length := by
      rw [← hcs, List.length_dropLast]
      have := List.length_pos_iff.mpr hne
      omega
    -- cell = deck['cells'].pop()
    show tSeq (tAsg (tBM0 K "list" rPop (tDGet (tVar 0) (tC (.str "cells")))) (gName 3)) _ _ _ _
    refine (get_cells (ev_var rfl) d4 : Ev _ _ H4 (.ref l)) H4 (Ex.refl H4) _ fun H5 e5 => ?_
    refine ⟨Or.inl ⟨rfl, _, sq_of (e5 _ _ l4)⟩, l, cells.map V.int, .int cell, rfl, rfl, e5 _ _ l4, hlast, ?_⟩
    rw [hdrop]
    generalize hH6 : upd H5 l (.lst (cs.map V.int)) = H6
    have d6 : H6 d = some (.dK (kv3 l m (n + 1))) := by rw [← hH6, upd_ne ndl]; exact e5 _ _ d4
    have l6 : H6 l = some (.lst (cs.map V.int)) := by rw [← hH6]; exact upd_same
    have o6 : Oth d l H H6 := (o4.trans (Oth.ex e5)).trans (by rw [← hH6]; exact Oth.putl)
    clear hH6
    -- if cell >= 10 ** 18
    refine q_when (et_test (ev_op (ev_var rfl) (ev_op ev_c ev_c (rv_I ⟨by decide, by decide, by decide⟩)) rv_I0)) (fun hb2 H7 e7 => ?_) (fun hb2 H7 e7 => ?_)
    · have d7 := e7 _ _ d6
      have l7 := e7 _ _ l6
      have hmax : ∀ i : Int, 1 ≤ i → i < 2 ^ 8000 → CDivW cell (if i > 2 then i else 2) := by
        intro i hi1 hi2
        have e : ∃ j : Nat, (if i > 2 then i else 2) = (j : Int) ∧ 0 < j ∧ j < 2 ^ 8001 := by
          by_cases q : i > 2
          · rw [if_pos q]
            refine ⟨i.toNat, by omega, by omega, ?_⟩
            have : ((2 ^ 8001 : Nat) : Int) = (2 : Int) ^ 8001 := Int.natCast_pow 2 8001
            have h3 : (2 : Int) ^ 8000 ≤ (2 : Int) ^ 8001 := by decide +kernel
            omega
          · rw [if_neg q]
            exact ⟨2, rfl, by decide, by decide +kernel⟩
        obtain ⟨j, e1, e2, e3⟩ := e
        rw [e1]
        exact divW e2 e3
      -- deck['cells'].append(cell // max(2, many))
      show tSeq (tDrop (tBM K "list" rAppend (tDGet (tVar 0) (tC (.str "cells"))) _)) _ _ _ _
      refine q_app (l := l) (xs := cs.map V.int) l7 (get_cells (ev_var rfl) d7) (ev_op (ev_var rfl) (ev_cb (ea_cons ev_c (ea_cons (ev_var rfl) ea_nil)) rc_max2) (rv_I (hmax many h1 h2))) (by rw [List.length_map]; omega) fun H8 e8 => ?_
      generalize cell / (if many > 2 then many else 2) = c9
      generalize hH9 : upd H8 l (.lst (cs.map V.int ++ [V.int c9])) = H9
      have d9 : H9 d = some (.dK (kv3 l m (n + 1))) := by rw [← hH9, upd_ne ndl]; exact e8 _ _ d7
      have l9 : H9 l = some (.lst ((cs ++ [c9]).map V.int)) := by rw [← hH9, List.map_append]; exact upd_same
      have o9 : Oth d l H H9 := ((o6.trans (Oth.ex e7)).trans (Oth.ex e8)).trans (by rw [← hH9]; exact Oth.putl)
      clear hH9
      refine s_ret (ev_op (ev_cb (ea_cons (ev_var rfl) ea_nil) rc_int) (ev_var rfl) (rv_I (by omega))) fun H10 e10 => ?_
      refine k _ H10 (Int.emod_nonneg _ (by omega)) (Int.emod_lt_of_pos _ (by omega)) ⟨cs ++ [c9], m, n + 1, e10 _ _ d9, e10 _ _ l9, by rw [List.length_append]; show cs.length + 1 ≤ 63; omega, hm⟩ (o9.trans (Oth.ex e10))
    · refine s_asg (ev_op (ev_var rfl) (ev_op (ev_cb (ea_cons (ev_var rfl) ea_nil) rc_int) ev_c (rv_I (by decide))) rv_I0) fun H8 e8 => ?_
      have e68 := e7.trans e8
      exact tail _ _ H8 cs (by omega) (e68 _ _ d6) (e68 _ _ l6) (o6.trans (Oth.ex e68))
  · have e24 := e3.trans e4
    exact tail _ _ H4 cells hc (e24 _ _ d2) (e24 _ _ l2) (o2.trans (Oth.ex e24))

/-! ### the deck made -/
theorem cut_ints (ns : List Int) (lo hi : Option Int) : ∃ cs : List Int, cutV (ns.map V.int) lo hi = cs.map V.int ∧ cs.length ≤ ns.length := by
  refine ⟨(ns.drop (HT.sIx (ns.map V.int).length 0 lo)).take (HT.sIx (ns.map V.int).length (ns.map V.int).length hi - HT.sIx (ns.map V.int).length 0 lo), ?_, ?_⟩
  · unfold cutV
    rw [List.map_take, List.map_drop]
  · rw [List.length_take, List.length_drop]
    omega
def sp_law_deck (K : PySem.W.Frag) : Sp := fun vs H Q _ => ∃ (a : Addr) (ns : List Int), vs = [.ref a] ∧ SqL K H a (ns.map V.int) ∧ ns.length ≤ 63 ∧ ∀ d l H1, H d = none → H l = none → Dk H1 d l → Ex H H1 → Q (.ref d) H1
def t_law_deck (K : PySem.W.Frag) : TS :=
    (tSeq (tAsg (tC (.int 10887340)) (gName 1))
    (tSeq (tFor (iList K (tSl (rSlL K) (tVar 0) tNoPart (tPart (tC (.int 63))))) (gName 2) (tAsg (tOp rMod0 (tCB rInt1 (tCons (tOp rAdd0 (tOp rAdd0 (tOp rMulW (tVar 1) (tC (.int 39373))) (tOp rMod0 (tCB rInt1 (tCons (tVar 2) tNil)) (tC (.int 2147483587)))) (tC (.int 59))) tNil)) (tC (.int 2147483647))) (gName 1)))
    (tRet (tDisp [((tC (.str "cells")), (tRevL K (tLc (iList K (tSl (rSlL K) (tVar 0) tNoPart (tPart (tC (.int 63))))) (gName 2) tYes (tCB rInt1 (tCons (tVar 2) tNil)) [2]))), ((tC (.str "mixed")), (tVar 1)), ((tC (.str "turn")), (tC (.int 0)))]))))
/-- list(..) of a new list -/
theorem el_listN {σ : L2.St} {H : Hp} {tx : TE} {xs : List V} (h : EvL tx σ H xs) : EvL (tCB (rListS K) (tCons tx tNil)) σ H xs := fun H1 e Q q =>
  h H1 e _ fun p H2 _ e2 h2 => ⟨p, xs, rfl, Or.inl (sq_of h2), fun l hl => q l _ (fresh_back e2 hl) (e2.trans (Ex.new hl)) upd_same⟩
/-- [int(c) for c in a new list of ints] -/
theorem el_intN {σ : L2.St} {H : Hp} {tx : TE} {cs : List Int} {j : Nat} {vs : List Nat} (h : EvL tx σ H (cs.map V.int)) (hz : cs.length ≤ 63) (hw : ∀ x, wipe ((wipe σ vs).set j (some x)) vs = wipe σ vs) (hj : ∀ x, ((wipe σ vs).set j (some x))[j]? = some (some x)) : EvL (tLc (iList K tx) (gName j) tYes (tCB rInt1 (tCons (tVar j) tNil)) vs) σ H (cs.map V.int) :=
  el_is (el_lcNL (fun _ => true) (fun p => .int (cs.getD p 0)) h (by rw [List.length_map]; omega) hw (fun i x H1 e hx => et_yes) (fun i x H1 e hx _ => by
    rw [List.getElem?_map] at hx
    cases q : cs[i]? with
    | none => rw [q] at hx; cases hx
    | some c =>
      rw [q] at hx
      cases hx
      have ec : cs.getD i 0 = c := by rw [List.getD_eq_getElem?_getD, q]; rfl
      rw [ec]
      exact ev_cb (ea_cons (ev_var (hj _)) ea_nil) rc_int)) (by
    rw [given_all, List.length_map]
    apply List.ext_getElem?
    intro i
    rw [List.getElem?_map, List.getElem?_map]
    by_cases hi : i < cs.length
    · rw [List.getElem?_range hi, List.getElem?_eq_getElem hi]
      show some (V.int (cs.getD i 0)) = some (V.int cs[i])
      rw [List.getD_eq_getElem?_getD, List.getElem?_eq_getElem hi]
      rfl
    · rw [List.getElem?_eq_none (by rw [List.length_range]; omega), List.getElem?_eq_none (by omega)]
      rfl)
theorem rd_law_deck {vs : List V} {H : Hp} {Q : VK} {E : XK} (h : sp_law_deck K vs H Q E) : t_law_deck K { nx := fun _ H2 => Q .non H2, rt := Q } (start ["script", "mixed", "cell"] vs) H := by
  obtain ⟨a, ns, rfl, hs, hn, k⟩ := h
  obtain ⟨cs, ec, lc⟩ := cut_ints ns none (some 63)
  refine q_asg ev_c fun H1 e1 => ?_
  refine q_forNLn (xs := cs.map V.int) (el_is (el_sl (ev_var rfl) eo_none (eo_some ev_c) (ex_l e1 hs)) ec) (fun p i σ' H' => (∃ (m : Int) (x : Option V), σ' = [some (.ref a), some (.int m), x] ∧ 0 ≤ m) ∧ Ex H1 H' ∧ H' p = some (.lst (cs.map V.int)))
    (fun p H2 hp e2 h2 => ⟨⟨10887340, none, rfl, by decide⟩, e2, h2⟩) (fun p i σ' H' _ q => sq_of q.2.2) ?_ ?_
  · rintro p i x σ' H' hx ⟨⟨m, y, rfl, hm⟩, e2, h2⟩
    rw [List.getElem?_map] at hx
    cases q : cs[i]? with
    | none => rw [q] at hx; cases hx
    | some c =>
      rw [q] at hx
      cases hx
      refine s_asg (ev_op (ev_cb (ea_cons (ev_op (ev_op (ev_op (ev_var rfl) ev_c (rv_I mulR)) (ev_op (ev_cb (ea_cons (ev_var rfl) ea_nil) rc_int) ev_c (rv_I (by decide))) rv_I0) ev_c rv_I0) ea_nil) rc_int) ev_c (rv_I (by decide))) fun H3 e3 => ?_
      exact ⟨⟨_, _, rfl, Int.emod_nonneg _ (by decide)⟩, e2.trans e3, e3 _ _ h2⟩
  · rintro p σ' H' ⟨⟨m, y, rfl, hm⟩, e2, h2⟩
    show tRet _ _ _ _
    intro d hd
    -- the cells, turned about
    have sl : EvL (tSl (rSlL K) (tVar 0) tNoPart (tPart (tC (.int 63)))) [some (V.ref a), some (V.int m), y] H' (cs.map V.int) := el_is (el_sl (ev_var rfl) eo_none (eo_some ev_c) (ex_l (e1.trans e2) hs)) ec
    have made := el_intN (K := K) (j := 2) (vs := [2]) sl (by omega) (fun x => rfl) (fun x => rfl)
    refine (ev_c : Ev (tC (.str "cells")) [some (V.ref a), some (V.int m), y] H' _) (upd H' d (.dK [])) (Ex.new hd) _ fun H3 e3 => ?_
    have e13 : Ex H' H3 := (Ex.new hd).trans e3
    refine made H3 e13 _ fun p2 H4 hp2 e4 h4 => ?_
    refine ⟨p2, cs.map V.int, rfl, sq_of h4, fun l hl => ?_⟩
    generalize hH5 : upd H4 l (.lst (cs.map V.int).reverse) = H5
    have e45 : Ex H4 H5 := by rw [← hH5]; exact Ex.new hl
    have l5 : H5 l = some (.lst (cs.reverse.map V.int)) := by rw [← hH5, List.map_reverse]; exact upd_same
    have hl4 : H4 l = none := hl
    clear hH5
    refine (ev_c : Ev (tC (.str "mixed")) [some (V.ref a), some (V.int m), y] H5 _) H5 (Ex.refl _) _ fun H6 e6 => ?_
    refine (ev_var (i := 1) (v := .int m) rfl : Ev _ [some (V.ref a), some (V.int m), y] H6 _) H6 (Ex.refl _) _ fun H7 e7 => ?_
    refine (ev_c : Ev (tC (.str "turn")) [some (V.ref a), some (V.int m), y] H7 _) H7 (Ex.refl _) _ fun H8 e8 => ?_
    refine (ev_c : Ev (tC (.int 0)) [some (V.ref a), some (V.int m), y] H8 _) H8 (Ex.refl _) _ fun H9 e9 => ?_
    have e59 : Ex H5 H9 := ((e6.trans e7).trans e8).trans e9
    have d9 : H9 d = some (.dK []) := e59 _ _ (e45 _ _ (e4 _ _ (e3 _ _ upd_same)))
    have ll9 := e59 _ _ l5
    have e1' : Ex H H' := e1.trans e2
    refine ⟨d9, kv3 l m 0, rfl, by show 3 ≤ 15; decide, ?_⟩
    rw [kv3_merge]
    have ndl : l ≠ d := ne_of ll9 d9 (by intro z; cases z)
    have hdH : H d = none := fresh_back e1' hd
    have hlH : H l = none := fresh_back (e1'.trans (e13.trans e4)) hl4
    refine k d l _ hdH hlH ⟨cs.reverse, m, 0, upd_same, by rw [upd_ne ndl]; exact ll9, by rw [List.length_reverse]; omega, hm⟩ ?_
    exact Ex.mut (e1'.trans (e13.trans (e4.trans (e45.trans e59)))) hdH
/-! ### for the value layer -/
def I : VM.DeckI where
  ok := Dk
  up := fun {H H1 d l} h e1 e2 => by
    obtain ⟨c, m, n, h1, h2, h3⟩ := h.ex
    exact ⟨c, m, n, e1 _ h1, e2 _ h2, h3⟩
  dom := fun {H d l} h => by
    obtain ⟨c, m, n, h1, h2, h3⟩ := h.ex
    exact ⟨fun z => (by rw [z] at h1; cases h1), fun z => (by rw [z] at h2; cases h2)⟩
end HD

/-! Words for the plain proofs: loops, comprehensions, equality, as data. -/
namespace VM
open PySem PySem.Spec PyProof.Rows L2 Evl HG HL
section
variable {mg : MG} {ms : MS} {De : MD} {env : Env} {me : ME} {mt : MT} {Q : D → Prop} {E : XV → Prop}
/-- a loop, by what holds ahead of each turn -/
theorem forL_inv {xs : List D} (I : Nat → Env → Prop) (h0 : I 0 env)
    (hs : ∀ i x env nx, xs[i]? = some x → I i env → (∀ env', I (i + 1) env' → nx env') → mg x env (fun env1 => ms { De with nx := nx, ct := nx, bk := De.nx } env1))
    (hd : ∀ env, I xs.length env → De.nx env) : forL mg ms De xs env := by
  have go : ∀ (ys : List D) (k : Nat) (env : Env), k ≤ xs.length → xs.drop k = ys → I k env → forL mg ms De ys env := by
    intro ys
    induction ys with
    | nil =>
      intro k env hle hk hI
      have hl := congrArg List.length hk
      rw [List.length_drop] at hl
      have e : k = xs.length := by simp at hl; omega
      exact hd env (e ▸ hI)
    | cons y ys ih =>
      intro k env hle hk hI
      have hl := congrArg List.length hk
      rw [List.length_drop] at hl
      have hy : xs[k]? = some y := by
        have : (xs.drop k)[0]? = some y := by rw [hk]; rfl
        rw [List.getElem?_drop] at this
        simpa using this
      exact hs k y env _ hy hI (fun env' hI' => ih (k + 1) env' (by simp at hl; omega) (by rw [← List.drop_drop, hk]; rfl) hI')
  exact go xs 0 env (Nat.zero_le _) rfl h0
/-- .. over things told by a list of one's own -/
theorem forL_by {α : Type} {l : List α} {e : α → D} (I : Nat → Env → Prop) (h0 : I 0 env)
    (hs : ∀ i a env nx, l[i]? = some a → I i env → (∀ env', I (i + 1) env' → nx env') → mg (e a) env (fun env1 => ms { De with nx := nx, ct := nx, bk := De.nx } env1))
    (hd : ∀ env, I l.length env → De.nx env) : forL mg ms De (l.map e) env :=
  forL_inv I h0 (fun i x env nx hx hI hn => by
    rw [List.getElem?_map] at hx
    cases q : l[i]? with
    | none => rw [q] at hx; cases hx
    | some a =>
      rw [q] at hx
      cases hx
      exact hs i a env nx q hI hn) (fun env hI => hd env (by rw [List.length_map] at hI; exact hI))
theorem forL_rng {lo c : Int} {n : Nat} (I : Nat → Env → Prop) (h0 : I 0 env)
    (hs : ∀ (i : Nat) env nx, i < n → I i env → (∀ env', I (i + 1) env' → nx env') → mg (.int (lo + i * c)) env (fun env1 => ms { De with nx := nx, ct := nx, bk := De.nx } env1))
    (hd : ∀ env, I n env → De.nx env) : forL mg ms De (rngD lo c n) env :=
  forL_by (l := List.range n) (e := fun (i : Nat) => D.int (lo + i * c)) I h0 (fun i a env nx ha hI hn => by
    have hl := (List.getElem?_eq_some_iff.mp ha).1
    rw [List.length_range] at hl
    rw [List.getElem?_range hl] at ha
    cases ha
    exact hs i env nx hl hI hn) (fun env hI => hd env (by rw [List.length_range] at hI; exact hI))
/-- x = e, whose value is known -/
theorem w_asg {i : Nat} {rest : MS} (x : D) (h : ∀ (Q : D → Prop) (E : XV → Prop), Q x → me env Q E) (k : rest De (env.set i (.fz x))) : mSeq (mAsg me (mName i)) rest De env := h _ _ k
/-- .. any that P tells -/
theorem w_asgP {i : Nat} {rest : MS} (P : D → Prop) (h : ∀ (Q : D → Prop) (E : XV → Prop), (∀ x, P x → Q x) → me env Q E) (k : ∀ x, P x → rest De (env.set i (.fz x))) : mSeq (mAsg me (mName i)) rest De env := h _ _ k
/-- a, b = e1, e2 -/
theorem w_parP {i j : Nat} {ma : MA} {rest : MS} (P : D → D → Prop) (h : ∀ (Q : List D → Prop) (E : XV → Prop), (∀ x y, P x y → Q [x, y]) → ma env Q E) (k : ∀ x y, P x y → rest De ((env.set i (.fz x)).set j (.fz y))) : mSeq (mPar i j ma) rest De env := h _ _ k
theorem w_par {i j : Nat} {ma : MA} {rest : MS} (x y : D) (h : ∀ (Q : List D → Prop) (E : XV → Prop), Q [x, y] → ma env Q E) (k : rest De ((env.set i (.fz x)).set j (.fz y))) : mSeq (mPar i j ma) rest De env := h _ _ k
/-- if: the answer is known -/
theorem w_ifT {m1 m2 rest : MS} (h : ∀ (Q : Bool → Prop) (E : XV → Prop), Q true → mt env Q E) (k : m1 { De with nx := rest De } env) : mSeq (mIfS mt m1 m2) rest De env := h _ _ k
theorem w_ifF {m1 m2 rest : MS} (h : ∀ (Q : Bool → Prop) (E : XV → Prop), Q false → mt env Q E) (k : m2 { De with nx := rest De } env) : mSeq (mIfS mt m1 m2) rest De env := h _ _ k
/-- a check that never fails -/
theorem w_check {m1 rest : MS} (h : ∀ (Q : Bool → Prop) (E : XV → Prop), Q false → mt env Q E) (k : rest De env) : mSeq (mIfS mt m1 mNext) rest De env := h _ _ k
theorem w_app {i : Nat} (x : D) {xs : List D} (h0 : env[i]? = some (.ow (.lst xs))) (h : ∀ (Q : D → Prop) (E : XV → Prop), Q x → me env Q E) (hz : xs.length < 100000) (k : De.nx (env.set i (.ow (.lst (xs ++ [x]))))) : mApp i me De env := by
  unfold mApp
  rw [h0]
  exact h _ _ ⟨hz, k⟩
/-! ### comprehensions -/
/-- each item's value may be any that P tells -/
theorem lcL_any {α : Type} {env0 : Env} (e : α → D) (p : α → Bool) (P : α → D → Prop) : ∀ {l : List α} {Q : List D → Prop},
    (∀ a ∈ l, ∀ nx : Env → Prop, (∀ env1, (∀ (Qb : Bool → Prop), Qb (p a) → mt env1 Qb E) → (p a = true → ∀ Qd : D → Prop, (∀ y, P a y → Qd y) → me env1 Qd E) → nx env1) → mg (e a) env0 nx) →
    (∀ ys : List D, Paired P (l.filter p) ys → Q ys) → lcL mg mt me env0 (l.map e) Q E
  | [], Q, h, q => q [] .nil
  | a :: l, Q, h, q => by
    rw [List.map_cons]
    refine h a (List.mem_cons_self ..) _ fun env1 h1 h2 => h1 _ ?_
    have ih : ∀ {Q : List D → Prop}, (∀ ys : List D, Paired P (l.filter p) ys → Q ys) → lcL mg mt me env0 (l.map e) Q E := fun {Q} q => lcL_any e p P (fun b hb => h b (List.mem_cons_of_mem _ hb)) q
    cases hp : p a with
    | true => exact h2 hp _ fun y hy => ih fun ys hys => q (y :: ys) (by rw [List.filter_cons_of_pos hp]; exact .cons hy hys)
    | false => exact ih fun ys hys => q ys (by rw [List.filter_cons_of_neg (by rw [hp]; decide)]; exact hys)
theorem paired_map {α : Type} {v : α → D} : ∀ {l : List α} {ys : List D}, Paired (fun a y => y = v a) l ys → ys = l.map v
  | [], _, .nil => rfl
  | a :: l, _, .cons h t => by rw [List.map_cons, ← paired_map t, h]
/-- each item's value is told -/
theorem lcL_map {α : Type} {env0 : Env} (e v : α → D) (p : α → Bool) {l : List α} {Q : List D → Prop}
    (h : ∀ a ∈ l, ∀ nx : Env → Prop, (∀ env1, (∀ (Qb : Bool → Prop), Qb (p a) → mt env1 Qb E) → (p a = true → ∀ Qd : D → Prop, Qd (v a) → me env1 Qd E) → nx env1) → mg (e a) env0 nx)
    (q : Q ((l.filter p).map v)) : lcL mg mt me env0 (l.map e) Q E :=
  lcL_any e p (fun a y => y = v a) (fun a ha nx hn => h a ha nx fun env1 h1 h2 => hn env1 h1 fun hp Qd hd => h2 hp Qd (hd _ rfl)) fun ys hys => by rw [paired_map hys]; exact q
theorem filter_true {α : Type} (l : List α) : l.filter (fun _ => true) = l := List.filter_eq_self.mpr fun _ _ => rfl
/-- no test -/
theorem lcL_all {α : Type} {env0 : Env} (e v : α → D) {l : List α} {Q : List D → Prop}
    (h : ∀ a ∈ l, ∀ Qd : D → Prop, Qd (v a) → mg (e a) env0 (fun env1 => me env1 Qd E))
    (q : Q (l.map v)) : lcL mg mYes me env0 (l.map e) Q E := by
  revert Q
  induction l with
  | nil => intro Q q; exact q
  | cons a l ih =>
    intro Q q
    rw [List.map_cons]
    exact h a (List.mem_cons_self ..) (fun y => lcL mg mYes me env0 (l.map e) (fun ys => Q (y :: ys)) E) (ih (fun b hb => h b (List.mem_cons_of_mem _ hb)) q)
/-- no test; each item's value may be any that P tells -/
theorem lcL_draw {α : Type} {env0 : Env} (e : α → D) (P : α → D → Prop) {l : List α} {Q : List D → Prop}
    (h : ∀ a ∈ l, ∀ Qd : D → Prop, (∀ y, P a y → Qd y) → mg (e a) env0 (fun env1 => me env1 Qd E))
    (q : ∀ ys, Paired P l ys → Q ys) : lcL mg mYes me env0 (l.map e) Q E := by
  revert Q
  induction l with
  | nil => intro Q q; exact q [] .nil
  | cons a l ih =>
    intro Q q
    rw [List.map_cons]
    exact h a (List.mem_cons_self ..) (fun y => lcL mg mYes me env0 (l.map e) (fun ys => Q (y :: ys)) E) fun y hy => ih (fun b hb => h b (List.mem_cons_of_mem _ hb)) fun ys hys => q (y :: ys) (.cons hy hys)
end
/-! ### lists of numbers as data -/
abbrev il (l : List Int) : List D := l.map D.int
abbrev nl (l : List Nat) : List D := l.map fun n : Nat => D.int n
theorem nl_map {α : Type} (f : α → Nat) (l : List α) : nl (l.map f) = l.map fun a => D.int (f a : Nat) := by show List.map _ (List.map _ _) = _; rw [List.map_map]; rfl
theorem il_map {α : Type} (f : α → Int) (l : List α) : il (l.map f) = l.map fun a => D.int (f a) := by show List.map _ (List.map _ _) = _; rw [List.map_map]; rfl
theorem nl_app (l m : List Nat) : nl (l ++ m) = nl l ++ nl m := List.map_append ..
theorem il_app (l m : List Int) : il (l ++ m) = il l ++ il m := List.map_append ..
theorem nl_len (l : List Nat) : (nl l).length = l.length := List.length_map ..
theorem il_len (l : List Int) : (il l).length = l.length := List.length_map ..
theorem enum_map {α : Type} (l : List α) (e : α → D) : enumD (l.map e) = l.zipIdx.map fun p => D.tup [.int (p.2 : Nat), e p.1] := by
  unfold enumD
  apply List.ext_getElem?
  intro i
  rw [List.getElem?_mapIdx, List.getElem?_map, List.getElem?_map, List.getElem?_zipIdx]
  cases l[i]? <;> simp
theorem zip_map {α β : Type} (l : List α) (m : List β) (e : α → D) (u : β → D) : zipD (l.map e) (m.map u) = (l.zip m).map fun p => D.tup [e p.1, u p.2] := by
  unfold zipD
  rw [List.zipWith_map, List.zip, List.map_zipWith]
theorem rng_map (lo : Int) (n : Nat) : rngD lo 1 n = (List.range n).map fun (i : Nat) => D.int (lo + i) := by
  unfold rngD
  congr 1
  funext i
  rw [Int.mul_one]
theorem rng_nat (a n : Nat) : rngD (a : Int) 1 n = (List.range n).map fun (i : Nat) => D.int ((a + i : Nat) : Int) := by
  rw [rng_map]
  congr 1
theorem atI_map {α : Type} (l : List α) (e : α → D) (i : Int) : atI (l.map e) i = (atI l i).map e := by
  unfold atI
  rw [List.length_map]
  cases ixN l.length i with
  | none => rfl
  | some j => show (l.map e)[j]? = (l[j]?).map e; rw [List.getElem?_map]
theorem atI_nat' {α : Type} {l : List α} {i : Nat} {x : α} (h : l[i]? = some x) : atI l (i : Int) = some x := by
  have hl := (List.getElem?_eq_some_iff.mp h).1
  unfold atI
  rw [ixN_nat hl]
  exact h
theorem atI_int {α : Type} {l : List α} {j : Int} {i : Nat} {x : α} (e : j = (i : Int)) (h : l[i]? = some x) : atI l j = some x := by
  rw [e]; exact atI_nat' h
theorem atI_neg1 {α : Type} {l : List α} {x : α} (h : l.getLast? = some x) : atI l (-1) = some x := by
  have h0 : l ≠ [] := fun z => by subst z; cases h
  have hp := List.length_pos_iff.mpr h0
  unfold atI ixN
  rw [if_neg (by omega), if_pos (by omega)]
  have e : ((-1 : Int) + (l.length : Int)).toNat = l.length - 1 := by omega
  show l[((-1 : Int) + (l.length : Int)).toNat]? = some x
  rw [e, ← List.getLast?_eq_getElem?]
  exact h
theorem cut_map {α : Type} (l : List α) (e : α → D) (lo hi : Option Int) : cutD (l.map e) lo hi = ((l.drop (HT.sIx l.length 0 lo)).take (HT.sIx l.length l.length hi - HT.sIx l.length 0 lo)).map e := by
  unfold cutD
  rw [List.length_map, List.map_take, List.map_drop]
theorem cut_to (xs : List D) {k : Nat} (h : k ≤ xs.length) : cutD xs none (some (k : Int)) = xs.take k := by
  unfold cutD
  rw [HT.sIx_none, HT.sIx_nat, Nat.min_eq_left h, List.drop_zero, Nat.sub_zero]
theorem cut_from (xs : List D) {k : Nat} (h : k ≤ xs.length) : cutD xs (some (k : Int)) none = xs.drop k := by
  unfold cutD
  rw [HT.sIx_none, HT.sIx_nat, Nat.min_eq_left h]
  exact List.take_of_length_le (by rw [List.length_drop]; omega)
/-! ### isinstance, told -/
theorem inT_int : ("int" ∈ isiTs) = True := eq_true (by decide)
theorem inT_bool : ("bool" ∈ isiTs) = True := eq_true (by decide)
theorem inT_str : ("str" ∈ isiTs) = True := eq_true (by decide)
theorem inT_tuple : ("tuple" ∈ isiTs) = True := eq_true (by decide)
theorem inT_list : ("list" ∈ isiTs) = True := eq_true (by decide)
theorem inT_dict : ("dict" ∈ isiTs) = True := eq_true (by decide)
theorem ib_NoneType_int : isiB "NoneType" "int" = false := by decide
theorem ib_NoneType_bool : isiB "NoneType" "bool" = false := by decide
theorem ib_NoneType_str : isiB "NoneType" "str" = false := by decide
theorem ib_NoneType_tuple : isiB "NoneType" "tuple" = false := by decide
theorem ib_NoneType_list : isiB "NoneType" "list" = false := by decide
theorem ib_NoneType_dict : isiB "NoneType" "dict" = false := by decide
theorem ib_bool_int : isiB "bool" "int" = true := by decide
theorem ib_bool_bool : isiB "bool" "bool" = true := by decide
theorem ib_bool_str : isiB "bool" "str" = false := by decide
theorem ib_bool_tuple : isiB "bool" "tuple" = false := by decide
theorem ib_bool_list : isiB "bool" "list" = false := by decide
theorem ib_bool_dict : isiB "bool" "dict" = false := by decide
theorem ib_int_int : isiB "int" "int" = true := by decide
theorem ib_int_bool : isiB "int" "bool" = false := by decide
theorem ib_int_str : isiB "int" "str" = false := by decide
theorem ib_int_tuple : isiB "int" "tuple" = false := by decide
theorem ib_int_list : isiB "int" "list" = false := by decide
theorem ib_int_dict : isiB "int" "dict" = false := by decide
theorem ib_str_int : isiB "str" "int" = false := by decide
theorem ib_str_bool : isiB "str" "bool" = false := by decide
theorem ib_str_str : isiB "str" "str" = true := by decide
theorem ib_str_tuple : isiB "str" "tuple" = false := by decide
theorem ib_str_list : isiB "str" "list" = false := by decide
theorem ib_str_dict : isiB "str" "dict" = false := by decide
theorem ib_tuple_int : isiB "tuple" "int" = false := by decide
theorem ib_tuple_bool : isiB "tuple" "bool" = false := by decide
theorem ib_tuple_str : isiB "tuple" "str" = false := by decide
theorem ib_tuple_tuple : isiB "tuple" "tuple" = true := by decide
theorem ib_tuple_list : isiB "tuple" "list" = false := by decide
theorem ib_tuple_dict : isiB "tuple" "dict" = false := by decide
theorem ib_list_int : isiB "list" "int" = false := by decide
theorem ib_list_bool : isiB "list" "bool" = false := by decide
theorem ib_list_str : isiB "list" "str" = false := by decide
theorem ib_list_tuple : isiB "list" "tuple" = false := by decide
theorem ib_list_list : isiB "list" "list" = true := by decide
theorem ib_list_dict : isiB "list" "dict" = false := by decide
theorem ib_dict_int : isiB "dict" "int" = false := by decide
theorem ib_dict_bool : isiB "dict" "bool" = false := by decide
theorem ib_dict_str : isiB "dict" "str" = false := by decide
theorem ib_dict_tuple : isiB "dict" "tuple" = false := by decide
theorem ib_dict_list : isiB "dict" "list" = false := by decide
theorem ib_dict_dict : isiB "dict" "dict" = true := by decide
/-! ### equality -/
section
variable {Q : D → Prop} {E : XV → Prop}
theorem hEq_int (i j : Int) : hEq (.int i) (.int j) Q E ↔ Q (.bl (decide (i = j))) := by
  have : PyData.eqv (D.int i).py (D.int j).py = decide (i = j) := by show (i == j) = _; by_cases h : i = j <;> simp [h]
  show (_ ∧ _ ∧ _ ∧ _ ∧ _) ↔ _
  rw [this]
  exact ⟨fun h => h.2.2.2.2, fun h => ⟨rfl, rfl, rfl, rfl, h⟩⟩
theorem hNe_int (i j : Int) : hNe (.int i) (.int j) Q E ↔ Q (.bl (!decide (i = j))) := by
  have : PyData.eqv (D.int i).py (D.int j).py = decide (i = j) := by show (i == j) = _; by_cases h : i = j <;> simp [h]
  show (_ ∧ _ ∧ _ ∧ _ ∧ _) ↔ _
  rw [this]
  exact ⟨fun h => h.2.2.2.2, fun h => ⟨rfl, rfl, rfl, rfl, h⟩⟩
theorem hEq_str (i j : Str) : hEq (.str i) (.str j) Q E ↔ Q (.bl (decide (i = j))) := Iff.rfl
theorem hNe_str (i j : Str) : hNe (.str i) (.str j) Q E ↔ Q (.bl (!decide (i = j))) := Iff.rfl
theorem ints_py (l : List Int) : arePy (il l) = true ∧ PyData.canLayAll0 (pys (il l)) = true ∧ PyData.depthAll (pys (il l)) = 0 := by
  induction l with
  | nil => exact ⟨rfl, rfl, rfl⟩
  | cons a l ih =>
    refine ⟨?_, ?_, ?_⟩
    · show (true && arePy (il l)) = true; rw [ih.1]; rfl
    · show (true && PyData.canLayAll0 (pys (il l))) = true; rw [ih.2.1]; rfl
    · show max 0 (PyData.depthAll (pys (il l))) = 0; rw [ih.2.2]; rfl
theorem eqv_ints (l m : List Int) : PyData.eqvAll (pys (il l)) (pys (il m)) = decide (l = m) := by
  induction l generalizing m with
  | nil => cases m with
    | nil => rfl
    | cons b m => rfl
  | cons a l ih => cases m with
    | nil => rfl
    | cons b m =>
      show ((a == b) && PyData.eqvAll (pys (il l)) (pys (il m))) = _
      rw [ih]
      by_cases h : a = b <;> by_cases h2 : l = m <;> simp [h, h2]
theorem shaped_tup {xs : List PyData} (h1 : PyData.canLayAll0 xs = true) (h2 : PyData.depthAll xs ≤ 60) : SeqAt.shaped (.tuple xs) = true := by
  unfold SeqAt.shaped
  show (PyData.canLayAll0 xs && decide (PyData.depthAll xs + 1 ≤ 64)) = true
  rw [h1, decide_eq_true (by omega)]
  rfl
theorem shaped_lst {xs : List PyData} (h1 : PyData.canLayAll0 xs = true) (h2 : PyData.depthAll xs ≤ 60) : SeqAt.shaped (.list xs) = true := by
  unfold SeqAt.shaped
  show (PyData.canLayAll0 xs && decide (PyData.depthAll xs + 1 ≤ 64)) = true
  rw [h1, decide_eq_true (by omega)]
  rfl
theorem hEq_tups (l m : List Int) : hEq (.tup (il l)) (.tup (il m)) Q E ↔ Q (.bl (decide (l = m))) := by
  obtain ⟨a1, a2, a3⟩ := ints_py l
  obtain ⟨b1, b2, b3⟩ := ints_py m
  have : PyData.eqv (D.tup (il l)).py (D.tup (il m)).py = decide (l = m) := eqv_ints l m
  show (_ ∧ _ ∧ _ ∧ _ ∧ _) ↔ _
  rw [this]
  exact ⟨fun h => h.2.2.2.2, fun h => ⟨a1, b1, shaped_tup a2 (by rw [a3]; omega), shaped_tup b2 (by rw [b3]; omega), h⟩⟩
theorem hNe_tups (l m : List Int) : hNe (.tup (il l)) (.tup (il m)) Q E ↔ Q (.bl (!decide (l = m))) := by
  obtain ⟨a1, a2, a3⟩ := ints_py l
  obtain ⟨b1, b2, b3⟩ := ints_py m
  have : PyData.eqv (D.tup (il l)).py (D.tup (il m)).py = decide (l = m) := eqv_ints l m
  show (_ ∧ _ ∧ _ ∧ _ ∧ _) ↔ _
  rw [this]
  exact ⟨fun h => h.2.2.2.2, fun h => ⟨a1, b1, shaped_tup a2 (by rw [a3]; omega), shaped_tup b2 (by rw [b3]; omega), h⟩⟩
theorem hEq_lsts (l m : List Int) : hEq (.lst (il l)) (.lst (il m)) Q E ↔ Q (.bl (decide (l = m))) := by
  obtain ⟨a1, a2, a3⟩ := ints_py l
  obtain ⟨b1, b2, b3⟩ := ints_py m
  have : PyData.eqv (D.lst (il l)).py (D.lst (il m)).py = decide (l = m) := eqv_ints l m
  show (_ ∧ _ ∧ _ ∧ _ ∧ _) ↔ _
  rw [this]
  exact ⟨fun h => h.2.2.2.2, fun h => ⟨a1, b1, shaped_lst a2 (by rw [a3]; omega), shaped_lst b2 (by rw [b3]; omega), h⟩⟩
theorem hNe_lsts (l m : List Int) : hNe (.lst (il l)) (.lst (il m)) Q E ↔ Q (.bl (!decide (l = m))) := by
  obtain ⟨a1, a2, a3⟩ := ints_py l
  obtain ⟨b1, b2, b3⟩ := ints_py m
  have : PyData.eqv (D.lst (il l)).py (D.lst (il m)).py = decide (l = m) := eqv_ints l m
  show (_ ∧ _ ∧ _ ∧ _ ∧ _) ↔ _
  rw [this]
  exact ⟨fun h => h.2.2.2.2, fun h => ⟨a1, b1, shaped_lst a2 (by rw [a3]; omega), shaped_lst b2 (by rw [b3]; omega), h⟩⟩
end
/-! ### draws -/
section
variable {Q : D → Prop} {E : XV → Prop}
theorem w_draw {m : Int} (h1 : 1 ≤ m) (h2 : m < 2 ^ 8000) (q : ∀ r : Int, 0 ≤ r → r < m → Q (.int r)) : m_draw [.deck, .int m] Q E := ⟨h1, h2, q⟩
theorem sm {m : Int} (h : m ≤ 10 ^ 40) : m < 2 ^ 8000 := by
  have : (10 : Int) ^ 40 < 2 ^ 8000 := by decide +kernel
  omega
/-- a small number of turns of chance -/
theorem w_drawS {m : Int} (h1 : 1 ≤ m) (h2 : m ≤ 10 ^ 40) (q : ∀ r : Int, 0 ≤ r → r < m → Q (.int r)) : m_draw [.deck, .int m] Q E := ⟨h1, sm h2, q⟩
theorem pow10 {k : Int} (h1 : 0 ≤ k) (h2 : k ≤ 1000000) : CPow 10 k := ⟨h1, h2, by decide⟩
/-- some[_law_draw(deck, len(some))] -/
theorem w_pick {xs : List D} {n : Nat} (hn : xs.length = n) (h1 : 1 ≤ n) (h2 : n ≤ 1000) (q : ∀ x ∈ xs, Q x) : m_draw [.deck, .int (n : Int)] (fun y => hIx (.lst xs) y Q E) (fun _ => False) := by
  refine w_drawS (by omega) (by omega) fun r r0 r1 => ?_
  subst hn
  have hr : r.toNat < xs.length := by omega
  exact ⟨_, atI_int (i := r.toNat) (by omega) (List.getElem?_eq_getElem hr), q _ (List.getElem_mem hr)⟩
theorem w_pickT {xs : List D} {n : Nat} (hn : xs.length = n) (h1 : 1 ≤ n) (h2 : n ≤ 1000) (q : ∀ x ∈ xs, Q x) : m_draw [.deck, .int (n : Int)] (fun y => hIx (.tup xs) y Q E) (fun _ => False) := by
  refine w_drawS (by omega) (by omega) fun r r0 r1 => ?_
  subst hn
  have hr : r.toNat < xs.length := by omega
  exact ⟨_, atI_int (i := r.toNat) (by omega) (List.getElem?_eq_getElem hr), q _ (List.getElem_mem hr)⟩
end
/-! ### what repr shows -/
/-- data of il, bools, None, short texts, tuples and lists of such: n parts, k deep -/
structure Ok (n k : Nat) (x : D) : Prop where
  py : x.isPy = true
  sw : SW n k x.py
structure Oks (n k : Nat) (xs : List D) : Prop where
  py : arePy xs = true
  sw : SWs n k (pys xs)
theorem ok_int {i : Int} (h : i.natAbs < 2 ^ 1900) : Ok 0 0 (.int i) := ⟨rfl, sw_int h⟩
theorem ok_nat {n : Nat} (h : n < 2 ^ 1900) : Ok 0 0 (.int (n : Int)) := ok_int (by rw [Int.natAbs_natCast]; exact h)
theorem ok_bl {b : Bool} : Ok 0 0 (.bl b) := ⟨rfl, sw_bl⟩
theorem ok_non : Ok 0 0 .non := ⟨rfl, sw_non⟩
theorem ok_tup {n k : Nat} {xs : List D} (h : Oks n k xs) : Ok n (k + 1) (.tup xs) := ⟨h.py, sw_tup h.sw⟩
theorem ok_lst {n k : Nat} {xs : List D} (h : Oks n k xs) : Ok n (k + 1) (.lst xs) := ⟨h.py, sw_lst h.sw⟩
theorem oks_nil : Oks 0 0 [] := ⟨rfl, sws_nil⟩
theorem oks_cons {n m k j : Nat} {x : D} {xs : List D} (h : Ok n k x) (g : Oks m j xs) : Oks (n + 1 + m) (max k j) (x :: xs) :=
  ⟨by show (x.isPy && arePy xs) = true; rw [h.py, g.py]; rfl, sws_cons h.sw g.sw⟩
theorem Ok.mono {n m k j : Nat} {x : D} (h : Ok n k x) (h1 : n ≤ m) (h2 : k ≤ j) : Ok m j x := ⟨h.py, h.sw.mono h1 h2⟩
theorem Oks.mono {n m k j : Nat} {x : List D} (h : Oks n k x) (h1 : n ≤ m) (h2 : k ≤ j) : Oks m j x := ⟨h.py, h.sw.mono h1 h2⟩
theorem oks_all {n k : Nat} : ∀ {xs : List D}, (∀ x ∈ xs, Ok n k x) → Oks (xs.length * (n + 1)) k xs
  | [], _ => oks_nil.mono (Nat.zero_le _) (Nat.zero_le _)
  | x :: xs, h => (oks_cons (h x (List.mem_cons_self ..)) (oks_all fun y hy => h y (List.mem_cons_of_mem _ hy))).mono (by rw [List.length_cons, Nat.succ_mul]; omega) (by omega)
theorem oks_ints {l : List Int} (h : ∀ i ∈ l, i.natAbs < 2 ^ 1900) : Oks l.length 0 (il l) := by
  have := oks_all (n := 0) (k := 0) (xs := il l) fun d hd => by
    obtain ⟨i, hi, rfl⟩ := List.mem_map.mp hd
    exact ok_int (h i hi)
  rw [List.length_map] at this
  exact this.mono (by omega) (by omega)
theorem oks_nats {l : List Nat} (h : ∀ i ∈ l, i < 2 ^ 1900) : Oks l.length 0 (nl l) := by
  have := oks_all (n := 0) (k := 0) (xs := nl l) fun d hd => by
    obtain ⟨i, hi, rfl⟩ := List.mem_map.mp hd
    exact ok_nat (h i hi)
  rw [List.length_map] at this
  exact this.mono (by omega) (by omega)
theorem Ok.shows {n k : Nat} {x : D} (h : Ok n k x) (hn : n ≤ 8000 := by decide) (hk : k ≤ 50 := by decide) : Shows x.py := ⟨n, k, h.sw, hn, hk⟩
section
variable {Q : D → Prop} {E : XV → Prop} {x : D}
/-- repr of a tuple, a list, an int, a bool -/
theorem w_repr {n k : Nat} (h : Ok n k x) (hr : x.reprs = true) (q : Q (.str x.py.shown)) (hn : n ≤ 8000 := by decide) (hk : k ≤ 50 := by decide) : hRepr [x] Q E := ⟨h.py, hr, h.shows hn hk, q⟩
end
end VM

/-! Numbers: what the program's first defs compute. -/
namespace MC
open PySem PySem.Spec PyProof.Rows L2 HL VM HR
-- 0 thing
def m_is_whole : List D → M D := mFn 1 1 <|
    (mRet (mAndV (mCb hIsi (mCons (mVar 0) (mCons (mC (.ty "int")) mNil))) (mNotV (mCb hIsi (mCons (mVar 0) (mCons (mC (.ty "bool")) mNil))))))
-- 0 many, 1 size, 2 found, 3 at
def m_choose : List D → M D := mFn 2 4 <|
    (mSeq (mIfS (mOr (mTest (mOp hLt (mVar 1) (mC (.int 0)))) (mTest (mOp hLt (mVar 0) (mVar 1)))) (mRet (mC (.int 0))) mNext)
    (mSeq (mAsg (mC (.int 1)) (mName 2))
    (mSeq (mFor (mRng1 (mCons (mVar 1) mNil)) (mName 3) (mAsg (mOp hDiv (mOp hMul (mVar 2) (mOp hSub (mVar 0) (mVar 3))) (mOp hAdd (mVar 3) (mC (.int 1)))) (mName 2)))
    (mRet (mVar 2)))))
-- 0 thing
def m_is_count : List D → M D := mFn 1 1 <|
    (mRet (mAndV (mCall0 1 m_is_whole (mCons (mVar 0) mNil)) (mOp hGe (mVar 0) (mC (.int 0)))))
-- 0 thing
def m_is_size : List D → M D := mFn 1 1 <|
    (mRet (mAndV (mCall0 1 m_is_whole (mCons (mVar 0) mNil)) (mOp hGe (mVar 0) (mC (.int 1)))))
-- 0 number, 1 size, 2 low, 3 high, 4 middle
def m_greatest_many : List D → M D := mFn 2 5 <|
    (mSeq (mPar 2 3 (mCons (mVar 1) (mCons (mOp hMul (mC (.int 2)) (mVar 1)) mNil)))
    (mSeq (mWhile (mTest (mOp hLe (mCall0 2 m_choose (mCons (mVar 3) (mCons (mVar 1) mNil))) (mVar 0))) (mPar 2 3 (mCons (mVar 3) (mCons (mOp hMul (mC (.int 2)) (mVar 3)) mNil))))
    (mSeq (mWhile (mTest (mOp hGt (mOp hSub (mVar 3) (mVar 2)) (mC (.int 1)))) (mSeq (mAsg (mOp hDiv (mOp hAdd (mVar 2) (mVar 3)) (mC (.int 2))) (mName 4))
    (mIfS (mTest (mOp hLe (mCall0 2 m_choose (mCons (mVar 4) (mCons (mVar 1) mNil))) (mVar 0))) (mAsg (mVar 4) (mName 2)) (mAsg (mVar 4) (mName 3)))))
    (mRet (mVar 2)))))
-- 0 number, 1 size, 2 found, 3 many
def m_cascade_by : List D → M D := mFn 2 4 <|
    (mSeq (mAsgO (mLst mNil) 2)
    (mSeq (mWhile (mTest (mOp hGt (mVar 0) (mC (.int 0)))) (mSeq (mAsg (mCall0 2 m_greatest_many (mCons (mVar 0) (mCons (mVar 1) mNil))) (mName 3))
    (mSeq (mApp 2 (mVar 3))
    (mPar 0 1 (mCons (mOp hSub (mVar 0) (mCall0 2 m_choose (mCons (mVar 3) (mCons (mVar 1) mNil)))) (mCons (mOp hSub (mVar 1) (mC (.int 1))) mNil))))))
    (mRet (mCb hTuple (mCons (mOwn 2) mNil)))))
-- 0 number, 1 size, 2 at, 3 many
def m_lower : List D → M D := mFn 2 4 <|
    (mRet (mCb hSum (mCons (mLc (mOrI (mEnumL (mCons (mCall0 2 m_cascade_by (mCons (mVar 0) (mCons (mVar 1) mNil))) mNil)) (mEnumT (mCons (mCall0 2 m_cascade_by (mCons (mVar 0) (mCons (mVar 1) mNil))) mNil))) (mGTup 2 (mGCons (mName 2) (mGCons (mName 3) mGNil))) mYes (mCall0 2 m_choose (mCons (mVar 3) (mCons (mOp hSub (mOp hSub (mVar 1) (mVar 2)) (mC (.int 1))) mNil))) [2, 3]) mNil)))
-- 0 number, 1 size, 2 at, 3 many
def m_upper : List D → M D := mFn 2 4 <|
    (mRet (mCb hSum (mCons (mLc (mOrI (mEnumL (mCons (mCall0 2 m_cascade_by (mCons (mVar 0) (mCons (mVar 1) mNil))) mNil)) (mEnumT (mCons (mCall0 2 m_cascade_by (mCons (mVar 0) (mCons (mVar 1) mNil))) mNil))) (mGTup 2 (mGCons (mName 2) (mGCons (mName 3) mGNil))) mYes (mCall0 2 m_choose (mCons (mVar 3) (mCons (mOp hAdd (mOp hSub (mVar 1) (mVar 2)) (mC (.int 1))) mNil))) [2, 3]) mNil)))
-- 0 number, 1 size, 2 at, 3 many
def m_lower_product : List D → M D := mFn 2 4 <|
    (mRet (mCb hSum (mCons (mLc (mOrI (mEnumL (mCons (mCall0 2 m_cascade_by (mCons (mVar 0) (mCons (mVar 1) mNil))) mNil)) (mEnumT (mCons (mCall0 2 m_cascade_by (mCons (mVar 0) (mCons (mVar 1) mNil))) mNil))) (mGTup 2 (mGCons (mName 2) (mGCons (mName 3) mGNil))) mYes (mCall0 2 m_choose (mCons (mOp hSub (mVar 3) (mC (.int 1))) (mCons (mOp hSub (mOp hSub (mVar 1) (mVar 2)) (mC (.int 1))) mNil))) [2, 3]) mNil)))
-- 0 number, 1 size, 2 at, 3 many
def m_upper_product : List D → M D := mFn 2 4 <|
    (mRet (mCb hSum (mCons (mLc (mOrI (mEnumL (mCons (mCall0 2 m_cascade_by (mCons (mVar 0) (mCons (mVar 1) mNil))) mNil)) (mEnumT (mCons (mCall0 2 m_cascade_by (mCons (mVar 0) (mCons (mVar 1) mNil))) mNil))) (mGTup 2 (mGCons (mName 2) (mGCons (mName 3) mGNil))) mYes (mCall0 2 m_choose (mCons (mOp hAdd (mVar 3) (mC (.int 1))) (mCons (mOp hAdd (mOp hSub (mVar 1) (mVar 2)) (mC (.int 1))) mNil))) [2, 3]) mNil)))
variable {Q : D → Prop} {E : XV → Prop}
def isI : D → Bool
  | .int _ => true
  | _ => false
def isGe (b : Int) : D → Bool
  | .int i => decide (b ≤ i)
  | _ => false
theorem s_is_whole {x : D} (hp : x.plain = true) (q : Q (.bl (isI x))) : m_is_whole [x] Q E := by
  unfold m_is_whole mFn
  refine ⟨rfl, ?_⟩
  cases x <;> first | (revert hp; simp only [D.plain]; intro hp; cases hp; done) | ((try simp only [mSeq, mIfS, mOr, mAnd, mNot, mTest, mOp, mUn, mVar, mOwn, mC, mRet, mRetN, mNext, mAsg, mAsgO, mName, mGTup, mGCons, mGNil, mFor, mRng1, mRng2, mRng3, mCons, mNil, mPar, mParO, mParP, mDrop, mFz, mApp, mExt, mSetL, mLc, mYes, mSeqI, mOwnI, mOrI, mEnumL, mEnumT, mZip, mZipM, mOr2, mRevL, mRevT, mSl, mNoP, mP, mTup, mLst, mCb, mIf, mAndV, mOrV, mNotV, mChain, mBrk, mCnt, mNever, mAug, mCall0, mCallK0, hAdd, hSub, hInt, hIntC, hAnd, hDiv, hMod, hPow, hMul, hNeg, hCmp, hLt, hLe, hGt, hGe, hIx, hIxX, hLen, hIsi, hTuple, hList, hInt1, hAbs, D.isN, hIs, hNis, D.items, D.plain, D.kind, hEq_int, hNe_int, hEq_str, hNe_str, hEq_tups, hNe_tups, hEq_lsts, hNe_lsts, wipeE, List.map_cons, List.map_nil, List.replicate_succ, List.replicate_zero, List.cons_append, List.nil_append, List.getElem?_cons_zero, List.getElem?_cons_succ, List.set_cons_zero, List.set_cons_succ, List.length_cons, List.length_nil, Nat.reduceAdd, Nat.reduceSub, inT_int, inT_bool, inT_str, inT_tuple, inT_list, inT_dict, ib_NoneType_int, ib_NoneType_bool, ib_NoneType_str, ib_NoneType_tuple, ib_NoneType_list, ib_NoneType_dict, ib_bool_int, ib_bool_bool, ib_bool_str, ib_bool_tuple, ib_bool_list, ib_bool_dict, ib_int_int, ib_int_bool, ib_int_str, ib_int_tuple, ib_int_list, ib_int_dict, ib_str_int, ib_str_bool, ib_str_str, ib_str_tuple, ib_str_list, ib_str_dict, ib_tuple_int, ib_tuple_bool, ib_tuple_str, ib_tuple_tuple, ib_tuple_list, ib_tuple_dict, ib_list_int, ib_list_bool, ib_list_str, ib_list_tuple, ib_list_list, ib_list_dict, ib_dict_int, ib_dict_bool, ib_dict_str, ib_dict_tuple, ib_dict_list, ib_dict_dict, Bool.not_true, Bool.not_false, true_and, and_true, decide_true, decide_false]); exact q)
theorem s_is_count {x : D} (hp : x.plain = true) (q : Q (.bl (isGe 0 x))) : m_is_count [x] Q E := by
  unfold m_is_count mFn
  refine ⟨rfl, ?_⟩
  (try simp only [mSeq, mIfS, mOr, mAnd, mNot, mTest, mOp, mUn, mVar, mOwn, mC, mRet, mRetN, mNext, mAsg, mAsgO, mName, mGTup, mGCons, mGNil, mFor, mRng1, mRng2, mRng3, mCons, mNil, mPar, mParO, mParP, mDrop, mFz, mApp, mExt, mSetL, mLc, mYes, mSeqI, mOwnI, mOrI, mEnumL, mEnumT, mZip, mZipM, mOr2, mRevL, mRevT, mSl, mNoP, mP, mTup, mLst, mCb, mIf, mAndV, mOrV, mNotV, mChain, mBrk, mCnt, mNever, mAug, mCall0, mCallK0, hAdd, hSub, hInt, hIntC, hAnd, hDiv, hMod, hPow, hMul, hNeg, hCmp, hLt, hLe, hGt, hGe, hIx, hIxX, hLen, hIsi, hTuple, hList, hInt1, hAbs, D.isN, hIs, hNis, D.items, D.plain, D.kind, hEq_int, hNe_int, hEq_str, hNe_str, hEq_tups, hNe_tups, hEq_lsts, hNe_lsts, wipeE, List.map_cons, List.map_nil, List.replicate_succ, List.replicate_zero, List.cons_append, List.nil_append, List.getElem?_cons_zero, List.getElem?_cons_succ, List.set_cons_zero, List.set_cons_succ, List.length_cons, List.length_nil, Nat.reduceAdd, Nat.reduceSub, inT_int, inT_bool, inT_str, inT_tuple, inT_list, inT_dict, ib_NoneType_int, ib_NoneType_bool, ib_NoneType_str, ib_NoneType_tuple, ib_NoneType_list, ib_NoneType_dict, ib_bool_int, ib_bool_bool, ib_bool_str, ib_bool_tuple, ib_bool_list, ib_bool_dict, ib_int_int, ib_int_bool, ib_int_str, ib_int_tuple, ib_int_list, ib_int_dict, ib_str_int, ib_str_bool, ib_str_str, ib_str_tuple, ib_str_list, ib_str_dict, ib_tuple_int, ib_tuple_bool, ib_tuple_str, ib_tuple_tuple, ib_tuple_list, ib_tuple_dict, ib_list_int, ib_list_bool, ib_list_str, ib_list_tuple, ib_list_list, ib_list_dict, ib_dict_int, ib_dict_bool, ib_dict_str, ib_dict_tuple, ib_dict_list, ib_dict_dict, Bool.not_true, Bool.not_false, true_and, and_true, decide_true, decide_false])
  refine s_is_whole hp ?_
  cases x <;> first | (revert hp; simp only [D.plain]; intro hp; cases hp; done) | exact q
theorem s_is_size {x : D} (hp : x.plain = true) (q : Q (.bl (isGe 1 x))) : m_is_size [x] Q E := by
  unfold m_is_size mFn
  refine ⟨rfl, ?_⟩
  (try simp only [mSeq, mIfS, mOr, mAnd, mNot, mTest, mOp, mUn, mVar, mOwn, mC, mRet, mRetN, mNext, mAsg, mAsgO, mName, mGTup, mGCons, mGNil, mFor, mRng1, mRng2, mRng3, mCons, mNil, mPar, mParO, mParP, mDrop, mFz, mApp, mExt, mSetL, mLc, mYes, mSeqI, mOwnI, mOrI, mEnumL, mEnumT, mZip, mZipM, mOr2, mRevL, mRevT, mSl, mNoP, mP, mTup, mLst, mCb, mIf, mAndV, mOrV, mNotV, mChain, mBrk, mCnt, mNever, mAug, mCall0, mCallK0, hAdd, hSub, hInt, hIntC, hAnd, hDiv, hMod, hPow, hMul, hNeg, hCmp, hLt, hLe, hGt, hGe, hIx, hIxX, hLen, hIsi, hTuple, hList, hInt1, hAbs, D.isN, hIs, hNis, D.items, D.plain, D.kind, hEq_int, hNe_int, hEq_str, hNe_str, hEq_tups, hNe_tups, hEq_lsts, hNe_lsts, wipeE, List.map_cons, List.map_nil, List.replicate_succ, List.replicate_zero, List.cons_append, List.nil_append, List.getElem?_cons_zero, List.getElem?_cons_succ, List.set_cons_zero, List.set_cons_succ, List.length_cons, List.length_nil, Nat.reduceAdd, Nat.reduceSub, inT_int, inT_bool, inT_str, inT_tuple, inT_list, inT_dict, ib_NoneType_int, ib_NoneType_bool, ib_NoneType_str, ib_NoneType_tuple, ib_NoneType_list, ib_NoneType_dict, ib_bool_int, ib_bool_bool, ib_bool_str, ib_bool_tuple, ib_bool_list, ib_bool_dict, ib_int_int, ib_int_bool, ib_int_str, ib_int_tuple, ib_int_list, ib_int_dict, ib_str_int, ib_str_bool, ib_str_str, ib_str_tuple, ib_str_list, ib_str_dict, ib_tuple_int, ib_tuple_bool, ib_tuple_str, ib_tuple_tuple, ib_tuple_list, ib_tuple_dict, ib_list_int, ib_list_bool, ib_list_str, ib_list_tuple, ib_list_list, ib_list_dict, ib_dict_int, ib_dict_bool, ib_dict_str, ib_dict_tuple, ib_dict_list, ib_dict_dict, Bool.not_true, Bool.not_false, true_and, and_true, decide_true, decide_false])
  refine s_is_whole hp ?_
  cases x <;> first | (revert hp; simp only [D.plain]; intro hp; cases hp; done) | exact q
/-! ### choose -/
def chI (m s : Int) : Int := if s < 0 ∨ m < s then 0 else (ch m.toNat s.toNat : Int)
theorem chI_nat (m s : Nat) : chI (m : Int) (s : Int) = (ch m s : Int) := by
  unfold chI
  by_cases h : m < s
  · rw [if_pos (by omega), ch_lt h]; rfl
  · rw [if_neg (by omega)]; rfl
theorem ch_le_pow : ∀ m s : Nat, ch m s ≤ m ^ s
  | m, 0 => by simp
  | m, s + 1 => by
    have h1 := ch_mul m s
    have h2 := ch_le_pow m s
    have h3 : ch m (s + 1) ≤ ch m (s + 1) * (s + 1) := Nat.le_mul_of_pos_right _ (by omega)
    have h4 : ch m s * (m - s) ≤ m ^ s * m := Nat.mul_le_mul h2 (by omega)
    rw [Nat.pow_succ]
    omega
/-- great numbers, small sizes -/
abbrev big : Nat := 4096
theorem ch_bits {m s : Nat} (hm : m < 2 ^ big) (hs : s ≤ 64) : ch m s < 2 ^ (big * 64 + 1) := by
  have h1 := ch_le_pow m s
  have h2 : m ^ s ≤ (2 ^ big) ^ s := Nat.pow_le_pow_left (by omega) s
  have h3 : (2 ^ big) ^ s = 2 ^ (big * s) := (Nat.pow_mul 2 big s).symm
  have h4 : 2 ^ (big * s) < 2 ^ (big * 64 + 1) := Nat.pow_lt_pow_right (by omega) (by unfold big; omega)
  exact Nat.lt_of_le_of_lt (Nat.le_trans h1 h2) (by rw [h3]; exact h4)
theorem lt_big {a : Nat} (h : a < 2 ^ big) : (a : Int) < 2 ^ big := by
  have : ((2 ^ big : Nat) : Int) = (2 : Int) ^ big := Int.natCast_pow 2 big
  omega
theorem of_big {a : Nat} (h : (a : Int) < 2 ^ big) : a < 2 ^ big := by
  have : ((2 ^ big : Nat) : Int) = (2 : Int) ^ big := Int.natCast_pow 2 big
  omega
/-- the loop of choose, as several defs have it -/
theorem ch_loop {m i : Nat} (h : i < m + 1) : ((ch m i : Nat) : Int) * ((m : Int) - (i : Int)) / ((i : Int) + 1) = (ch m (i + 1) : Int) := by
  have e4 : (m : Int) - (i : Int) = ((m - i : Nat) : Int) := by omega
  have e5 : (i : Int) + 1 = ((i + 1 : Nat) : Int) := by omega
  rw [e4, e5, ← Int.natCast_mul, ← ch_mul, ← Int.natCast_ediv, Nat.mul_div_cancel _ (by omega)]
theorem ch_mulok {m i : Nat} (hm : m < 2 ^ big) (hi : i ≤ 64) (h : i < m + 1) : CMulO (ch m i : Int) ((m : Int) - (i : Int)) := by
  have e4 : (m : Int) - (i : Int) = ((m - i : Nat) : Int) := by omega
  rw [e4]
  exact mulW (a := big * 64 + 1) (b := big) (ch_bits hm (by omega)) (by omega)
theorem ch_divok {x : Int} {i : Nat} (hi : i ≤ 64) : CDivW x ((i : Int) + 1) := by
  have e5 : (i : Int) + 1 = ((i + 1 : Nat) : Int) := by omega
  rw [e5]
  exact divW (b := 7) (by omega) (by omega)
theorem s_choose {m s : Int} (hs : s ≤ 64) (hm : m < 2 ^ big) (q : Q (.int (chI m s))) : m_choose [.int m, .int s] Q E := by
  unfold m_choose mFn
  refine ⟨rfl, ?_⟩
  (try simp only [mSeq, mIfS, mOr, mAnd, mNot, mTest, mOp, mUn, mVar, mOwn, mC, mRet, mRetN, mNext, mAsg, mAsgO, mName, mGTup, mGCons, mGNil, mFor, mRng1, mRng2, mRng3, mCons, mNil, mPar, mParO, mParP, mDrop, mFz, mApp, mExt, mSetL, mLc, mYes, mSeqI, mOwnI, mOrI, mEnumL, mEnumT, mZip, mZipM, mOr2, mRevL, mRevT, mSl, mNoP, mP, mTup, mLst, mCb, mIf, mAndV, mOrV, mNotV, mChain, mBrk, mCnt, mNever, mAug, mCall0, mCallK0, hAdd, hSub, hInt, hIntC, hAnd, hDiv, hMod, hPow, hMul, hNeg, hCmp, hLt, hLe, hGt, hGe, hIx, hIxX, hLen, hIsi, hTuple, hList, hInt1, hAbs, D.isN, hIs, hNis, D.items, D.plain, D.kind, hEq_int, hNe_int, hEq_str, hNe_str, hEq_tups, hNe_tups, hEq_lsts, hNe_lsts, wipeE, List.map_cons, List.map_nil, List.replicate_succ, List.replicate_zero, List.cons_append, List.nil_append, List.getElem?_cons_zero, List.getElem?_cons_succ, List.set_cons_zero, List.set_cons_succ, List.length_cons, List.length_nil, Nat.reduceAdd, Nat.reduceSub, inT_int, inT_bool, inT_str, inT_tuple, inT_list, inT_dict, ib_NoneType_int, ib_NoneType_bool, ib_NoneType_str, ib_NoneType_tuple, ib_NoneType_list, ib_NoneType_dict, ib_bool_int, ib_bool_bool, ib_bool_str, ib_bool_tuple, ib_bool_list, ib_bool_dict, ib_int_int, ib_int_bool, ib_int_str, ib_int_tuple, ib_int_list, ib_int_dict, ib_str_int, ib_str_bool, ib_str_str, ib_str_tuple, ib_str_list, ib_str_dict, ib_tuple_int, ib_tuple_bool, ib_tuple_str, ib_tuple_tuple, ib_tuple_list, ib_tuple_dict, ib_list_int, ib_list_bool, ib_list_str, ib_list_tuple, ib_list_list, ib_list_dict, ib_dict_int, ib_dict_bool, ib_dict_str, ib_dict_tuple, ib_dict_list, ib_dict_dict, Bool.not_true, Bool.not_false, true_and, and_true, decide_true, decide_false])
  by_cases h1 : s < 0
  · rw [decide_eq_true h1]
    unfold chI at q
    rw [if_pos (Or.inl h1)] at q
    exact q
  rw [decide_eq_false h1]
  by_cases h2 : m < s
  · rw [decide_eq_true h2]
    unfold chI at q
    rw [if_pos (Or.inr h2)] at q
    exact q
  rw [decide_eq_false h2]
  obtain ⟨M, rfl⟩ : ∃ M : Nat, m = M := ⟨m.toNat, by omega⟩
  obtain ⟨S, rfl⟩ : ∃ S : Nat, s = S := ⟨s.toNat, by omega⟩
  have hM := of_big hm
  rw [chI_nat] at q
  refine ⟨by omega, by omega, forL_rng (fun i env => ∃ c, env = [.fz (.int (M : Int)), .fz (.int (S : Int)), .fz (.int (ch M i : Int)), c]) ⟨.un, by rw [ch_zero]; rfl⟩ ?_ ?_⟩
  · rintro i env nx hi ⟨c, rfl⟩ hn
    (try simp only [mSeq, mIfS, mOr, mAnd, mNot, mTest, mOp, mUn, mVar, mOwn, mC, mRet, mRetN, mNext, mAsg, mAsgO, mName, mGTup, mGCons, mGNil, mFor, mRng1, mRng2, mRng3, mCons, mNil, mPar, mParO, mParP, mDrop, mFz, mApp, mExt, mSetL, mLc, mYes, mSeqI, mOwnI, mOrI, mEnumL, mEnumT, mZip, mZipM, mOr2, mRevL, mRevT, mSl, mNoP, mP, mTup, mLst, mCb, mIf, mAndV, mOrV, mNotV, mChain, mBrk, mCnt, mNever, mAug, mCall0, mCallK0, hAdd, hSub, hInt, hIntC, hAnd, hDiv, hMod, hPow, hMul, hNeg, hCmp, hLt, hLe, hGt, hGe, hIx, hIxX, hLen, hIsi, hTuple, hList, hInt1, hAbs, D.isN, hIs, hNis, D.items, D.plain, D.kind, hEq_int, hNe_int, hEq_str, hNe_str, hEq_tups, hNe_tups, hEq_lsts, hNe_lsts, wipeE, List.map_cons, List.map_nil, List.replicate_succ, List.replicate_zero, List.cons_append, List.nil_append, List.getElem?_cons_zero, List.getElem?_cons_succ, List.set_cons_zero, List.set_cons_succ, List.length_cons, List.length_nil, Nat.reduceAdd, Nat.reduceSub, inT_int, inT_bool, inT_str, inT_tuple, inT_list, inT_dict, ib_NoneType_int, ib_NoneType_bool, ib_NoneType_str, ib_NoneType_tuple, ib_NoneType_list, ib_NoneType_dict, ib_bool_int, ib_bool_bool, ib_bool_str, ib_bool_tuple, ib_bool_list, ib_bool_dict, ib_int_int, ib_int_bool, ib_int_str, ib_int_tuple, ib_int_list, ib_int_dict, ib_str_int, ib_str_bool, ib_str_str, ib_str_tuple, ib_str_list, ib_str_dict, ib_tuple_int, ib_tuple_bool, ib_tuple_str, ib_tuple_tuple, ib_tuple_list, ib_tuple_dict, ib_list_int, ib_list_bool, ib_list_str, ib_list_tuple, ib_list_list, ib_list_dict, ib_dict_int, ib_dict_bool, ib_dict_str, ib_dict_tuple, ib_dict_list, ib_dict_dict, Bool.not_true, Bool.not_false, true_and, and_true, decide_true, decide_false])
    have e : (0 : Int) + (i : Int) * 1 = (i : Int) := by omega
    rw [e]
    refine ⟨ch_mulok hM (by omega) (by omega), ch_divok (by omega), ?_⟩
    rw [ch_loop (by omega)]
    exact hn _ ⟨_, rfl⟩
  · rintro env ⟨c, rfl⟩
    (try simp only [mSeq, mIfS, mOr, mAnd, mNot, mTest, mOp, mUn, mVar, mOwn, mC, mRet, mRetN, mNext, mAsg, mAsgO, mName, mGTup, mGCons, mGNil, mFor, mRng1, mRng2, mRng3, mCons, mNil, mPar, mParO, mParP, mDrop, mFz, mApp, mExt, mSetL, mLc, mYes, mSeqI, mOwnI, mOrI, mEnumL, mEnumT, mZip, mZipM, mOr2, mRevL, mRevT, mSl, mNoP, mP, mTup, mLst, mCb, mIf, mAndV, mOrV, mNotV, mChain, mBrk, mCnt, mNever, mAug, mCall0, mCallK0, hAdd, hSub, hInt, hIntC, hAnd, hDiv, hMod, hPow, hMul, hNeg, hCmp, hLt, hLe, hGt, hGe, hIx, hIxX, hLen, hIsi, hTuple, hList, hInt1, hAbs, D.isN, hIs, hNis, D.items, D.plain, D.kind, hEq_int, hNe_int, hEq_str, hNe_str, hEq_tups, hNe_tups, hEq_lsts, hNe_lsts, wipeE, List.map_cons, List.map_nil, List.replicate_succ, List.replicate_zero, List.cons_append, List.nil_append, List.getElem?_cons_zero, List.getElem?_cons_succ, List.set_cons_zero, List.set_cons_succ, List.length_cons, List.length_nil, Nat.reduceAdd, Nat.reduceSub, inT_int, inT_bool, inT_str, inT_tuple, inT_list, inT_dict, ib_NoneType_int, ib_NoneType_bool, ib_NoneType_str, ib_NoneType_tuple, ib_NoneType_list, ib_NoneType_dict, ib_bool_int, ib_bool_bool, ib_bool_str, ib_bool_tuple, ib_bool_list, ib_bool_dict, ib_int_int, ib_int_bool, ib_int_str, ib_int_tuple, ib_int_list, ib_int_dict, ib_str_int, ib_str_bool, ib_str_str, ib_str_tuple, ib_str_list, ib_str_dict, ib_tuple_int, ib_tuple_bool, ib_tuple_str, ib_tuple_tuple, ib_tuple_list, ib_tuple_dict, ib_list_int, ib_list_bool, ib_list_str, ib_list_tuple, ib_list_list, ib_list_dict, ib_dict_int, ib_dict_bool, ib_dict_str, ib_dict_tuple, ib_dict_list, ib_dict_dict, Bool.not_true, Bool.not_false, true_and, and_true, decide_true, decide_false])
    exact q
theorem s_chooseN {m s : Int} (M S : Nat) (em : m = (M : Int)) (es : s = (S : Int)) (hs : S ≤ 64) (hm : M < 2 ^ big) (q : Q (.int (ch M S : Nat))) : m_choose [.int m, .int s] Q E := by
  subst em es
  exact s_choose (by omega) (lt_big hm) (by rw [chI_nat]; exact q)
/-! ### greatest_many -/
theorem pow_small {n : Nat} (h : n < 2 ^ 2000) (c : Nat) (hc : c ≤ 2 ^ 100 := by decide) : c * (n + 200) < 2 ^ big := by
  have h1 : c * (n + 200) ≤ 2 ^ 100 * (2 ^ 2000 + 200) := Nat.mul_le_mul hc (by omega)
  have h2 : 2 ^ 100 * (2 ^ 2000 + 200) < 2 ^ big := by unfold big; decide +kernel
  omega
theorem b2 {a : Nat} (ha : a < 2 ^ big) : CMulO 2 (a : Int) := mulW (n := 2) (a := 2) (b := big) (by decide) ha
theorem two (a : Nat) : (2 : Int) * (a : Int) = ((2 * a : Nat) : Int) := by omega
theorem s_greatest_many {n s : Nat} (h1 : 1 ≤ n) (h2 : 1 ≤ s) (h3 : s ≤ 60) (h4 : n < 2 ^ 2000) (q : Q (.int (great s n : Nat))) : m_greatest_many [.int n, .int s] Q E := by
  unfold m_greatest_many mFn
  refine ⟨rfl, ?_⟩
  (try simp only [mSeq, mIfS, mOr, mAnd, mNot, mTest, mOp, mUn, mVar, mOwn, mC, mRet, mRetN, mNext, mAsg, mAsgO, mName, mGTup, mGCons, mGNil, mFor, mRng1, mRng2, mRng3, mCons, mNil, mPar, mParO, mParP, mDrop, mFz, mApp, mExt, mSetL, mLc, mYes, mSeqI, mOwnI, mOrI, mEnumL, mEnumT, mZip, mZipM, mOr2, mRevL, mRevT, mSl, mNoP, mP, mTup, mLst, mCb, mIf, mAndV, mOrV, mNotV, mChain, mBrk, mCnt, mNever, mAug, mCall0, mCallK0, hAdd, hSub, hInt, hIntC, hAnd, hDiv, hMod, hPow, hMul, hNeg, hCmp, hLt, hLe, hGt, hGe, hIx, hIxX, hLen, hIsi, hTuple, hList, hInt1, hAbs, D.isN, hIs, hNis, D.items, D.plain, D.kind, hEq_int, hNe_int, hEq_str, hNe_str, hEq_tups, hNe_tups, hEq_lsts, hNe_lsts, wipeE, List.map_cons, List.map_nil, List.replicate_succ, List.replicate_zero, List.cons_append, List.nil_append, List.getElem?_cons_zero, List.getElem?_cons_succ, List.set_cons_zero, List.set_cons_succ, List.length_cons, List.length_nil, Nat.reduceAdd, Nat.reduceSub, inT_int, inT_bool, inT_str, inT_tuple, inT_list, inT_dict, ib_NoneType_int, ib_NoneType_bool, ib_NoneType_str, ib_NoneType_tuple, ib_NoneType_list, ib_NoneType_dict, ib_bool_int, ib_bool_bool, ib_bool_str, ib_bool_tuple, ib_bool_list, ib_bool_dict, ib_int_int, ib_int_bool, ib_int_str, ib_int_tuple, ib_int_list, ib_int_dict, ib_str_int, ib_str_bool, ib_str_str, ib_str_tuple, ib_str_list, ib_str_dict, ib_tuple_int, ib_tuple_bool, ib_tuple_str, ib_tuple_tuple, ib_tuple_list, ib_tuple_dict, ib_list_int, ib_list_bool, ib_list_str, ib_list_tuple, ib_list_list, ib_list_dict, ib_dict_int, ib_dict_bool, ib_dict_str, ib_dict_tuple, ib_dict_list, ib_dict_dict, Bool.not_true, Bool.not_false, true_and, and_true, decide_true, decide_false])
  have hp : 2 ^ 2000 ≤ 2 ^ big := Nat.pow_le_pow_right (by omega) (by unfold big; omega)
  refine ⟨b2 (by have := pow_small h4 1; omega), ?_⟩
  rw [two]
  unfold mWhile
  refine ⟨fun m env => ∃ lo hi : Nat, ∃ c, env = [.fz (.int (n : Int)), .fz (.int (s : Int)), .fz (.int (lo : Int)), .fz (.int (hi : Int)), c] ∧ ch lo s ≤ n ∧ s ≤ lo ∧ lo < hi ∧ hi ≤ 2 * (n + s) ∧ m = 2 * (n + s) - hi,
    ⟨_, s, 2 * s, .un, rfl, by rw [ch_self]; exact h1, Nat.le_refl _, by omega, by omega, rfl⟩, ?_⟩
  rintro m env ⟨lo, hi, c, rfl, hlo, hsl, hlh, hhi, rfl⟩
  have bh : hi < 2 ^ big := by have := pow_small h4 2; omega
  (try simp only [mSeq, mIfS, mOr, mAnd, mNot, mTest, mOp, mUn, mVar, mOwn, mC, mRet, mRetN, mNext, mAsg, mAsgO, mName, mGTup, mGCons, mGNil, mFor, mRng1, mRng2, mRng3, mCons, mNil, mPar, mParO, mParP, mDrop, mFz, mApp, mExt, mSetL, mLc, mYes, mSeqI, mOwnI, mOrI, mEnumL, mEnumT, mZip, mZipM, mOr2, mRevL, mRevT, mSl, mNoP, mP, mTup, mLst, mCb, mIf, mAndV, mOrV, mNotV, mChain, mBrk, mCnt, mNever, mAug, mCall0, mCallK0, hAdd, hSub, hInt, hIntC, hAnd, hDiv, hMod, hPow, hMul, hNeg, hCmp, hLt, hLe, hGt, hGe, hIx, hIxX, hLen, hIsi, hTuple, hList, hInt1, hAbs, D.isN, hIs, hNis, D.items, D.plain, D.kind, hEq_int, hNe_int, hEq_str, hNe_str, hEq_tups, hNe_tups, hEq_lsts, hNe_lsts, wipeE, List.map_cons, List.map_nil, List.replicate_succ, List.replicate_zero, List.cons_append, List.nil_append, List.getElem?_cons_zero, List.getElem?_cons_succ, List.set_cons_zero, List.set_cons_succ, List.length_cons, List.length_nil, Nat.reduceAdd, Nat.reduceSub, inT_int, inT_bool, inT_str, inT_tuple, inT_list, inT_dict, ib_NoneType_int, ib_NoneType_bool, ib_NoneType_str, ib_NoneType_tuple, ib_NoneType_list, ib_NoneType_dict, ib_bool_int, ib_bool_bool, ib_bool_str, ib_bool_tuple, ib_bool_list, ib_bool_dict, ib_int_int, ib_int_bool, ib_int_str, ib_int_tuple, ib_int_list, ib_int_dict, ib_str_int, ib_str_bool, ib_str_str, ib_str_tuple, ib_str_list, ib_str_dict, ib_tuple_int, ib_tuple_bool, ib_tuple_str, ib_tuple_tuple, ib_tuple_list, ib_tuple_dict, ib_list_int, ib_list_bool, ib_list_str, ib_list_tuple, ib_list_list, ib_list_dict, ib_dict_int, ib_dict_bool, ib_dict_str, ib_dict_tuple, ib_dict_list, ib_dict_dict, Bool.not_true, Bool.not_false, true_and, and_true, decide_true, decide_false])
  refine s_chooseN hi s rfl rfl (by omega) bh ?_
  (try simp only [mSeq, mIfS, mOr, mAnd, mNot, mTest, mOp, mUn, mVar, mOwn, mC, mRet, mRetN, mNext, mAsg, mAsgO, mName, mGTup, mGCons, mGNil, mFor, mRng1, mRng2, mRng3, mCons, mNil, mPar, mParO, mParP, mDrop, mFz, mApp, mExt, mSetL, mLc, mYes, mSeqI, mOwnI, mOrI, mEnumL, mEnumT, mZip, mZipM, mOr2, mRevL, mRevT, mSl, mNoP, mP, mTup, mLst, mCb, mIf, mAndV, mOrV, mNotV, mChain, mBrk, mCnt, mNever, mAug, mCall0, mCallK0, hAdd, hSub, hInt, hIntC, hAnd, hDiv, hMod, hPow, hMul, hNeg, hCmp, hLt, hLe, hGt, hGe, hIx, hIxX, hLen, hIsi, hTuple, hList, hInt1, hAbs, D.isN, hIs, hNis, D.items, D.plain, D.kind, hEq_int, hNe_int, hEq_str, hNe_str, hEq_tups, hNe_tups, hEq_lsts, hNe_lsts, wipeE, List.map_cons, List.map_nil, List.replicate_succ, List.replicate_zero, List.cons_append, List.nil_append, List.getElem?_cons_zero, List.getElem?_cons_succ, List.set_cons_zero, List.set_cons_succ, List.length_cons, List.length_nil, Nat.reduceAdd, Nat.reduceSub, inT_int, inT_bool, inT_str, inT_tuple, inT_list, inT_dict, ib_NoneType_int, ib_NoneType_bool, ib_NoneType_str, ib_NoneType_tuple, ib_NoneType_list, ib_NoneType_dict, ib_bool_int, ib_bool_bool, ib_bool_str, ib_bool_tuple, ib_bool_list, ib_bool_dict, ib_int_int, ib_int_bool, ib_int_str, ib_int_tuple, ib_int_list, ib_int_dict, ib_str_int, ib_str_bool, ib_str_str, ib_str_tuple, ib_str_list, ib_str_dict, ib_tuple_int, ib_tuple_bool, ib_tuple_str, ib_tuple_tuple, ib_tuple_list, ib_tuple_dict, ib_list_int, ib_list_bool, ib_list_str, ib_list_tuple, ib_list_list, ib_list_dict, ib_dict_int, ib_dict_bool, ib_dict_str, ib_dict_tuple, ib_dict_list, ib_dict_dict, Bool.not_true, Bool.not_false, true_and, and_true, decide_true, decide_false])
  by_cases hb : (ch hi s : Int) ≤ (n : Int)
  · rw [decide_eq_true hb]
    have hge := ch_ge (n := hi) (k := s) h2 (by omega)
    refine ⟨fun env2 => env2 = [.fz (.int (n : Int)), .fz (.int (s : Int)), .fz (.int (hi : Int)), .fz (.int ((2 * hi : Nat) : Int)), c], ?_, ?_⟩
    · rintro env2 rfl
      exact ⟨2 * (n + s) - 2 * hi, by omega, hi, 2 * hi, c, rfl, by omega, by omega, by omega, by omega, rfl⟩
    · (try simp only [mSeq, mIfS, mOr, mAnd, mNot, mTest, mOp, mUn, mVar, mOwn, mC, mRet, mRetN, mNext, mAsg, mAsgO, mName, mGTup, mGCons, mGNil, mFor, mRng1, mRng2, mRng3, mCons, mNil, mPar, mParO, mParP, mDrop, mFz, mApp, mExt, mSetL, mLc, mYes, mSeqI, mOwnI, mOrI, mEnumL, mEnumT, mZip, mZipM, mOr2, mRevL, mRevT, mSl, mNoP, mP, mTup, mLst, mCb, mIf, mAndV, mOrV, mNotV, mChain, mBrk, mCnt, mNever, mAug, mCall0, mCallK0, hAdd, hSub, hInt, hIntC, hAnd, hDiv, hMod, hPow, hMul, hNeg, hCmp, hLt, hLe, hGt, hGe, hIx, hIxX, hLen, hIsi, hTuple, hList, hInt1, hAbs, D.isN, hIs, hNis, D.items, D.plain, D.kind, hEq_int, hNe_int, hEq_str, hNe_str, hEq_tups, hNe_tups, hEq_lsts, hNe_lsts, wipeE, List.map_cons, List.map_nil, List.replicate_succ, List.replicate_zero, List.cons_append, List.nil_append, List.getElem?_cons_zero, List.getElem?_cons_succ, List.set_cons_zero, List.set_cons_succ, List.length_cons, List.length_nil, Nat.reduceAdd, Nat.reduceSub, inT_int, inT_bool, inT_str, inT_tuple, inT_list, inT_dict, ib_NoneType_int, ib_NoneType_bool, ib_NoneType_str, ib_NoneType_tuple, ib_NoneType_list, ib_NoneType_dict, ib_bool_int, ib_bool_bool, ib_bool_str, ib_bool_tuple, ib_bool_list, ib_bool_dict, ib_int_int, ib_int_bool, ib_int_str, ib_int_tuple, ib_int_list, ib_int_dict, ib_str_int, ib_str_bool, ib_str_str, ib_str_tuple, ib_str_list, ib_str_dict, ib_tuple_int, ib_tuple_bool, ib_tuple_str, ib_tuple_tuple, ib_tuple_list, ib_tuple_dict, ib_list_int, ib_list_bool, ib_list_str, ib_list_tuple, ib_list_list, ib_list_dict, ib_dict_int, ib_dict_bool, ib_dict_str, ib_dict_tuple, ib_dict_list, ib_dict_dict, Bool.not_true, Bool.not_false, true_and, and_true, decide_true, decide_false])
      refine ⟨b2 bh, ?_⟩
      rw [two]
  · rw [decide_eq_false hb]
    (try simp only [mSeq, mIfS, mOr, mAnd, mNot, mTest, mOp, mUn, mVar, mOwn, mC, mRet, mRetN, mNext, mAsg, mAsgO, mName, mGTup, mGCons, mGNil, mFor, mRng1, mRng2, mRng3, mCons, mNil, mPar, mParO, mParP, mDrop, mFz, mApp, mExt, mSetL, mLc, mYes, mSeqI, mOwnI, mOrI, mEnumL, mEnumT, mZip, mZipM, mOr2, mRevL, mRevT, mSl, mNoP, mP, mTup, mLst, mCb, mIf, mAndV, mOrV, mNotV, mChain, mBrk, mCnt, mNever, mAug, mCall0, mCallK0, hAdd, hSub, hInt, hIntC, hAnd, hDiv, hMod, hPow, hMul, hNeg, hCmp, hLt, hLe, hGt, hGe, hIx, hIxX, hLen, hIsi, hTuple, hList, hInt1, hAbs, D.isN, hIs, hNis, D.items, D.plain, D.kind, hEq_int, hNe_int, hEq_str, hNe_str, hEq_tups, hNe_tups, hEq_lsts, hNe_lsts, wipeE, List.map_cons, List.map_nil, List.replicate_succ, List.replicate_zero, List.cons_append, List.nil_append, List.getElem?_cons_zero, List.getElem?_cons_succ, List.set_cons_zero, List.set_cons_succ, List.length_cons, List.length_nil, Nat.reduceAdd, Nat.reduceSub, inT_int, inT_bool, inT_str, inT_tuple, inT_list, inT_dict, ib_NoneType_int, ib_NoneType_bool, ib_NoneType_str, ib_NoneType_tuple, ib_NoneType_list, ib_NoneType_dict, ib_bool_int, ib_bool_bool, ib_bool_str, ib_bool_tuple, ib_bool_list, ib_bool_dict, ib_int_int, ib_int_bool, ib_int_str, ib_int_tuple, ib_int_list, ib_int_dict, ib_str_int, ib_str_bool, ib_str_str, ib_str_tuple, ib_str_list, ib_str_dict, ib_tuple_int, ib_tuple_bool, ib_tuple_str, ib_tuple_tuple, ib_tuple_list, ib_tuple_dict, ib_list_int, ib_list_bool, ib_list_str, ib_list_tuple, ib_list_list, ib_list_dict, ib_dict_int, ib_dict_bool, ib_dict_str, ib_dict_tuple, ib_dict_list, ib_dict_dict, Bool.not_true, Bool.not_false, true_and, and_true, decide_true, decide_false])
    refine ⟨fun m env => ∃ lo hi : Nat, ∃ c, env = [.fz (.int (n : Int)), .fz (.int (s : Int)), .fz (.int (lo : Int)), .fz (.int (hi : Int)), c] ∧ ch lo s ≤ n ∧ n < ch hi s ∧ s ≤ lo ∧ lo < hi ∧ hi ≤ 2 * (n + s) ∧ m = hi - lo,
      ⟨_, lo, hi, c, rfl, hlo, by omega, hsl, hlh, hhi, rfl⟩, ?_⟩
    clear hb
    clear hlo hsl hlh hhi bh
    clear c
    rintro m env ⟨lo, hi, c, rfl, hlo, hhn, hsl, hlh, hhi, rfl⟩
    (try simp only [mSeq, mIfS, mOr, mAnd, mNot, mTest, mOp, mUn, mVar, mOwn, mC, mRet, mRetN, mNext, mAsg, mAsgO, mName, mGTup, mGCons, mGNil, mFor, mRng1, mRng2, mRng3, mCons, mNil, mPar, mParO, mParP, mDrop, mFz, mApp, mExt, mSetL, mLc, mYes, mSeqI, mOwnI, mOrI, mEnumL, mEnumT, mZip, mZipM, mOr2, mRevL, mRevT, mSl, mNoP, mP, mTup, mLst, mCb, mIf, mAndV, mOrV, mNotV, mChain, mBrk, mCnt, mNever, mAug, mCall0, mCallK0, hAdd, hSub, hInt, hIntC, hAnd, hDiv, hMod, hPow, hMul, hNeg, hCmp, hLt, hLe, hGt, hGe, hIx, hIxX, hLen, hIsi, hTuple, hList, hInt1, hAbs, D.isN, hIs, hNis, D.items, D.plain, D.kind, hEq_int, hNe_int, hEq_str, hNe_str, hEq_tups, hNe_tups, hEq_lsts, hNe_lsts, wipeE, List.map_cons, List.map_nil, List.replicate_succ, List.replicate_zero, List.cons_append, List.nil_append, List.getElem?_cons_zero, List.getElem?_cons_succ, List.set_cons_zero, List.set_cons_succ, List.length_cons, List.length_nil, Nat.reduceAdd, Nat.reduceSub, inT_int, inT_bool, inT_str, inT_tuple, inT_list, inT_dict, ib_NoneType_int, ib_NoneType_bool, ib_NoneType_str, ib_NoneType_tuple, ib_NoneType_list, ib_NoneType_dict, ib_bool_int, ib_bool_bool, ib_bool_str, ib_bool_tuple, ib_bool_list, ib_bool_dict, ib_int_int, ib_int_bool, ib_int_str, ib_int_tuple, ib_int_list, ib_int_dict, ib_str_int, ib_str_bool, ib_str_str, ib_str_tuple, ib_str_list, ib_str_dict, ib_tuple_int, ib_tuple_bool, ib_tuple_str, ib_tuple_tuple, ib_tuple_list, ib_tuple_dict, ib_list_int, ib_list_bool, ib_list_str, ib_list_tuple, ib_list_list, ib_list_dict, ib_dict_int, ib_dict_bool, ib_dict_str, ib_dict_tuple, ib_dict_list, ib_dict_dict, Bool.not_true, Bool.not_false, true_and, and_true, decide_true, decide_false])
    by_cases hg : 1 < (hi : Int) - (lo : Int)
    · rw [decide_eq_true hg]
      have em : ((lo : Int) + (hi : Int)) / 2 = (((lo + hi) / 2 : Nat) : Int) := by omega
      generalize hmid : (lo + hi) / 2 = mid at em
      have m1 : lo < mid := by omega
      have m2 : mid < hi := by omega
      refine ⟨fun env2 => (∃ c, env2 = [.fz (.int (n : Int)), .fz (.int (s : Int)), .fz (.int (mid : Int)), .fz (.int (hi : Int)), c] ∧ ch mid s ≤ n) ∨ ∃ c, env2 = [.fz (.int (n : Int)), .fz (.int (s : Int)), .fz (.int (lo : Int)), .fz (.int (mid : Int)), c] ∧ n < ch mid s, ?_, ?_⟩
      · rintro env2 (⟨c, rfl, q⟩ | ⟨c, rfl, q⟩)
        · exact ⟨hi - mid, by omega, mid, hi, c, rfl, q, hhn, by omega, m2, hhi, rfl⟩
        · exact ⟨mid - lo, by omega, lo, mid, c, rfl, hlo, q, hsl, m1, by omega, rfl⟩
      · (try simp only [mSeq, mIfS, mOr, mAnd, mNot, mTest, mOp, mUn, mVar, mOwn, mC, mRet, mRetN, mNext, mAsg, mAsgO, mName, mGTup, mGCons, mGNil, mFor, mRng1, mRng2, mRng3, mCons, mNil, mPar, mParO, mParP, mDrop, mFz, mApp, mExt, mSetL, mLc, mYes, mSeqI, mOwnI, mOrI, mEnumL, mEnumT, mZip, mZipM, mOr2, mRevL, mRevT, mSl, mNoP, mP, mTup, mLst, mCb, mIf, mAndV, mOrV, mNotV, mChain, mBrk, mCnt, mNever, mAug, mCall0, mCallK0, hAdd, hSub, hInt, hIntC, hAnd, hDiv, hMod, hPow, hMul, hNeg, hCmp, hLt, hLe, hGt, hGe, hIx, hIxX, hLen, hIsi, hTuple, hList, hInt1, hAbs, D.isN, hIs, hNis, D.items, D.plain, D.kind, hEq_int, hNe_int, hEq_str, hNe_str, hEq_tups, hNe_tups, hEq_lsts, hNe_lsts, wipeE, List.map_cons, List.map_nil, List.replicate_succ, List.replicate_zero, List.cons_append, List.nil_append, List.getElem?_cons_zero, List.getElem?_cons_succ, List.set_cons_zero, List.set_cons_succ, List.length_cons, List.length_nil, Nat.reduceAdd, Nat.reduceSub, inT_int, inT_bool, inT_str, inT_tuple, inT_list, inT_dict, ib_NoneType_int, ib_NoneType_bool, ib_NoneType_str, ib_NoneType_tuple, ib_NoneType_list, ib_NoneType_dict, ib_bool_int, ib_bool_bool, ib_bool_str, ib_bool_tuple, ib_bool_list, ib_bool_dict, ib_int_int, ib_int_bool, ib_int_str, ib_int_tuple, ib_int_list, ib_int_dict, ib_str_int, ib_str_bool, ib_str_str, ib_str_tuple, ib_str_list, ib_str_dict, ib_tuple_int, ib_tuple_bool, ib_tuple_str, ib_tuple_tuple, ib_tuple_list, ib_tuple_dict, ib_list_int, ib_list_bool, ib_list_str, ib_list_tuple, ib_list_list, ib_list_dict, ib_dict_int, ib_dict_bool, ib_dict_str, ib_dict_tuple, ib_dict_list, ib_dict_dict, Bool.not_true, Bool.not_false, true_and, and_true, decide_true, decide_false])
        refine ⟨divW (m := 2) (b := 2) (by decide) (by decide), ?_⟩
        rw [em]
        refine s_chooseN mid s rfl rfl (by omega) (by have := pow_small h4 2; omega) ?_
        (try simp only [mSeq, mIfS, mOr, mAnd, mNot, mTest, mOp, mUn, mVar, mOwn, mC, mRet, mRetN, mNext, mAsg, mAsgO, mName, mGTup, mGCons, mGNil, mFor, mRng1, mRng2, mRng3, mCons, mNil, mPar, mParO, mParP, mDrop, mFz, mApp, mExt, mSetL, mLc, mYes, mSeqI, mOwnI, mOrI, mEnumL, mEnumT, mZip, mZipM, mOr2, mRevL, mRevT, mSl, mNoP, mP, mTup, mLst, mCb, mIf, mAndV, mOrV, mNotV, mChain, mBrk, mCnt, mNever, mAug, mCall0, mCallK0, hAdd, hSub, hInt, hIntC, hAnd, hDiv, hMod, hPow, hMul, hNeg, hCmp, hLt, hLe, hGt, hGe, hIx, hIxX, hLen, hIsi, hTuple, hList, hInt1, hAbs, D.isN, hIs, hNis, D.items, D.plain, D.kind, hEq_int, hNe_int, hEq_str, hNe_str, hEq_tups, hNe_tups, hEq_lsts, hNe_lsts, wipeE, List.map_cons, List.map_nil, List.replicate_succ, List.replicate_zero, List.cons_append, List.nil_append, List.getElem?_cons_zero, List.getElem?_cons_succ, List.set_cons_zero, List.set_cons_succ, List.length_cons, List.length_nil, Nat.reduceAdd, Nat.reduceSub, inT_int, inT_bool, inT_str, inT_tuple, inT_list, inT_dict, ib_NoneType_int, ib_NoneType_bool, ib_NoneType_str, ib_NoneType_tuple, ib_NoneType_list, ib_NoneType_dict, ib_bool_int, ib_bool_bool, ib_bool_str, ib_bool_tuple, ib_bool_list, ib_bool_dict, ib_int_int, ib_int_bool, ib_int_str, ib_int_tuple, ib_int_list, ib_int_dict, ib_str_int, ib_str_bool, ib_str_str, ib_str_tuple, ib_str_list, ib_str_dict, ib_tuple_int, ib_tuple_bool, ib_tuple_str, ib_tuple_tuple, ib_tuple_list, ib_tuple_dict, ib_list_int, ib_list_bool, ib_list_str, ib_list_tuple, ib_list_list, ib_list_dict, ib_dict_int, ib_dict_bool, ib_dict_str, ib_dict_tuple, ib_dict_list, ib_dict_dict, Bool.not_true, Bool.not_false, true_and, and_true, decide_true, decide_false])
        by_cases hb : (ch mid s : Int) ≤ (n : Int)
        · rw [decide_eq_true hb]
          exact .inl ⟨_, rfl, by omega⟩
        · rw [decide_eq_false hb]
          exact .inr ⟨_, rfl, by omega⟩
    · rw [decide_eq_false hg]
      have hgap : hi = lo + 1 := by omega
      subst hgap
      rw [great_uniq h2 hsl hlo hhn] at q
      exact q
/-! ### cascade_by -/
theorem great_le {n s : Nat} (h1 : 1 ≤ n) (h2 : 1 ≤ s) : great s n + 1 ≤ n + s := by
  have g := (great_spec (s := s) (n := n) h2).1
  have g2 := great_ge h2 h1
  have := ch_ge h2 g2
  omega
theorem s_cascade_by {n s : Nat} (h2 : 1 ≤ s) (h3 : s ≤ 60) (h4 : n < 2 ^ 2000) (q : Q (.tup (nl (cas s n)))) : m_cascade_by [.int n, .int s] Q E := by
  unfold m_cascade_by mFn
  refine ⟨rfl, ?_⟩
  (try simp only [mSeq, mIfS, mOr, mAnd, mNot, mTest, mOp, mUn, mVar, mOwn, mC, mRet, mRetN, mNext, mAsg, mAsgO, mName, mGTup, mGCons, mGNil, mFor, mRng1, mRng2, mRng3, mCons, mNil, mPar, mParO, mParP, mDrop, mFz, mApp, mExt, mSetL, mLc, mYes, mSeqI, mOwnI, mOrI, mEnumL, mEnumT, mZip, mZipM, mOr2, mRevL, mRevT, mSl, mNoP, mP, mTup, mLst, mCb, mIf, mAndV, mOrV, mNotV, mChain, mBrk, mCnt, mNever, mAug, mCall0, mCallK0, hAdd, hSub, hInt, hIntC, hAnd, hDiv, hMod, hPow, hMul, hNeg, hCmp, hLt, hLe, hGt, hGe, hIx, hIxX, hLen, hIsi, hTuple, hList, hInt1, hAbs, D.isN, hIs, hNis, D.items, D.plain, D.kind, hEq_int, hNe_int, hEq_str, hNe_str, hEq_tups, hNe_tups, hEq_lsts, hNe_lsts, wipeE, List.map_cons, List.map_nil, List.replicate_succ, List.replicate_zero, List.cons_append, List.nil_append, List.getElem?_cons_zero, List.getElem?_cons_succ, List.set_cons_zero, List.set_cons_succ, List.length_cons, List.length_nil, Nat.reduceAdd, Nat.reduceSub, inT_int, inT_bool, inT_str, inT_tuple, inT_list, inT_dict, ib_NoneType_int, ib_NoneType_bool, ib_NoneType_str, ib_NoneType_tuple, ib_NoneType_list, ib_NoneType_dict, ib_bool_int, ib_bool_bool, ib_bool_str, ib_bool_tuple, ib_bool_list, ib_bool_dict, ib_int_int, ib_int_bool, ib_int_str, ib_int_tuple, ib_int_list, ib_int_dict, ib_str_int, ib_str_bool, ib_str_str, ib_str_tuple, ib_str_list, ib_str_dict, ib_tuple_int, ib_tuple_bool, ib_tuple_str, ib_tuple_tuple, ib_tuple_list, ib_tuple_dict, ib_list_int, ib_list_bool, ib_list_str, ib_list_tuple, ib_list_list, ib_list_dict, ib_dict_int, ib_dict_bool, ib_dict_str, ib_dict_tuple, ib_dict_list, ib_dict_dict, Bool.not_true, Bool.not_false, true_and, and_true, decide_true, decide_false])
  refine ⟨by decide, ?_⟩
  unfold mWhile
  refine ⟨fun m env => ∃ (n1 s1 : Nat) (done : List Nat) (c : Cell), env = [.fz (.int (n1 : Int)), .fz (.int (s1 : Int)), .ow (.lst (nl done)), c] ∧ done ++ cas s1 n1 = cas s n ∧ (s1 = 0 → n1 = 0) ∧ s1 ≤ s ∧ n1 ≤ n ∧ done.length + s1 = s ∧ s1 = m,
    ⟨_, n, s, [], .un, rfl, rfl, by omega, Nat.le_refl _, Nat.le_refl _, by simp, rfl⟩, ?_⟩
  rintro m env ⟨n1, s1, done, c, rfl, hc, hz, hs1, hn1, hlen, rfl⟩
  (try simp only [mSeq, mIfS, mOr, mAnd, mNot, mTest, mOp, mUn, mVar, mOwn, mC, mRet, mRetN, mNext, mAsg, mAsgO, mName, mGTup, mGCons, mGNil, mFor, mRng1, mRng2, mRng3, mCons, mNil, mPar, mParO, mParP, mDrop, mFz, mApp, mExt, mSetL, mLc, mYes, mSeqI, mOwnI, mOrI, mEnumL, mEnumT, mZip, mZipM, mOr2, mRevL, mRevT, mSl, mNoP, mP, mTup, mLst, mCb, mIf, mAndV, mOrV, mNotV, mChain, mBrk, mCnt, mNever, mAug, mCall0, mCallK0, hAdd, hSub, hInt, hIntC, hAnd, hDiv, hMod, hPow, hMul, hNeg, hCmp, hLt, hLe, hGt, hGe, hIx, hIxX, hLen, hIsi, hTuple, hList, hInt1, hAbs, D.isN, hIs, hNis, D.items, D.plain, D.kind, hEq_int, hNe_int, hEq_str, hNe_str, hEq_tups, hNe_tups, hEq_lsts, hNe_lsts, wipeE, List.map_cons, List.map_nil, List.replicate_succ, List.replicate_zero, List.cons_append, List.nil_append, List.getElem?_cons_zero, List.getElem?_cons_succ, List.set_cons_zero, List.set_cons_succ, List.length_cons, List.length_nil, Nat.reduceAdd, Nat.reduceSub, inT_int, inT_bool, inT_str, inT_tuple, inT_list, inT_dict, ib_NoneType_int, ib_NoneType_bool, ib_NoneType_str, ib_NoneType_tuple, ib_NoneType_list, ib_NoneType_dict, ib_bool_int, ib_bool_bool, ib_bool_str, ib_bool_tuple, ib_bool_list, ib_bool_dict, ib_int_int, ib_int_bool, ib_int_str, ib_int_tuple, ib_int_list, ib_int_dict, ib_str_int, ib_str_bool, ib_str_str, ib_str_tuple, ib_str_list, ib_str_dict, ib_tuple_int, ib_tuple_bool, ib_tuple_str, ib_tuple_tuple, ib_tuple_list, ib_tuple_dict, ib_list_int, ib_list_bool, ib_list_str, ib_list_tuple, ib_list_list, ib_list_dict, ib_dict_int, ib_dict_bool, ib_dict_str, ib_dict_tuple, ib_dict_list, ib_dict_dict, Bool.not_true, Bool.not_false, true_and, and_true, decide_true, decide_false])
  by_cases hp : (0 : Int) < (n1 : Int)
  · rw [decide_eq_true hp]
    have hp : 1 ≤ n1 := by omega
    have hs : 1 ≤ s1 := Classical.byContradiction fun q => by have := hz (by omega); omega
    obtain ⟨c1, c2, c3⟩ := cas_head_le hs hp
    have gl := great_le hp hs
    have bg : great s1 n1 < 2 ^ big := by have := pow_small h4 1; omega
    refine ⟨fun env2 => ∃ c, env2 = [.fz (.int ((n1 - ch (great s1 n1) s1 : Nat) : Int)), .fz (.int ((s1 - 1 : Nat) : Int)), .ow (.lst (nl (done ++ [great s1 n1]))), c], ?_, ?_⟩
    · rintro env2 ⟨c, rfl⟩
      refine ⟨s1 - 1, by omega, _, _, _, c, rfl, ?_, ?_, by omega, by omega, by rw [List.length_append]; show done.length + 1 + (s1 - 1) = s; omega, rfl⟩
      · rw [cas_pos hs hp] at hc
        rw [List.append_assoc]
        exact hc
      · intro q
        rw [q, ch_zero] at c2
        omega
    · (try simp only [mSeq, mIfS, mOr, mAnd, mNot, mTest, mOp, mUn, mVar, mOwn, mC, mRet, mRetN, mNext, mAsg, mAsgO, mName, mGTup, mGCons, mGNil, mFor, mRng1, mRng2, mRng3, mCons, mNil, mPar, mParO, mParP, mDrop, mFz, mApp, mExt, mSetL, mLc, mYes, mSeqI, mOwnI, mOrI, mEnumL, mEnumT, mZip, mZipM, mOr2, mRevL, mRevT, mSl, mNoP, mP, mTup, mLst, mCb, mIf, mAndV, mOrV, mNotV, mChain, mBrk, mCnt, mNever, mAug, mCall0, mCallK0, hAdd, hSub, hInt, hIntC, hAnd, hDiv, hMod, hPow, hMul, hNeg, hCmp, hLt, hLe, hGt, hGe, hIx, hIxX, hLen, hIsi, hTuple, hList, hInt1, hAbs, D.isN, hIs, hNis, D.items, D.plain, D.kind, hEq_int, hNe_int, hEq_str, hNe_str, hEq_tups, hNe_tups, hEq_lsts, hNe_lsts, wipeE, List.map_cons, List.map_nil, List.replicate_succ, List.replicate_zero, List.cons_append, List.nil_append, List.getElem?_cons_zero, List.getElem?_cons_succ, List.set_cons_zero, List.set_cons_succ, List.length_cons, List.length_nil, Nat.reduceAdd, Nat.reduceSub, inT_int, inT_bool, inT_str, inT_tuple, inT_list, inT_dict, ib_NoneType_int, ib_NoneType_bool, ib_NoneType_str, ib_NoneType_tuple, ib_NoneType_list, ib_NoneType_dict, ib_bool_int, ib_bool_bool, ib_bool_str, ib_bool_tuple, ib_bool_list, ib_bool_dict, ib_int_int, ib_int_bool, ib_int_str, ib_int_tuple, ib_int_list, ib_int_dict, ib_str_int, ib_str_bool, ib_str_str, ib_str_tuple, ib_str_list, ib_str_dict, ib_tuple_int, ib_tuple_bool, ib_tuple_str, ib_tuple_tuple, ib_tuple_list, ib_tuple_dict, ib_list_int, ib_list_bool, ib_list_str, ib_list_tuple, ib_list_list, ib_list_dict, ib_dict_int, ib_dict_bool, ib_dict_str, ib_dict_tuple, ib_dict_list, ib_dict_dict, Bool.not_true, Bool.not_false, true_and, and_true, decide_true, decide_false])
      refine s_greatest_many hp hs (by omega) (by omega) ?_
      refine ⟨by rw [List.length_map]; omega, ?_⟩
      refine s_chooseN (great s1 n1) s1 rfl rfl (by omega) bg ?_
      (try simp only [mSeq, mIfS, mOr, mAnd, mNot, mTest, mOp, mUn, mVar, mOwn, mC, mRet, mRetN, mNext, mAsg, mAsgO, mName, mGTup, mGCons, mGNil, mFor, mRng1, mRng2, mRng3, mCons, mNil, mPar, mParO, mParP, mDrop, mFz, mApp, mExt, mSetL, mLc, mYes, mSeqI, mOwnI, mOrI, mEnumL, mEnumT, mZip, mZipM, mOr2, mRevL, mRevT, mSl, mNoP, mP, mTup, mLst, mCb, mIf, mAndV, mOrV, mNotV, mChain, mBrk, mCnt, mNever, mAug, mCall0, mCallK0, hAdd, hSub, hInt, hIntC, hAnd, hDiv, hMod, hPow, hMul, hNeg, hCmp, hLt, hLe, hGt, hGe, hIx, hIxX, hLen, hIsi, hTuple, hList, hInt1, hAbs, D.isN, hIs, hNis, D.items, D.plain, D.kind, hEq_int, hNe_int, hEq_str, hNe_str, hEq_tups, hNe_tups, hEq_lsts, hNe_lsts, wipeE, List.map_cons, List.map_nil, List.replicate_succ, List.replicate_zero, List.cons_append, List.nil_append, List.getElem?_cons_zero, List.getElem?_cons_succ, List.set_cons_zero, List.set_cons_succ, List.length_cons, List.length_nil, Nat.reduceAdd, Nat.reduceSub, inT_int, inT_bool, inT_str, inT_tuple, inT_list, inT_dict, ib_NoneType_int, ib_NoneType_bool, ib_NoneType_str, ib_NoneType_tuple, ib_NoneType_list, ib_NoneType_dict, ib_bool_int, ib_bool_bool, ib_bool_str, ib_bool_tuple, ib_bool_list, ib_bool_dict, ib_int_int, ib_int_bool, ib_int_str, ib_int_tuple, ib_int_list, ib_int_dict, ib_str_int, ib_str_bool, ib_str_str, ib_str_tuple, ib_str_list, ib_str_dict, ib_tuple_int, ib_tuple_bool, ib_tuple_str, ib_tuple_tuple, ib_tuple_list, ib_tuple_dict, ib_list_int, ib_list_bool, ib_list_str, ib_list_tuple, ib_list_list, ib_list_dict, ib_dict_int, ib_dict_bool, ib_dict_str, ib_dict_tuple, ib_dict_list, ib_dict_dict, Bool.not_true, Bool.not_false, true_and, and_true, decide_true, decide_false])
      refine ⟨.fz (.int (great s1 n1 : Nat)), ?_⟩
      have i1 : (n1 : Int) - ((ch (great s1 n1) s1 : Nat) : Int) = ((n1 - ch (great s1 n1) s1 : Nat) : Int) := by omega
      have i2 : (s1 : Int) - 1 = ((s1 - 1 : Nat) : Int) := by omega
      rw [i1, i2, show nl (done ++ [great s1 n1]) = nl done ++ [D.int (great s1 n1 : Nat)] from List.map_append ..]
  · rw [decide_eq_false hp]
    have hp : n1 = 0 := by omega
    subst hp
    have e5 : done = cas s n := by rw [← hc, cas_zero, List.append_nil]
    subst e5
    (try simp only [mSeq, mIfS, mOr, mAnd, mNot, mTest, mOp, mUn, mVar, mOwn, mC, mRet, mRetN, mNext, mAsg, mAsgO, mName, mGTup, mGCons, mGNil, mFor, mRng1, mRng2, mRng3, mCons, mNil, mPar, mParO, mParP, mDrop, mFz, mApp, mExt, mSetL, mLc, mYes, mSeqI, mOwnI, mOrI, mEnumL, mEnumT, mZip, mZipM, mOr2, mRevL, mRevT, mSl, mNoP, mP, mTup, mLst, mCb, mIf, mAndV, mOrV, mNotV, mChain, mBrk, mCnt, mNever, mAug, mCall0, mCallK0, hAdd, hSub, hInt, hIntC, hAnd, hDiv, hMod, hPow, hMul, hNeg, hCmp, hLt, hLe, hGt, hGe, hIx, hIxX, hLen, hIsi, hTuple, hList, hInt1, hAbs, D.isN, hIs, hNis, D.items, D.plain, D.kind, hEq_int, hNe_int, hEq_str, hNe_str, hEq_tups, hNe_tups, hEq_lsts, hNe_lsts, wipeE, List.map_cons, List.map_nil, List.replicate_succ, List.replicate_zero, List.cons_append, List.nil_append, List.getElem?_cons_zero, List.getElem?_cons_succ, List.set_cons_zero, List.set_cons_succ, List.length_cons, List.length_nil, Nat.reduceAdd, Nat.reduceSub, inT_int, inT_bool, inT_str, inT_tuple, inT_list, inT_dict, ib_NoneType_int, ib_NoneType_bool, ib_NoneType_str, ib_NoneType_tuple, ib_NoneType_list, ib_NoneType_dict, ib_bool_int, ib_bool_bool, ib_bool_str, ib_bool_tuple, ib_bool_list, ib_bool_dict, ib_int_int, ib_int_bool, ib_int_str, ib_int_tuple, ib_int_list, ib_int_dict, ib_str_int, ib_str_bool, ib_str_str, ib_str_tuple, ib_str_list, ib_str_dict, ib_tuple_int, ib_tuple_bool, ib_tuple_str, ib_tuple_tuple, ib_tuple_list, ib_tuple_dict, ib_list_int, ib_list_bool, ib_list_str, ib_list_tuple, ib_list_list, ib_list_dict, ib_dict_int, ib_dict_bool, ib_dict_str, ib_dict_tuple, ib_dict_list, ib_dict_dict, Bool.not_true, Bool.not_false, true_and, and_true, decide_true, decide_false])
    exact q
/-! ### the four numbers -/
theorem cas_item : ∀ {s n : Nat}, ∀ a ∈ cas s n, a ≤ n + s
  | 0, _, a, h => by cases h
  | s + 1, 0, a, h => by cases h
  | s + 1, n + 1, a, h => by
    rcases List.mem_cons.mp (show a ∈ great (s + 1) (n + 1) :: cas s (n + 1 - ch (great (s + 1) (n + 1)) (s + 1)) from h) with e | e
    · have := great_le (n := n + 1) (s := s + 1) (by omega) (by omega)
      omega
    · have := cas_item a e
      omega
theorem cas_ge : ∀ {s : Nat} {l : List Nat} {p a : Nat}, IsCas s l → l[p]? = some a → s - p ≤ a ∧ p < s
  | _, [], p, a, _, h => by simp at h
  | 0, _ :: _, _, _, h, _ => h.elim
  | s + 1, b :: l, 0, a, h, e => by
    have : b = a := by simpa using e
    subst this
    exact ⟨by have := h.1; omega, by omega⟩
  | s + 1, b :: l, p + 1, a, h, e => by
    have := cas_ge h.2.2 (show l[p]? = some a by simpa using e)
    omega
theorem sum_zip (f : Nat → Nat → Nat) (s : Nat) : ∀ (l : List Nat) (k : Nat), ((l.zipIdx k).map fun p => ((f p.1 (s - p.2) : Nat) : Int)).sum = (sumC f (s - k) l : Nat)
  | [], _ => rfl
  | a :: l, k => by
    rw [List.zipIdx_cons, List.map_cons, List.sum_cons, sum_zip f s l (k + 1)]
    show ((f a (s - k) : Nat) : Int) + (sumC f (s - (k + 1)) l : Nat) = ((f a (s - k) + sumC f (s - k - 1) l : Nat) : Int)
    rw [Nat.sub_sub]
    omega
/-- a sum over enumerate of a cascade -/
theorem w_four {mg : MG} {me : ME} {env0 : VM.Env} {s : Nat} {c : List Nat} (f : Nat → Nat → Nat) (hc : IsCas s c)
    (h : ∀ (p a : Nat), p < s → s - p ≤ a → a ∈ c → ∀ Qd : D → Prop, Qd (.int (f a (s - p) : Nat)) → mg (.tup [.int (p : Nat), .int (a : Nat)]) env0 (fun env1 => me env1 Qd E))
    (q : Q (.int (sumC f s c : Nat))) : lcL mg mYes me env0 (enumD (nl c)) (fun ys => ∃ ns : List Int, some ys = some (ns.map D.int) ∧ Q (.int ns.sum)) E := by
  rw [enum_map]
  refine lcL_all (fun p : Nat × Nat => D.tup [.int (p.2 : Nat), .int (p.1 : Nat)]) (fun p => .int ((f p.1 (s - p.2) : Nat) : Int)) (fun p hp Qd hd => ?_) ?_
  · obtain ⟨a, i⟩ := p
    have := List.mem_zipIdx hp
    have hi : c[i]? = some a := by
      obtain ⟨_, h2, h3⟩ := this
      rw [h3]
      simp at h2
      simp
    obtain ⟨g1, g2⟩ := cas_ge hc hi
    exact h i a g2 g1 (List.mem_of_getElem? hi) Qd hd
  · refine ⟨c.zipIdx.map fun p => ((f p.1 (s - p.2) : Nat) : Int), by rw [List.map_map]; rfl, ?_⟩
    rw [sum_zip f s c 0]
    exact q
theorem s_lower {n s : Nat} (h2 : 1 ≤ s) (h3 : s ≤ 60) (h4 : n < 2 ^ 2000) (q : Q (.int (LS n s : Nat))) : m_lower [.int n, .int s] Q E := by
  unfold m_lower mFn
  refine ⟨rfl, ?_⟩
  (try simp only [mSeq, mIfS, mOr, mAnd, mNot, mTest, mOp, mUn, mVar, mOwn, mC, mRet, mRetN, mNext, mAsg, mAsgO, mName, mGTup, mGCons, mGNil, mFor, mRng1, mRng2, mRng3, mCons, mNil, mPar, mParO, mParP, mDrop, mFz, mApp, mExt, mSetL, mLc, mYes, mSeqI, mOwnI, mOrI, mEnumL, mEnumT, mZip, mZipM, mOr2, mRevL, mRevT, mSl, mNoP, mP, mTup, mLst, mCb, mIf, mAndV, mOrV, mNotV, mChain, mBrk, mCnt, mNever, mAug, mCall0, mCallK0, hAdd, hSub, hInt, hIntC, hAnd, hDiv, hMod, hPow, hMul, hNeg, hCmp, hLt, hLe, hGt, hGe, hIx, hIxX, hLen, hIsi, hTuple, hList, hInt1, hAbs, D.isN, hIs, hNis, D.items, D.plain, D.kind, hEq_int, hNe_int, hEq_str, hNe_str, hEq_tups, hNe_tups, hEq_lsts, hNe_lsts, wipeE, List.map_cons, List.map_nil, List.replicate_succ, List.replicate_zero, List.cons_append, List.nil_append, List.getElem?_cons_zero, List.getElem?_cons_succ, List.set_cons_zero, List.set_cons_succ, List.length_cons, List.length_nil, Nat.reduceAdd, Nat.reduceSub, inT_int, inT_bool, inT_str, inT_tuple, inT_list, inT_dict, ib_NoneType_int, ib_NoneType_bool, ib_NoneType_str, ib_NoneType_tuple, ib_NoneType_list, ib_NoneType_dict, ib_bool_int, ib_bool_bool, ib_bool_str, ib_bool_tuple, ib_bool_list, ib_bool_dict, ib_int_int, ib_int_bool, ib_int_str, ib_int_tuple, ib_int_list, ib_int_dict, ib_str_int, ib_str_bool, ib_str_str, ib_str_tuple, ib_str_list, ib_str_dict, ib_tuple_int, ib_tuple_bool, ib_tuple_str, ib_tuple_tuple, ib_tuple_list, ib_tuple_dict, ib_list_int, ib_list_bool, ib_list_str, ib_list_tuple, ib_list_list, ib_list_dict, ib_dict_int, ib_dict_bool, ib_dict_str, ib_dict_tuple, ib_dict_list, ib_dict_dict, Bool.not_true, Bool.not_false, true_and, and_true, decide_true, decide_false])
  refine .inr (s_cascade_by h2 h3 h4 ?_)
  have hl := (cas_is s n).len
  (try simp only [mSeq, mIfS, mOr, mAnd, mNot, mTest, mOp, mUn, mVar, mOwn, mC, mRet, mRetN, mNext, mAsg, mAsgO, mName, mGTup, mGCons, mGNil, mFor, mRng1, mRng2, mRng3, mCons, mNil, mPar, mParO, mParP, mDrop, mFz, mApp, mExt, mSetL, mLc, mYes, mSeqI, mOwnI, mOrI, mEnumL, mEnumT, mZip, mZipM, mOr2, mRevL, mRevT, mSl, mNoP, mP, mTup, mLst, mCb, mIf, mAndV, mOrV, mNotV, mChain, mBrk, mCnt, mNever, mAug, mCall0, mCallK0, hAdd, hSub, hInt, hIntC, hAnd, hDiv, hMod, hPow, hMul, hNeg, hCmp, hLt, hLe, hGt, hGe, hIx, hIxX, hLen, hIsi, hTuple, hList, hInt1, hAbs, D.isN, hIs, hNis, D.items, D.plain, D.kind, hEq_int, hNe_int, hEq_str, hNe_str, hEq_tups, hNe_tups, hEq_lsts, hNe_lsts, wipeE, List.map_cons, List.map_nil, List.replicate_succ, List.replicate_zero, List.cons_append, List.nil_append, List.getElem?_cons_zero, List.getElem?_cons_succ, List.set_cons_zero, List.set_cons_succ, List.length_cons, List.length_nil, Nat.reduceAdd, Nat.reduceSub, inT_int, inT_bool, inT_str, inT_tuple, inT_list, inT_dict, ib_NoneType_int, ib_NoneType_bool, ib_NoneType_str, ib_NoneType_tuple, ib_NoneType_list, ib_NoneType_dict, ib_bool_int, ib_bool_bool, ib_bool_str, ib_bool_tuple, ib_bool_list, ib_bool_dict, ib_int_int, ib_int_bool, ib_int_str, ib_int_tuple, ib_int_list, ib_int_dict, ib_str_int, ib_str_bool, ib_str_str, ib_str_tuple, ib_str_list, ib_str_dict, ib_tuple_int, ib_tuple_bool, ib_tuple_str, ib_tuple_tuple, ib_tuple_list, ib_tuple_dict, ib_list_int, ib_list_bool, ib_list_str, ib_list_tuple, ib_list_list, ib_list_dict, ib_dict_int, ib_dict_bool, ib_dict_str, ib_dict_tuple, ib_dict_list, ib_dict_dict, Bool.not_true, Bool.not_false, true_and, and_true, decide_true, decide_false])
  refine ⟨by rw [enum_len, List.length_map]; omega, ?_⟩
  refine w_four fLS (cas_is s n) (fun p a hp ha hm Qd hd => ?_) q
  (try simp only [mSeq, mIfS, mOr, mAnd, mNot, mTest, mOp, mUn, mVar, mOwn, mC, mRet, mRetN, mNext, mAsg, mAsgO, mName, mGTup, mGCons, mGNil, mFor, mRng1, mRng2, mRng3, mCons, mNil, mPar, mParO, mParP, mDrop, mFz, mApp, mExt, mSetL, mLc, mYes, mSeqI, mOwnI, mOrI, mEnumL, mEnumT, mZip, mZipM, mOr2, mRevL, mRevT, mSl, mNoP, mP, mTup, mLst, mCb, mIf, mAndV, mOrV, mNotV, mChain, mBrk, mCnt, mNever, mAug, mCall0, mCallK0, hAdd, hSub, hInt, hIntC, hAnd, hDiv, hMod, hPow, hMul, hNeg, hCmp, hLt, hLe, hGt, hGe, hIx, hIxX, hLen, hIsi, hTuple, hList, hInt1, hAbs, D.isN, hIs, hNis, D.items, D.plain, D.kind, hEq_int, hNe_int, hEq_str, hNe_str, hEq_tups, hNe_tups, hEq_lsts, hNe_lsts, wipeE, List.map_cons, List.map_nil, List.replicate_succ, List.replicate_zero, List.cons_append, List.nil_append, List.getElem?_cons_zero, List.getElem?_cons_succ, List.set_cons_zero, List.set_cons_succ, List.length_cons, List.length_nil, Nat.reduceAdd, Nat.reduceSub, inT_int, inT_bool, inT_str, inT_tuple, inT_list, inT_dict, ib_NoneType_int, ib_NoneType_bool, ib_NoneType_str, ib_NoneType_tuple, ib_NoneType_list, ib_NoneType_dict, ib_bool_int, ib_bool_bool, ib_bool_str, ib_bool_tuple, ib_bool_list, ib_bool_dict, ib_int_int, ib_int_bool, ib_int_str, ib_int_tuple, ib_int_list, ib_int_dict, ib_str_int, ib_str_bool, ib_str_str, ib_str_tuple, ib_str_list, ib_str_dict, ib_tuple_int, ib_tuple_bool, ib_tuple_str, ib_tuple_tuple, ib_tuple_list, ib_tuple_dict, ib_list_int, ib_list_bool, ib_list_str, ib_list_tuple, ib_list_list, ib_list_dict, ib_dict_int, ib_dict_bool, ib_dict_str, ib_dict_tuple, ib_dict_list, ib_dict_dict, Bool.not_true, Bool.not_false, true_and, and_true, decide_true, decide_false])
  refine s_chooseN a (s - p - 1) rfl (by omega) (by omega) ?_ hd
  have := cas_item a hm
  have := pow_small h4 1
  omega
theorem s_upper {n s : Nat} (h2 : 1 ≤ s) (h3 : s ≤ 60) (h4 : n < 2 ^ 2000) (q : Q (.int (US n s : Nat))) : m_upper [.int n, .int s] Q E := by
  unfold m_upper mFn
  refine ⟨rfl, ?_⟩
  (try simp only [mSeq, mIfS, mOr, mAnd, mNot, mTest, mOp, mUn, mVar, mOwn, mC, mRet, mRetN, mNext, mAsg, mAsgO, mName, mGTup, mGCons, mGNil, mFor, mRng1, mRng2, mRng3, mCons, mNil, mPar, mParO, mParP, mDrop, mFz, mApp, mExt, mSetL, mLc, mYes, mSeqI, mOwnI, mOrI, mEnumL, mEnumT, mZip, mZipM, mOr2, mRevL, mRevT, mSl, mNoP, mP, mTup, mLst, mCb, mIf, mAndV, mOrV, mNotV, mChain, mBrk, mCnt, mNever, mAug, mCall0, mCallK0, hAdd, hSub, hInt, hIntC, hAnd, hDiv, hMod, hPow, hMul, hNeg, hCmp, hLt, hLe, hGt, hGe, hIx, hIxX, hLen, hIsi, hTuple, hList, hInt1, hAbs, D.isN, hIs, hNis, D.items, D.plain, D.kind, hEq_int, hNe_int, hEq_str, hNe_str, hEq_tups, hNe_tups, hEq_lsts, hNe_lsts, wipeE, List.map_cons, List.map_nil, List.replicate_succ, List.replicate_zero, List.cons_append, List.nil_append, List.getElem?_cons_zero, List.getElem?_cons_succ, List.set_cons_zero, List.set_cons_succ, List.length_cons, List.length_nil, Nat.reduceAdd, Nat.reduceSub, inT_int, inT_bool, inT_str, inT_tuple, inT_list, inT_dict, ib_NoneType_int, ib_NoneType_bool, ib_NoneType_str, ib_NoneType_tuple, ib_NoneType_list, ib_NoneType_dict, ib_bool_int, ib_bool_bool, ib_bool_str, ib_bool_tuple, ib_bool_list, ib_bool_dict, ib_int_int, ib_int_bool, ib_int_str, ib_int_tuple, ib_int_list, ib_int_dict, ib_str_int, ib_str_bool, ib_str_str, ib_str_tuple, ib_str_list, ib_str_dict, ib_tuple_int, ib_tuple_bool, ib_tuple_str, ib_tuple_tuple, ib_tuple_list, ib_tuple_dict, ib_list_int, ib_list_bool, ib_list_str, ib_list_tuple, ib_list_list, ib_list_dict, ib_dict_int, ib_dict_bool, ib_dict_str, ib_dict_tuple, ib_dict_list, ib_dict_dict, Bool.not_true, Bool.not_false, true_and, and_true, decide_true, decide_false])
  refine .inr (s_cascade_by h2 h3 h4 ?_)
  have hl := (cas_is s n).len
  (try simp only [mSeq, mIfS, mOr, mAnd, mNot, mTest, mOp, mUn, mVar, mOwn, mC, mRet, mRetN, mNext, mAsg, mAsgO, mName, mGTup, mGCons, mGNil, mFor, mRng1, mRng2, mRng3, mCons, mNil, mPar, mParO, mParP, mDrop, mFz, mApp, mExt, mSetL, mLc, mYes, mSeqI, mOwnI, mOrI, mEnumL, mEnumT, mZip, mZipM, mOr2, mRevL, mRevT, mSl, mNoP, mP, mTup, mLst, mCb, mIf, mAndV, mOrV, mNotV, mChain, mBrk, mCnt, mNever, mAug, mCall0, mCallK0, hAdd, hSub, hInt, hIntC, hAnd, hDiv, hMod, hPow, hMul, hNeg, hCmp, hLt, hLe, hGt, hGe, hIx, hIxX, hLen, hIsi, hTuple, hList, hInt1, hAbs, D.isN, hIs, hNis, D.items, D.plain, D.kind, hEq_int, hNe_int, hEq_str, hNe_str, hEq_tups, hNe_tups, hEq_lsts, hNe_lsts, wipeE, List.map_cons, List.map_nil, List.replicate_succ, List.replicate_zero, List.cons_append, List.nil_append, List.getElem?_cons_zero, List.getElem?_cons_succ, List.set_cons_zero, List.set_cons_succ, List.length_cons, List.length_nil, Nat.reduceAdd, Nat.reduceSub, inT_int, inT_bool, inT_str, inT_tuple, inT_list, inT_dict, ib_NoneType_int, ib_NoneType_bool, ib_NoneType_str, ib_NoneType_tuple, ib_NoneType_list, ib_NoneType_dict, ib_bool_int, ib_bool_bool, ib_bool_str, ib_bool_tuple, ib_bool_list, ib_bool_dict, ib_int_int, ib_int_bool, ib_int_str, ib_int_tuple, ib_int_list, ib_int_dict, ib_str_int, ib_str_bool, ib_str_str, ib_str_tuple, ib_str_list, ib_str_dict, ib_tuple_int, ib_tuple_bool, ib_tuple_str, ib_tuple_tuple, ib_tuple_list, ib_tuple_dict, ib_list_int, ib_list_bool, ib_list_str, ib_list_tuple, ib_list_list, ib_list_dict, ib_dict_int, ib_dict_bool, ib_dict_str, ib_dict_tuple, ib_dict_list, ib_dict_dict, Bool.not_true, Bool.not_false, true_and, and_true, decide_true, decide_false])
  refine ⟨by rw [enum_len, List.length_map]; omega, ?_⟩
  refine w_four fUS (cas_is s n) (fun p a hp ha hm Qd hd => ?_) q
  (try simp only [mSeq, mIfS, mOr, mAnd, mNot, mTest, mOp, mUn, mVar, mOwn, mC, mRet, mRetN, mNext, mAsg, mAsgO, mName, mGTup, mGCons, mGNil, mFor, mRng1, mRng2, mRng3, mCons, mNil, mPar, mParO, mParP, mDrop, mFz, mApp, mExt, mSetL, mLc, mYes, mSeqI, mOwnI, mOrI, mEnumL, mEnumT, mZip, mZipM, mOr2, mRevL, mRevT, mSl, mNoP, mP, mTup, mLst, mCb, mIf, mAndV, mOrV, mNotV, mChain, mBrk, mCnt, mNever, mAug, mCall0, mCallK0, hAdd, hSub, hInt, hIntC, hAnd, hDiv, hMod, hPow, hMul, hNeg, hCmp, hLt, hLe, hGt, hGe, hIx, hIxX, hLen, hIsi, hTuple, hList, hInt1, hAbs, D.isN, hIs, hNis, D.items, D.plain, D.kind, hEq_int, hNe_int, hEq_str, hNe_str, hEq_tups, hNe_tups, hEq_lsts, hNe_lsts, wipeE, List.map_cons, List.map_nil, List.replicate_succ, List.replicate_zero, List.cons_append, List.nil_append, List.getElem?_cons_zero, List.getElem?_cons_succ, List.set_cons_zero, List.set_cons_succ, List.length_cons, List.length_nil, Nat.reduceAdd, Nat.reduceSub, inT_int, inT_bool, inT_str, inT_tuple, inT_list, inT_dict, ib_NoneType_int, ib_NoneType_bool, ib_NoneType_str, ib_NoneType_tuple, ib_NoneType_list, ib_NoneType_dict, ib_bool_int, ib_bool_bool, ib_bool_str, ib_bool_tuple, ib_bool_list, ib_bool_dict, ib_int_int, ib_int_bool, ib_int_str, ib_int_tuple, ib_int_list, ib_int_dict, ib_str_int, ib_str_bool, ib_str_str, ib_str_tuple, ib_str_list, ib_str_dict, ib_tuple_int, ib_tuple_bool, ib_tuple_str, ib_tuple_tuple, ib_tuple_list, ib_tuple_dict, ib_list_int, ib_list_bool, ib_list_str, ib_list_tuple, ib_list_list, ib_list_dict, ib_dict_int, ib_dict_bool, ib_dict_str, ib_dict_tuple, ib_dict_list, ib_dict_dict, Bool.not_true, Bool.not_false, true_and, and_true, decide_true, decide_false])
  refine s_chooseN a (s - p + 1) rfl (by omega) (by omega) ?_ hd
  have := cas_item a hm
  have := pow_small h4 1
  omega
theorem s_lower_product {n s : Nat} (h2 : 1 ≤ s) (h3 : s ≤ 60) (h4 : n < 2 ^ 2000) (q : Q (.int (LP n s : Nat))) : m_lower_product [.int n, .int s] Q E := by
  unfold m_lower_product mFn
  refine ⟨rfl, ?_⟩
  (try simp only [mSeq, mIfS, mOr, mAnd, mNot, mTest, mOp, mUn, mVar, mOwn, mC, mRet, mRetN, mNext, mAsg, mAsgO, mName, mGTup, mGCons, mGNil, mFor, mRng1, mRng2, mRng3, mCons, mNil, mPar, mParO, mParP, mDrop, mFz, mApp, mExt, mSetL, mLc, mYes, mSeqI, mOwnI, mOrI, mEnumL, mEnumT, mZip, mZipM, mOr2, mRevL, mRevT, mSl, mNoP, mP, mTup, mLst, mCb, mIf, mAndV, mOrV, mNotV, mChain, mBrk, mCnt, mNever, mAug, mCall0, mCallK0, hAdd, hSub, hInt, hIntC, hAnd, hDiv, hMod, hPow, hMul, hNeg, hCmp, hLt, hLe, hGt, hGe, hIx, hIxX, hLen, hIsi, hTuple, hList, hInt1, hAbs, D.isN, hIs, hNis, D.items, D.plain, D.kind, hEq_int, hNe_int, hEq_str, hNe_str, hEq_tups, hNe_tups, hEq_lsts, hNe_lsts, wipeE, List.map_cons, List.map_nil, List.replicate_succ, List.replicate_zero, List.cons_append, List.nil_append, List.getElem?_cons_zero, List.getElem?_cons_succ, List.set_cons_zero, List.set_cons_succ, List.length_cons, List.length_nil, Nat.reduceAdd, Nat.reduceSub, inT_int, inT_bool, inT_str, inT_tuple, inT_list, inT_dict, ib_NoneType_int, ib_NoneType_bool, ib_NoneType_str, ib_NoneType_tuple, ib_NoneType_list, ib_NoneType_dict, ib_bool_int, ib_bool_bool, ib_bool_str, ib_bool_tuple, ib_bool_list, ib_bool_dict, ib_int_int, ib_int_bool, ib_int_str, ib_int_tuple, ib_int_list, ib_int_dict, ib_str_int, ib_str_bool, ib_str_str, ib_str_tuple, ib_str_list, ib_str_dict, ib_tuple_int, ib_tuple_bool, ib_tuple_str, ib_tuple_tuple, ib_tuple_list, ib_tuple_dict, ib_list_int, ib_list_bool, ib_list_str, ib_list_tuple, ib_list_list, ib_list_dict, ib_dict_int, ib_dict_bool, ib_dict_str, ib_dict_tuple, ib_dict_list, ib_dict_dict, Bool.not_true, Bool.not_false, true_and, and_true, decide_true, decide_false])
  refine .inr (s_cascade_by h2 h3 h4 ?_)
  have hl := (cas_is s n).len
  (try simp only [mSeq, mIfS, mOr, mAnd, mNot, mTest, mOp, mUn, mVar, mOwn, mC, mRet, mRetN, mNext, mAsg, mAsgO, mName, mGTup, mGCons, mGNil, mFor, mRng1, mRng2, mRng3, mCons, mNil, mPar, mParO, mParP, mDrop, mFz, mApp, mExt, mSetL, mLc, mYes, mSeqI, mOwnI, mOrI, mEnumL, mEnumT, mZip, mZipM, mOr2, mRevL, mRevT, mSl, mNoP, mP, mTup, mLst, mCb, mIf, mAndV, mOrV, mNotV, mChain, mBrk, mCnt, mNever, mAug, mCall0, mCallK0, hAdd, hSub, hInt, hIntC, hAnd, hDiv, hMod, hPow, hMul, hNeg, hCmp, hLt, hLe, hGt, hGe, hIx, hIxX, hLen, hIsi, hTuple, hList, hInt1, hAbs, D.isN, hIs, hNis, D.items, D.plain, D.kind, hEq_int, hNe_int, hEq_str, hNe_str, hEq_tups, hNe_tups, hEq_lsts, hNe_lsts, wipeE, List.map_cons, List.map_nil, List.replicate_succ, List.replicate_zero, List.cons_append, List.nil_append, List.getElem?_cons_zero, List.getElem?_cons_succ, List.set_cons_zero, List.set_cons_succ, List.length_cons, List.length_nil, Nat.reduceAdd, Nat.reduceSub, inT_int, inT_bool, inT_str, inT_tuple, inT_list, inT_dict, ib_NoneType_int, ib_NoneType_bool, ib_NoneType_str, ib_NoneType_tuple, ib_NoneType_list, ib_NoneType_dict, ib_bool_int, ib_bool_bool, ib_bool_str, ib_bool_tuple, ib_bool_list, ib_bool_dict, ib_int_int, ib_int_bool, ib_int_str, ib_int_tuple, ib_int_list, ib_int_dict, ib_str_int, ib_str_bool, ib_str_str, ib_str_tuple, ib_str_list, ib_str_dict, ib_tuple_int, ib_tuple_bool, ib_tuple_str, ib_tuple_tuple, ib_tuple_list, ib_tuple_dict, ib_list_int, ib_list_bool, ib_list_str, ib_list_tuple, ib_list_list, ib_list_dict, ib_dict_int, ib_dict_bool, ib_dict_str, ib_dict_tuple, ib_dict_list, ib_dict_dict, Bool.not_true, Bool.not_false, true_and, and_true, decide_true, decide_false])
  refine ⟨by rw [enum_len, List.length_map]; omega, ?_⟩
  refine w_four fLP (cas_is s n) (fun p a hp ha hm Qd hd => ?_) q
  (try simp only [mSeq, mIfS, mOr, mAnd, mNot, mTest, mOp, mUn, mVar, mOwn, mC, mRet, mRetN, mNext, mAsg, mAsgO, mName, mGTup, mGCons, mGNil, mFor, mRng1, mRng2, mRng3, mCons, mNil, mPar, mParO, mParP, mDrop, mFz, mApp, mExt, mSetL, mLc, mYes, mSeqI, mOwnI, mOrI, mEnumL, mEnumT, mZip, mZipM, mOr2, mRevL, mRevT, mSl, mNoP, mP, mTup, mLst, mCb, mIf, mAndV, mOrV, mNotV, mChain, mBrk, mCnt, mNever, mAug, mCall0, mCallK0, hAdd, hSub, hInt, hIntC, hAnd, hDiv, hMod, hPow, hMul, hNeg, hCmp, hLt, hLe, hGt, hGe, hIx, hIxX, hLen, hIsi, hTuple, hList, hInt1, hAbs, D.isN, hIs, hNis, D.items, D.plain, D.kind, hEq_int, hNe_int, hEq_str, hNe_str, hEq_tups, hNe_tups, hEq_lsts, hNe_lsts, wipeE, List.map_cons, List.map_nil, List.replicate_succ, List.replicate_zero, List.cons_append, List.nil_append, List.getElem?_cons_zero, List.getElem?_cons_succ, List.set_cons_zero, List.set_cons_succ, List.length_cons, List.length_nil, Nat.reduceAdd, Nat.reduceSub, inT_int, inT_bool, inT_str, inT_tuple, inT_list, inT_dict, ib_NoneType_int, ib_NoneType_bool, ib_NoneType_str, ib_NoneType_tuple, ib_NoneType_list, ib_NoneType_dict, ib_bool_int, ib_bool_bool, ib_bool_str, ib_bool_tuple, ib_bool_list, ib_bool_dict, ib_int_int, ib_int_bool, ib_int_str, ib_int_tuple, ib_int_list, ib_int_dict, ib_str_int, ib_str_bool, ib_str_str, ib_str_tuple, ib_str_list, ib_str_dict, ib_tuple_int, ib_tuple_bool, ib_tuple_str, ib_tuple_tuple, ib_tuple_list, ib_tuple_dict, ib_list_int, ib_list_bool, ib_list_str, ib_list_tuple, ib_list_list, ib_list_dict, ib_dict_int, ib_dict_bool, ib_dict_str, ib_dict_tuple, ib_dict_list, ib_dict_dict, Bool.not_true, Bool.not_false, true_and, and_true, decide_true, decide_false])
  refine s_chooseN (a - 1) (s - p - 1) (by omega) (by omega) (by omega) ?_ hd
  have := cas_item a hm
  have := pow_small h4 1
  omega
theorem s_upper_product {n s : Nat} (h2 : 1 ≤ s) (h3 : s ≤ 60) (h4 : n < 2 ^ 2000) (q : Q (.int (UP n s : Nat))) : m_upper_product [.int n, .int s] Q E := by
  unfold m_upper_product mFn
  refine ⟨rfl, ?_⟩
  (try simp only [mSeq, mIfS, mOr, mAnd, mNot, mTest, mOp, mUn, mVar, mOwn, mC, mRet, mRetN, mNext, mAsg, mAsgO, mName, mGTup, mGCons, mGNil, mFor, mRng1, mRng2, mRng3, mCons, mNil, mPar, mParO, mParP, mDrop, mFz, mApp, mExt, mSetL, mLc, mYes, mSeqI, mOwnI, mOrI, mEnumL, mEnumT, mZip, mZipM, mOr2, mRevL, mRevT, mSl, mNoP, mP, mTup, mLst, mCb, mIf, mAndV, mOrV, mNotV, mChain, mBrk, mCnt, mNever, mAug, mCall0, mCallK0, hAdd, hSub, hInt, hIntC, hAnd, hDiv, hMod, hPow, hMul, hNeg, hCmp, hLt, hLe, hGt, hGe, hIx, hIxX, hLen, hIsi, hTuple, hList, hInt1, hAbs, D.isN, hIs, hNis, D.items, D.plain, D.kind, hEq_int, hNe_int, hEq_str, hNe_str, hEq_tups, hNe_tups, hEq_lsts, hNe_lsts, wipeE, List.map_cons, List.map_nil, List.replicate_succ, List.replicate_zero, List.cons_append, List.nil_append, List.getElem?_cons_zero, List.getElem?_cons_succ, List.set_cons_zero, List.set_cons_succ, List.length_cons, List.length_nil, Nat.reduceAdd, Nat.reduceSub, inT_int, inT_bool, inT_str, inT_tuple, inT_list, inT_dict, ib_NoneType_int, ib_NoneType_bool, ib_NoneType_str, ib_NoneType_tuple, ib_NoneType_list, ib_NoneType_dict, ib_bool_int, ib_bool_bool, ib_bool_str, ib_bool_tuple, ib_bool_list, ib_bool_dict, ib_int_int, ib_int_bool, ib_int_str, ib_int_tuple, ib_int_list, ib_int_dict, ib_str_int, ib_str_bool, ib_str_str, ib_str_tuple, ib_str_list, ib_str_dict, ib_tuple_int, ib_tuple_bool, ib_tuple_str, ib_tuple_tuple, ib_tuple_list, ib_tuple_dict, ib_list_int, ib_list_bool, ib_list_str, ib_list_tuple, ib_list_list, ib_list_dict, ib_dict_int, ib_dict_bool, ib_dict_str, ib_dict_tuple, ib_dict_list, ib_dict_dict, Bool.not_true, Bool.not_false, true_and, and_true, decide_true, decide_false])
  refine .inr (s_cascade_by h2 h3 h4 ?_)
  have hl := (cas_is s n).len
  (try simp only [mSeq, mIfS, mOr, mAnd, mNot, mTest, mOp, mUn, mVar, mOwn, mC, mRet, mRetN, mNext, mAsg, mAsgO, mName, mGTup, mGCons, mGNil, mFor, mRng1, mRng2, mRng3, mCons, mNil, mPar, mParO, mParP, mDrop, mFz, mApp, mExt, mSetL, mLc, mYes, mSeqI, mOwnI, mOrI, mEnumL, mEnumT, mZip, mZipM, mOr2, mRevL, mRevT, mSl, mNoP, mP, mTup, mLst, mCb, mIf, mAndV, mOrV, mNotV, mChain, mBrk, mCnt, mNever, mAug, mCall0, mCallK0, hAdd, hSub, hInt, hIntC, hAnd, hDiv, hMod, hPow, hMul, hNeg, hCmp, hLt, hLe, hGt, hGe, hIx, hIxX, hLen, hIsi, hTuple, hList, hInt1, hAbs, D.isN, hIs, hNis, D.items, D.plain, D.kind, hEq_int, hNe_int, hEq_str, hNe_str, hEq_tups, hNe_tups, hEq_lsts, hNe_lsts, wipeE, List.map_cons, List.map_nil, List.replicate_succ, List.replicate_zero, List.cons_append, List.nil_append, List.getElem?_cons_zero, List.getElem?_cons_succ, List.set_cons_zero, List.set_cons_succ, List.length_cons, List.length_nil, Nat.reduceAdd, Nat.reduceSub, inT_int, inT_bool, inT_str, inT_tuple, inT_list, inT_dict, ib_NoneType_int, ib_NoneType_bool, ib_NoneType_str, ib_NoneType_tuple, ib_NoneType_list, ib_NoneType_dict, ib_bool_int, ib_bool_bool, ib_bool_str, ib_bool_tuple, ib_bool_list, ib_bool_dict, ib_int_int, ib_int_bool, ib_int_str, ib_int_tuple, ib_int_list, ib_int_dict, ib_str_int, ib_str_bool, ib_str_str, ib_str_tuple, ib_str_list, ib_str_dict, ib_tuple_int, ib_tuple_bool, ib_tuple_str, ib_tuple_tuple, ib_tuple_list, ib_tuple_dict, ib_list_int, ib_list_bool, ib_list_str, ib_list_tuple, ib_list_list, ib_list_dict, ib_dict_int, ib_dict_bool, ib_dict_str, ib_dict_tuple, ib_dict_list, ib_dict_dict, Bool.not_true, Bool.not_false, true_and, and_true, decide_true, decide_false])
  refine ⟨by rw [enum_len, List.length_map]; omega, ?_⟩
  refine w_four fUP (cas_is s n) (fun p a hp ha hm Qd hd => ?_) q
  (try simp only [mSeq, mIfS, mOr, mAnd, mNot, mTest, mOp, mUn, mVar, mOwn, mC, mRet, mRetN, mNext, mAsg, mAsgO, mName, mGTup, mGCons, mGNil, mFor, mRng1, mRng2, mRng3, mCons, mNil, mPar, mParO, mParP, mDrop, mFz, mApp, mExt, mSetL, mLc, mYes, mSeqI, mOwnI, mOrI, mEnumL, mEnumT, mZip, mZipM, mOr2, mRevL, mRevT, mSl, mNoP, mP, mTup, mLst, mCb, mIf, mAndV, mOrV, mNotV, mChain, mBrk, mCnt, mNever, mAug, mCall0, mCallK0, hAdd, hSub, hInt, hIntC, hAnd, hDiv, hMod, hPow, hMul, hNeg, hCmp, hLt, hLe, hGt, hGe, hIx, hIxX, hLen, hIsi, hTuple, hList, hInt1, hAbs, D.isN, hIs, hNis, D.items, D.plain, D.kind, hEq_int, hNe_int, hEq_str, hNe_str, hEq_tups, hNe_tups, hEq_lsts, hNe_lsts, wipeE, List.map_cons, List.map_nil, List.replicate_succ, List.replicate_zero, List.cons_append, List.nil_append, List.getElem?_cons_zero, List.getElem?_cons_succ, List.set_cons_zero, List.set_cons_succ, List.length_cons, List.length_nil, Nat.reduceAdd, Nat.reduceSub, inT_int, inT_bool, inT_str, inT_tuple, inT_list, inT_dict, ib_NoneType_int, ib_NoneType_bool, ib_NoneType_str, ib_NoneType_tuple, ib_NoneType_list, ib_NoneType_dict, ib_bool_int, ib_bool_bool, ib_bool_str, ib_bool_tuple, ib_bool_list, ib_bool_dict, ib_int_int, ib_int_bool, ib_int_str, ib_int_tuple, ib_int_list, ib_int_dict, ib_str_int, ib_str_bool, ib_str_str, ib_str_tuple, ib_str_list, ib_str_dict, ib_tuple_int, ib_tuple_bool, ib_tuple_str, ib_tuple_tuple, ib_tuple_list, ib_tuple_dict, ib_list_int, ib_list_bool, ib_list_str, ib_list_tuple, ib_list_list, ib_list_dict, ib_dict_int, ib_dict_bool, ib_dict_str, ib_dict_tuple, ib_dict_list, ib_dict_dict, Bool.not_true, Bool.not_false, true_and, and_true, decide_true, decide_false])
  refine s_chooseN (a + 1) (s - p + 1) (by omega) (by omega) (by omega) ?_ hd
  have := cas_item a hm
  have := pow_small h4 1
  omega
end MC

namespace HR
/-! ### numbers of sets, reckoned -/
def ff (n : Nat) : Nat → Nat
  | 0 => 1
  | k + 1 => ff n k * (n - k)
def fac : Nat → Nat
  | 0 => 1
  | k + 1 => fac k * (k + 1)
theorem ch_ff (n : Nat) : ∀ k, ch n k * fac k = ff n k
  | 0 => by simp [fac, ff]
  | k + 1 => by
    show ch n (k + 1) * (fac k * (k + 1)) = ff n k * (n - k)
    rw [← ch_ff n k, Nat.mul_comm (fac k), ← Nat.mul_assoc, ch_mul, Nat.mul_right_comm]
theorem fac_pos : ∀ k, 0 < fac k
  | 0 => by decide
  | k + 1 => Nat.mul_pos (fac_pos k) (by omega)
theorem ch_div (n k : Nat) : ch n k = ff n k / fac k := by
  rw [← ch_ff, Nat.mul_div_cancel _ (fac_pos k)]
theorem LS_size1 (n : Nat) (h : 1 ≤ n) : LS n 1 = 1 := by
  have := LS_ch (s := 0) (a := n) (by omega)
  simpa using this
theorem cas_ch {s a : Nat} (hs : 1 ≤ s) (ha : s ≤ a) : cas s (ch a s) = [a] := by
  have h : IsCas s [a] := by
    cases s with
    | zero => omega
    | succ s => exact ⟨ha, (fun b hb => by cases hb), isCas_nil s⟩
  have e : val s [a] = ch a s := by show ch a s + 0 = ch a s; omega
  rw [← e]
  exact h.uniq
theorem US_ch {s a : Nat} (hs : 1 ≤ s) (ha : s ≤ a) : US (ch a s) s = ch a (s + 1) := by unfold US; rw [cas_ch hs ha]; show ch a (s + 1) + 0 = _; omega
theorem UP_ch {s a : Nat} (hs : 1 ≤ s) (ha : s ≤ a) : UP (ch a s) s = ch (a + 1) (s + 1) := by unfold UP; rw [cas_ch hs ha]; show ch (a + 1) (s + 1) + 0 = _; omega
/-! ### both kinds -/
def Lo (w n s : Nat) : Nat := if w = 0 then LS n s else LP n s
def Up (w n s : Nat) : Nat := if w = 0 then US n s else UP n s
theorem gal {w n m s : Nat} (hs : 1 ≤ s) : Lo w m (s + 1) ≤ n ↔ m ≤ Up w n s := by
  unfold Lo Up
  by_cases h : w = 0
  · rw [if_pos h, if_pos h]; exact galS hs
  · rw [if_neg h, if_neg h]; exact galP hs
theorem Lo_mono {w n m s : Nat} (hs : 1 ≤ s) (h : n ≤ m) : Lo w n s ≤ Lo w m s := by
  unfold Lo
  by_cases q : w = 0
  · rw [if_pos q, if_pos q]; exact LS_mono hs h
  · rw [if_neg q, if_neg q]; exact LP_mono hs h
theorem Up_mono {w n m s : Nat} (hs : 1 ≤ s) (h : n ≤ m) : Up w n s ≤ Up w m s := by
  unfold Up
  by_cases q : w = 0
  · rw [if_pos q, if_pos q]; exact US_mono hs h
  · rw [if_neg q, if_neg q]; exact UP_mono hs h
theorem UpLoUp {w n s : Nat} (hs : 1 ≤ s) : Up w (Lo w (Up w n s) (s + 1)) s = Up w n s := by
  have h1 : Lo w (Up w n s) (s + 1) ≤ n := (gal hs).mpr (Nat.le_refl _)
  have h2 := Up_mono (w := w) hs h1
  have h3 : Up w n s ≤ Up w (Lo w (Up w n s) (s + 1)) s := (gal hs).mp (Nat.le_refl _)
  omega
theorem LoUpLo {w m s : Nat} (hs : 1 ≤ s) : Lo w (Up w (Lo w m (s + 1)) s) (s + 1) = Lo w m (s + 1) := by
  have h1 : m ≤ Up w (Lo w m (s + 1)) s := (gal hs).mp (Nat.le_refl _)
  have h2 := Lo_mono (w := w) (s := s + 1) (by omega) h1
  have h3 : Lo w (Up w (Lo w m (s + 1)) s) (s + 1) ≤ Lo w m (s + 1) := (gal hs).mpr (Nat.le_refl _)
  omega
/-! ### a further item -/
theorem IsCas.snoc : ∀ {s : Nat} {l : List Nat} {x : Nat}, IsCas s l → l.length < s → s - l.length ≤ x → (∀ b, l.getLast? = some b → x < b) → IsCas s (l ++ [x])
  | 0, _, _, _, h, _, _ => by omega
  | s + 1, [], x, _, _, hx, _ => ⟨hx, (fun b hb => by cases hb), isCas_nil s⟩
  | s + 1, a :: l, x, h, hl, hx, hb => by
    have hl' : l.length < s := by rw [List.length_cons] at hl; omega
    have hx' : s - l.length ≤ x := by rw [List.length_cons] at hx; omega
    refine ⟨h.1, fun b e => ?_, IsCas.snoc h.2.2 hl' hx' fun b e => hb b ?_⟩
    · cases l with
      | nil =>
        have e' : some x = some b := e
        cases e'
        exact hb a rfl
      | cons c l => exact h.2.1 b e
    · cases l with
      | nil => cases e
      | cons c l => rw [List.getLast?_cons_cons]; exact e
end HR

/-! Least rests and rows of holes. -/
namespace HR
theorem LP_size1 (n : Nat) (h : 1 ≤ n) : LP n 1 = 1 := by
  have h1 := LS_LP (n := n) (s := 1) (Nat.le_refl 1)
  rw [LS_size1 n h] at h1
  have h2 : LS (LP n 1) (1 - 1) = 0 := rfl
  omega
theorem LS_pos {n s : Nat} (hs : 1 ≤ s) (hn : 1 ≤ n) : 1 ≤ LS n s := by
  unfold LS
  rw [cas_pos hs hn]
  show 1 ≤ ch (great s n) (s - 1) + _
  have := ch_pos (n := great s n) (k := s - 1) (by have := great_ge hs hn; omega)
  omega
/-- the least rest at k -/
def mm (c : List Nat) (k : Nat) : Nat := if k = 0 then 1 else if k < c.length then LP (c.getD k 0) (k + 1) else 0
structure Fits (c : List Nat) : Prop where
  ne : 1 ≤ c.length
  pos : ∀ k, k < c.length → 1 ≤ c.getD k 0
  low : ∀ k, k + 1 < c.length → LS (c.getD (k + 1) 0) (k + 2) ≤ c.getD k 0
theorem mm_LP {c : List Nat} (F : Fits c) {k : Nat} (hk : k < c.length) : mm c k = LP (c.getD k 0) (k + 1) := by
  unfold mm
  by_cases h : k = 0
  · rw [if_pos h, h, LP_size1 _ (F.pos 0 F.ne)]
  · rw [if_neg h, if_pos hk]
theorem mm_last {c : List Nat} (F : Fits c) : mm c c.length = 0 := by
  unfold mm
  rw [if_neg (by have := F.ne; omega), if_neg (by omega)]
theorem mm_add {c : List Nat} (F : Fits c) {k : Nat} (hk : k < c.length) : mm c k + mm c (k + 1) ≤ c.getD k 0 := by
  rw [mm_LP F hk]
  by_cases h : k + 1 < c.length
  · rw [mm_LP F h]
    have h1 := LS_LP (n := c.getD (k + 1) 0) (s := k + 2) (by omega)
    have h2 := F.low k h
    have h3 : k + 2 - 1 = k + 1 := by omega
    rw [h3] at h1
    have h4 : LP (c.getD k 0) (k + 1) ≤ c.getD k 0 - LP (c.getD (k + 1) 0) (k + 2) := by
      apply LP_least (by omega)
      have : c.getD k 0 - (c.getD k 0 - LP (c.getD (k + 1) 0) (k + 2)) = LP (c.getD (k + 1) 0) (k + 2) := by omega
      rw [this]
      omega
    show LP (c.getD k 0) (k + 1) + LP (c.getD (k + 1) 0) (k + 2) ≤ _
    omega
  · have : k + 1 = c.length := by omega
    have e2 : mm c (k + 1) = 0 := by rw [this, mm_last F]
    have := LP_le (n := c.getD k 0) (s := k + 1) (by omega)
    omega
/-- r is at least the least rest exactly if the comparison holds -/
theorem mm_iff {c : List Nat} (F : Fits c) {k r : Nat} (hk : k < c.length) : LS (c.getD k 0 - r) (k + 1) ≤ r ↔ mm c k ≤ r := by
  rw [mm_LP F hk]
  constructor
  · exact fun h => LP_least (by omega) h
  · intro h
    have h1 := LP_rest (n := c.getD k 0) (s := k + 1) (by omega)
    have h2 : LS (c.getD k 0 - r) (k + 1) ≤ LS (c.getD k 0 - LP (c.getD k 0) (k + 1)) (k + 1) := LS_mono (by omega) (by omega)
    omega
/-- the rests of counts and holes -/
def rst : List Int → List Int → List Int
  | c :: cs, h :: hs => (c - h - (rst cs hs).getD 0 0) :: rst cs hs
  | _, _ => [0]
theorem rst_len : ∀ {c h : List Int}, c.length = h.length → (rst c h).length = c.length + 1
  | [], [], _ => rfl
  | c :: cs, h :: hs, e => by
    show (rst cs hs).length + 1 = _
    rw [rst_len (by simpa using e)]
    rfl
theorem rst_nil (c : List Int) : rst c [] = [0] := by cases c <;> rfl
theorem rst_at : ∀ {c h : List Int} {k : Nat}, c.length = h.length → k < c.length → (rst c h).getD k 0 = c.getD k 0 - h.getD k 0 - (rst c h).getD (k + 1) 0
  | [], _, k, _, hk => by simp at hk
  | c :: cs, [], _, e, _ => by simp at e
  | c :: cs, h :: hs, 0, e, _ => rfl
  | c :: cs, h :: hs, k + 1, e, hk => rst_at (c := cs) (h := hs) (k := k) (by simpa using e) (by simpa using hk)
theorem rst_last : ∀ {c h : List Int}, c.length = h.length → (rst c h).getD c.length 0 = 0
  | [], [], _ => rfl
  | c :: cs, h :: hs, e => rst_last (c := cs) (h := hs) (by simpa using e)
/-- what goes down like the rests is the rests -/
theorem rst_uniq {c h : List Int} {f : Nat → Int} (e : c.length = h.length) (h0 : f c.length = 0) (hs : ∀ k, k < c.length → f k = c.getD k 0 - h.getD k 0 - f (k + 1)) : ∀ k, k ≤ c.length → (rst c h).getD k 0 = f k := by
  have : ∀ i, i ≤ c.length → (rst c h).getD (c.length - i) 0 = f (c.length - i) := by
    intro i
    induction i with
    | zero => intro _; rw [Nat.sub_zero, rst_last e, h0]
    | succ i ih =>
      intro hi
      have hk : c.length - (i + 1) < c.length := by omega
      have e1 : c.length - (i + 1) + 1 = c.length - i := by omega
      rw [rst_at e hk, hs _ hk, e1, ih (by omega)]
  intro k hk
  have := this (c.length - k) (by omega)
  have e1 : c.length - (c.length - k) = k := by omega
  rw [e1] at this
  exact this
/-- holes that differ at one place by e from such whose rests begin with x: theirs begin with x + e or x - e -/
theorem rst_off {c h g : List Int} {at_ : Nat} {e : Int} (e1 : c.length = h.length) (e2 : c.length = g.length) (ha : at_ < c.length) (h1 : g.getD at_ 0 = h.getD at_ 0 + e) (h2 : ∀ k, k ≠ at_ → g.getD k 0 = h.getD k 0) :
    (rst c g).getD 0 0 = (rst c h).getD 0 0 + e ∨ (rst c g).getD 0 0 = (rst c h).getD 0 0 - e := by
  have hi : ∀ i, i ≤ c.length → at_ < c.length - i → (rst c g).getD (c.length - i) 0 = (rst c h).getD (c.length - i) 0 := by
    intro i
    induction i with
    | zero => intro _ _; rw [Nat.sub_zero, rst_last e1, rst_last e2]
    | succ i ih =>
      intro h3 h4
      have hk : c.length - (i + 1) < c.length := by omega
      have e3 : c.length - (i + 1) + 1 = c.length - i := by omega
      rw [rst_at e1 hk, rst_at e2 hk, e3, ih (by omega) (by omega), h2 _ (by omega)]
  have lo : ∀ i, i ≤ at_ → (rst c g).getD (at_ - i) 0 = (rst c h).getD (at_ - i) 0 + e ∨ (rst c g).getD (at_ - i) 0 = (rst c h).getD (at_ - i) 0 - e := by
    intro i
    induction i with
    | zero =>
      intro _
      rw [Nat.sub_zero, rst_at e1 ha, rst_at e2 ha, h1]
      have : (rst c g).getD (at_ + 1) 0 = (rst c h).getD (at_ + 1) 0 := by
        have := hi (c.length - (at_ + 1)) (by omega) (by omega)
        have e3 : c.length - (c.length - (at_ + 1)) = at_ + 1 := by omega
        rw [e3] at this
        exact this
      rw [this]
      right
      omega
    | succ i ih =>
      intro h3
      have hk : at_ - (i + 1) < c.length := by omega
      have e3 : at_ - (i + 1) + 1 = at_ - i := by omega
      rw [rst_at e1 hk, rst_at e2 hk, e3, h2 _ (by omega)]
      rcases ih (by omega) with q | q
      · right; omega
      · left; omega
  have := lo at_ (Nat.le_refl _)
  rw [Nat.sub_self] at this
  exact this
abbrev izs (c : List Nat) : List Int := c.map fun n : Nat => (n : Int)
theorem ints_at (c : List Nat) (k : Nat) : (izs c).getD k 0 = ((c.getD k 0 : Nat) : Int) := by
  rw [List.getD_eq_getElem?_getD, List.getElem?_map, List.getD_eq_getElem?_getD]
  cases c[k]? <;> rfl
/-- has_hole_row as it is reckoned -/
def hh (c : List Nat) (zs : List Int) : Bool := zs.all (fun z => decide (0 ≤ z)) && (decide (zs.length = c.length) && (decide ((rst (izs c) zs).getD 0 0 = 1) && (List.range (c.length + 1)).all fun k => decide (((mm c k : Nat) : Int) ≤ (rst (izs c) zs).getD k 0)))
/-- the law's own fit -/
def df (c h : List Nat) : Bool := (decide ((rst (izs c) (izs h)).getD 0 0 = 1) && (List.range (c.length + 1)).all fun k => decide (0 ≤ (rst (izs c) (izs h)).getD k 0)) && (List.range c.length).all fun k => decide (k = 0 ∨ ((LS ((rst (izs c) (izs h)).getD (k + 1) 0 + (h.getD k 0 : Nat)).toNat (k + 1) : Nat) : Int) ≤ (rst (izs c) (izs h)).getD k 0)
theorem hh_df {c h : List Nat} (F : Fits c) (hl : h.length = c.length) : hh c (izs h) = df c h := by
  have hpos : (izs h).all (fun z => decide (0 ≤ z)) = true := by
    rw [List.all_eq_true]
    intro z hz
    obtain ⟨n, _, rfl⟩ := List.mem_map.mp hz
    exact decide_eq_true (by omega)
  have hlen : (izs h).length = c.length := by rw [List.length_map]; exact hl
  have e : (izs c).length = (izs h).length := by rw [List.length_map, hlen]
  have lc : (izs c).length = c.length := List.length_map ..
  have last := rst_last e
  rw [lc] at last
  have step : ∀ k, k < c.length → (rst (izs c) (izs h)).getD k 0 = ((c.getD k 0 : Nat) : Int) - ((h.getD k 0 : Nat) : Int) - (rst (izs c) (izs h)).getD (k + 1) 0 := fun k hk => by
    rw [rst_at e (by rw [lc]; exact hk), ints_at, ints_at]
  unfold hh df
  rw [hpos, decide_eq_true hlen, Bool.true_and, Bool.true_and, Bool.and_assoc]
  generalize rst (izs c) (izs h) = R at last step
  by_cases h0 : R.getD 0 0 = 1
  · rw [decide_eq_true h0, Bool.true_and, Bool.true_and, Bool.eq_iff_iff, List.all_eq_true, Bool.and_eq_true, List.all_eq_true, List.all_eq_true]
    constructor
    · intro q
      have q' : ∀ k, k ≤ c.length → ((mm c k : Nat) : Int) ≤ R.getD k 0 := fun k hk => of_decide_eq_true (q k (List.mem_range.mpr (by omega)))
      refine ⟨fun k hk => ?_, fun k hk => ?_⟩
      · have := q' k (by have := List.mem_range.mp hk; omega)
        exact decide_eq_true (by omega)
      · have hk' := List.mem_range.mp hk
        refine decide_eq_true (.inr ?_)
        have a1 := q' k (by omega)
        have a2 := q' (k + 1) (by omega)
        have a3 := step k hk'
        obtain ⟨r, hr⟩ : ∃ r : Nat, R.getD k 0 = r := ⟨(R.getD k 0).toNat, by omega⟩
        have a4 : (R.getD (k + 1) 0 + ((h.getD k 0 : Nat) : Int)).toNat = c.getD k 0 - r := by omega
        rw [a4, hr]
        have := (mm_iff F (r := r) hk').mpr (by omega)
        omega
    · rintro ⟨q1, q2⟩ k hk
      have q1' : ∀ k, k ≤ c.length → 0 ≤ R.getD k 0 := fun k hk => of_decide_eq_true (q1 k (List.mem_range.mpr (by omega)))
      have hk' := List.mem_range.mp hk
      refine decide_eq_true ?_
      by_cases hd : k < c.length
      · by_cases hz : k = 0
        · subst hz
          rw [h0]
          show ((1 : Nat) : Int) ≤ 1
          omega
        · have a3 := step k hd
          have b1 := q1' k (by omega)
          have b2 := q1' (k + 1) (by omega)
          have a5 := (of_decide_eq_true (q2 k (List.mem_range.mpr hd))).resolve_left hz
          obtain ⟨r, hr⟩ : ∃ r : Nat, R.getD k 0 = r := ⟨(R.getD k 0).toNat, by omega⟩
          have a4 : (R.getD (k + 1) 0 + ((h.getD k 0 : Nat) : Int)).toNat = c.getD k 0 - r := by omega
          rw [a4, hr] at a5
          have := (mm_iff F (r := r) hd).mp (by omega)
          omega
      · have : k = c.length := by omega
        subst this
        rw [mm_last F, last]
        omega
  · rw [decide_eq_false h0, Bool.false_and, Bool.false_and]
/-- the row of most holes -/
def mst (c : List Nat) : List Nat := (List.range c.length).map fun k => c.getD k 0 - mm c k - mm c (k + 1)
theorem mst_len (c : List Nat) : (mst c).length = c.length := by unfold mst; rw [List.length_map, List.length_range]
theorem mst_at {c : List Nat} {k : Nat} (hk : k < c.length) : (mst c).getD k 0 = c.getD k 0 - mm c k - mm c (k + 1) := by
  unfold mst
  rw [List.getD_eq_getElem?_getD, List.getElem?_map, List.getElem?_range hk]
  rfl
theorem mst_rst {c : List Nat} (F : Fits c) : ∀ k, k ≤ c.length → (rst (izs c) (izs (mst c))).getD k 0 = ((mm c k : Nat) : Int) := by
  have lc : (izs c).length = c.length := List.length_map ..
  have := rst_uniq (c := izs c) (h := izs (mst c)) (f := fun k => ((mm c k : Nat) : Int)) (by rw [List.length_map, List.length_map, mst_len]) (by rw [lc, mm_last F]; rfl) (fun k hk => by
    rw [lc] at hk
    rw [ints_at, ints_at, mst_at hk]
    have := mm_add F hk
    omega)
  intro k hk
  exact this k (by rw [lc]; exact hk)
theorem mst_hh {c : List Nat} (F : Fits c) : hh c (izs (mst c)) = true := by
  unfold hh
  rw [Bool.and_eq_true, Bool.and_eq_true, Bool.and_eq_true]
  refine ⟨?_, decide_eq_true (by rw [List.length_map, mst_len]), decide_eq_true (by rw [mst_rst F 0 (Nat.zero_le _)]; rfl), ?_⟩
  · rw [List.all_eq_true]
    intro z hz
    obtain ⟨n, _, rfl⟩ := List.mem_map.mp hz
    exact decide_eq_true (by omega)
  · rw [List.all_eq_true]
    intro k hk
    have hk' := List.mem_range.mp hk
    exact decide_eq_true (by rw [mst_rst F k (by omega)]; omega)
theorem off_hh {c : List Nat} {zs : List Int} {at_ : Nat} {e : Int} (F : Fits c) (he : e ≠ 0) (hl : zs.length = c.length) (ha : at_ < c.length) (h1 : zs.getD at_ 0 = ((mst c).getD at_ 0 : Nat) + e) (h2 : ∀ k, k ≠ at_ → zs.getD k 0 = ((mst c).getD k 0 : Nat)) : hh c zs = false := by
  have lc : (izs c).length = c.length := List.length_map ..
  have lm : (izs (mst c)).length = c.length := by rw [List.length_map, mst_len]
  have off := rst_off (c := izs c) (h := izs (mst c)) (g := zs) (at_ := at_) (e := e) (by rw [lc, lm]) (by rw [lc, hl]) (by rw [lc]; exact ha) (by rw [ints_at]; exact h1) (fun k hk => by rw [ints_at]; exact h2 k hk)
  rw [mst_rst F 0 (Nat.zero_le _)] at off
  have m0 : mm c 0 = 1 := rfl
  unfold hh
  have : decide ((rst (izs c) zs).getD 0 0 = 1) = false := decide_eq_false (by rw [m0] at off; omega)
  rw [this, Bool.false_and, Bool.and_false, Bool.and_false]
/-- the least holes -/
def fewI (c : List Nat) (k : Nat) : Int :=
  let a : Int := if k = 0 then 1 else ((c.getD (k - 1) 0 : Nat) : Int) - (mm c (k - 1) : Nat)
  let b : Int := if k + 1 = c.length then 0 else ((c.getD (k + 1) 0 : Nat) : Int) - (mm c (k + 2) : Nat)
  let z : Int := ((c.getD k 0 : Nat) : Int) - a - b
  if z > 0 then z else 0
theorem few_le {c : List Nat} (F : Fits c) {k : Nat} (hk : k < c.length) : fewI c k ≤ ((mst c).getD k 0 : Nat) := by
  rw [mst_at hk]
  have h1 := mm_add F hk
  unfold fewI
  have ha : ((mm c k : Nat) : Int) ≤ (if k = 0 then 1 else ((c.getD (k - 1) 0 : Nat) : Int) - (mm c (k - 1) : Nat)) := by
    by_cases h0 : k = 0
    · rw [if_pos h0, h0]; show ((1 : Nat) : Int) ≤ 1; omega
    · rw [if_neg h0]
      have := mm_add F (k := k - 1) (by omega)
      have e : k - 1 + 1 = k := by omega
      rw [e] at this
      omega
  have hb : ((mm c (k + 1) : Nat) : Int) ≤ (if k + 1 = c.length then 0 else ((c.getD (k + 1) 0 : Nat) : Int) - (mm c (k + 2) : Nat)) := by
    by_cases h0 : k + 1 = c.length
    · rw [if_pos h0, h0, mm_last F]; omega
    · rw [if_neg h0]
      have : mm c (k + 1) + mm c (k + 2) ≤ c.getD (k + 1) 0 := mm_add F (k := k + 1) (by omega)
      omega
  generalize (if k = 0 then (1 : Int) else ((c.getD (k - 1) 0 : Nat) : Int) - (mm c (k - 1) : Nat)) = a at ha
  generalize (if k + 1 = c.length then (0 : Int) else ((c.getD (k + 1) 0 : Nat) : Int) - (mm c (k + 2) : Nat)) = b at hb
  show (if ((c.getD k 0 : Nat) : Int) - a - b > 0 then ((c.getD k 0 : Nat) : Int) - a - b else 0) ≤ _
  split <;> omega
end HR

/-! Rows of counts that fit: least rests, most holes. -/
namespace MR
open PySem PySem.Spec PyProof.Rows L2 HL VM HR MC
-- 0 counts, 1 holes, 2 found, 3 many, 4 own
def m_rests_by : List D → M D := mFn 2 5 <|
    (mSeq (mAsgO (mLst (mCons (mC (.int 0)) mNil)) 2)
    (mSeq (mFor (mZipM (mCons (mOr2 (mRevL (mVar 0)) (mRevT (mVar 0))) (mCons (mOr2 (mRevL (mVar 1)) (mRevT (mVar 1))) mNil))) (mGTup 2 (mGCons (mName 3) (mGCons (mName 4) mGNil))) (mApp 2 (mOp hSub (mOp hSub (mVar 3) (mVar 4)) (mOp hIx (mOwn 2) (mUn hNeg (mC (.int 1)))))))
    (mRet (mCb hTuple (mCons (mOr2 (mRevL (mOwn 2)) (mRevT (mOwn 2))) mNil)))))
-- 0 thing, 1 item
def m_are_counts : List D → M D := mFn 1 2 <|
    (mRet (mAndV (mCb hIsi (mCons (mVar 0) (mCons (mC (.ty "tuple")) mNil))) (mCb hAll (mCons (mLc (mSeqI (mVar 0)) (mName 1) mYes (mCall0 1 m_is_count (mCons (mVar 1) mNil)) [1]) mNil))))
-- 0 thing, 1 item
def m_is_counts_value : List D → M D := mFn 1 2 <|
    (mRet (mAndV (mCb hIsi (mCons (mVar 0) (mCons (mC (.ty "tuple")) mNil))) (mAndV (mOp hLe (mCb hLen (mCons (mVar 0) mNil)) (mC (.int 16))) (mCb hAll (mCons (mLc (mSeqI (mVar 0)) (mName 1) mYes (mCall0 1 m_is_size (mCons (mVar 1) mNil)) [1]) mNil)))))
-- 0 counts
def m_need_counts_firsts : List D → M D := mFn 1 1 <|
    (mIfS (mNot (mTest (mCall0 1 m_is_counts_value (mCons (mVar 0) mNil)))) mNever mNext)
-- 0 thing
def m_need_counts_rows : List D → M D := mFn 1 1 <|
    (mIfS (mOr (mNot (mTest (mCall0 1 m_is_counts_value (mCons (mVar 0) mNil)))) (mTest (mOp hEq (mVar 0) (mTup mNil)))) mNever mNext)
-- 0 counts, 1 k
def m_lowers_of : List D → M D := mFn 1 2 <|
    (mRet (mCb hTuple (mCons (mLc (mRng2 (mCons (mC (.int 1)) (mCons (mCb hLen (mCons (mVar 0) mNil)) mNil))) (mName 1) mYes (mCall0 2 m_lower (mCons (mOp hIx (mVar 0) (mVar 1)) (mCons (mOp hAdd (mVar 1) (mC (.int 1))) mNil))) [1]) mNil)))
-- 0 many, 1 size, 2 low, 3 high, 4 middle
def m_least_rest : List D → M D := mFn 2 5 <|
    (mSeq (mPar 2 3 (mCons (mC (.int 0)) (mCons (mVar 0) mNil)))
    (mSeq (mWhile (mTest (mOp hLt (mVar 2) (mVar 3))) (mSeq (mAsg (mOp hDiv (mOp hAdd (mVar 2) (mVar 3)) (mC (.int 2))) (mName 4))
    (mIfS (mTest (mOp hLe (mCall0 2 m_lower (mCons (mOp hSub (mVar 0) (mVar 4)) (mCons (mVar 1) mNil))) (mVar 4))) (mAsg (mVar 4) (mName 3)) (mAsg (mOp hAdd (mVar 4) (mC (.int 1))) (mName 2)))))
    (mRet (mVar 2))))
-- 0 counts, 1 lowers, 2 at, 3 number
def m_counts_paper : List D → M D := mFn 1 4 <|
    (mSeq (mAsg (mCall0 1 m_lowers_of (mCons (mVar 0) mNil)) (mName 1))
    (mSeq (mFor (mOrI (mEnumL (mCons (mVar 1) mNil)) (mEnumT (mCons (mVar 1) mNil))) (mGTup 2 (mGCons (mName 2) (mGCons (mName 3) mGNil))) (mIfS (mTest (mOp hGt (mVar 3) (mOp hIx (mVar 0) (mVar 2)))) (mRet (mTup (mCons (mC (.str "size")) (mCons (mOp hAdd (mVar 2) (mC (.int 1))) mNil)))) mNext))
    (mRet (mTup (mCons (mC (.str "fits")) (mCons (mVar 1) mNil))))))
-- 0 counts, 1 k
def m_least_by : List D → M D := mFn 1 2 <|
    (mRet (mOp hAdd (mOp hAdd (mTup (mCons (mC (.int 1)) mNil)) (mCb hTuple (mCons (mLc (mRng2 (mCons (mC (.int 1)) (mCons (mCb hLen (mCons (mVar 0) mNil)) mNil))) (mName 1) mYes (mCall0 2 m_least_rest (mCons (mOp hIx (mVar 0) (mVar 1)) (mCons (mOp hAdd (mVar 1) (mC (.int 1))) mNil))) [1]) mNil))) (mTup (mCons (mC (.int 0)) mNil))))
-- 0 counts
def m_judge_counts : List D → M D := mFn 1 1 <|
    (mSeq (mDrop (mCall0 1 m_need_counts_firsts (mCons (mVar 0) mNil)))
    (mRet (mCall0 1 m_counts_paper (mCons (mVar 0) mNil))))
-- 0 counts, 1 least, 2 k, 3 many
def m_most_by : List D → M D := mFn 1 4 <|
    (mSeq (mAsg (mCall0 1 m_least_by (mCons (mVar 0) mNil)) (mName 1))
    (mRet (mCb hTuple (mCons (mLc (mOrI (mEnumL (mCons (mVar 0) mNil)) (mEnumT (mCons (mVar 0) mNil))) (mGTup 2 (mGCons (mName 2) (mGCons (mName 3) mGNil))) mYes (mOp hSub (mOp hSub (mVar 3) (mOp hIx (mVar 1) (mVar 2))) (mOp hIx (mVar 1) (mOp hAdd (mVar 2) (mC (.int 1))))) [2, 3]) mNil))))
-- 0 counts, 1 paper
def m_need_fitting : List D → M D := mFn 1 2 <|
    (mSeq (mDrop (mCall0 1 m_need_counts_rows (mCons (mVar 0) mNil)))
    (mSeq (mAsg (mCall0 1 m_judge_counts (mCons (mVar 0) mNil)) (mName 1))
    (mIfS (mTest (mOp hNe (mOp hIx (mVar 1) (mC (.int 0))) (mC (.str "fits")))) mNever mNext)))
-- 0 counts
def m_least_rests : List D → M D := mFn 1 1 <|
    (mSeq (mDrop (mCall0 1 m_need_fitting (mCons (mVar 0) mNil)))
    (mRet (mCall0 1 m_least_by (mCons (mVar 0) mNil))))
-- 0 counts
def m_most_holes : List D → M D := mFn 1 1 <|
    (mSeq (mDrop (mCall0 1 m_need_fitting (mCons (mVar 0) mNil)))
    (mRet (mCall0 1 m_most_by (mCons (mVar 0) mNil))))
-- 0 counts, 1 least, 2 found, 3 k, 4 many, 5 ahead, 6 behind
def m_least_holes : List D → M D := mFn 1 7 <|
    (mSeq (mDrop (mCall0 1 m_need_fitting (mCons (mVar 0) mNil)))
    (mSeq (mParP 1 2 (mCall0 1 m_least_by (mCons (mVar 0) mNil)) (mLst mNil))
    (mSeq (mFor (mOrI (mEnumL (mCons (mVar 0) mNil)) (mEnumT (mCons (mVar 0) mNil))) (mGTup 2 (mGCons (mName 3) (mGCons (mName 4) mGNil))) (mSeq (mAsg (mIf (mTest (mOp hEq (mVar 3) (mC (.int 0)))) (mC (.int 1)) (mOp hSub (mOp hIx (mVar 0) (mOp hSub (mVar 3) (mC (.int 1)))) (mOp hIx (mVar 1) (mOp hSub (mVar 3) (mC (.int 1)))))) (mName 5))
    (mSeq (mAsg (mIf (mTest (mOp hEq (mOp hAdd (mVar 3) (mC (.int 1))) (mCb hLen (mCons (mVar 0) mNil)))) (mC (.int 0)) (mOp hSub (mOp hIx (mVar 0) (mOp hAdd (mVar 3) (mC (.int 1)))) (mOp hIx (mVar 1) (mOp hAdd (mVar 3) (mC (.int 2)))))) (mName 6))
    (mApp 2 (mCb hMax (mCons (mC (.int 0)) (mCons (mOp hSub (mOp hSub (mVar 4) (mVar 5)) (mVar 6)) mNil)))))))
    (mRet (mCb hTuple (mCons (mOwn 2) mNil))))))
-- 0 counts, 1 thing, 2 rests, 3 near, 4 far
def m_has_hole_row : List D → M D := mFn 2 5 <|
    (mSeq (mDrop (mCall0 1 m_need_fitting (mCons (mVar 0) mNil)))
    (mSeq (mIfS (mOr (mNot (mTest (mCall0 1 m_are_counts (mCons (mVar 1) mNil)))) (mTest (mOp hNe (mCb hLen (mCons (mVar 1) mNil)) (mCb hLen (mCons (mVar 0) mNil))))) (mRet (mC (.bl false))) mNext)
    (mSeq (mAsg (mCall0 2 m_rests_by (mCons (mVar 0) (mCons (mVar 1) mNil))) (mName 2))
    (mRet (mAndV (mOp hEq (mOp hIx (mVar 2) (mC (.int 0))) (mC (.int 1))) (mCb hAll (mCons (mLc (mZipM (mCons (mVar 2) (mCons (mCall0 1 m_least_by (mCons (mVar 0) mNil)) mNil))) (mGTup 2 (mGCons (mName 3) (mGCons (mName 4) mGNil))) mYes (mOp hGe (mVar 3) (mVar 4)) [3, 4]) mNil)))))))
variable {Q : D → Prop} {E : XV → Prop}
theorem nl_il (c : List Nat) : nl c = il (izs c) := by show List.map _ _ = List.map _ (List.map _ _); rw [List.map_map]; rfl
theorem at_nl {c : List Nat} {i : Int} {k : Nat} (hi : i = (k : Int)) (hk : k < c.length) : atI (nl c) i = some (.int (c.getD k 0 : Nat)) := by
  refine atI_int hi ?_
  rw [List.getElem?_map, List.getElem?_eq_getElem hk, List.getD_eq_getElem?_getD, List.getElem?_eq_getElem hk]
  rfl
theorem at_il {c : List Int} {i : Int} {k : Nat} (hi : i = (k : Int)) (hk : k < c.length) : atI (il c) i = some (.int (c.getD k 0)) := by
  refine atI_int hi ?_
  rw [List.getElem?_map, List.getElem?_eq_getElem hk, List.getD_eq_getElem?_getD, List.getElem?_eq_getElem hk]
  rfl
/-- counts that fit, of moderate size -/
structure CF (c : List Nat) : Prop where
  fit : Fits c
  len : c.length ≤ 16
  sml : ∀ k, c.getD k 0 < 10 ^ 40
theorem cf_big {c : List Nat} (F : CF c) (k : Nat) : c.getD k 0 < 2 ^ 2000 := Nat.lt_trans (F.sml k) (by decide +kernel)
theorem cf_ne {c : List Nat} (F : CF c) : c ≠ [] := fun q => by
  have := F.fit.ne
  rw [q] at this
  exact absurd this (by decide)
theorem mem_getD {c : List Nat} {a : Nat} (h : a ∈ c) : ∃ k, k < c.length ∧ c.getD k 0 = a := by
  obtain ⟨k, hk, e⟩ := List.getElem_of_mem h
  exact ⟨k, hk, by rw [List.getD_eq_getElem?_getD, List.getElem?_eq_getElem hk, e]; rfl⟩
theorem s_are_counts {zs : List Int} (hz : zs.length ≤ 1000) (q : Q (.bl (zs.all fun z => decide (0 ≤ z)))) : m_are_counts [.tup (il zs)] Q E := by
  unfold m_are_counts mFn
  refine ⟨rfl, ?_⟩
  (try simp only [mSeq, mIfS, mOr, mAnd, mNot, mTest, mOp, mUn, mVar, mOwn, mC, mRet, mRetN, mNext, mAsg, mAsgO, mName, mGTup, mGCons, mGNil, mFor, mRng1, mRng2, mRng3, mCons, mNil, mPar, mParO, mParP, mDrop, mFz, mApp, mExt, mSetL, mLc, mYes, mSeqI, mOwnI, mOrI, mEnumL, mEnumT, mZip, mZipM, mOr2, mRevL, mRevT, mSl, mNoP, mP, mTup, mLst, mCb, mIf, mAndV, mOrV, mNotV, mChain, mBrk, mCnt, mNever, mAug, mCall0, mCallK0, hAdd, hSub, hInt, hIntC, hAnd, hDiv, hMod, hPow, hMul, hNeg, hCmp, hLt, hLe, hGt, hGe, hIx, hIxX, hLen, hIsi, hTuple, hList, hInt1, hAbs, D.isN, hIs, hNis, D.items, D.plain, D.kind, hEq_int, hNe_int, hEq_str, hNe_str, hEq_tups, hNe_tups, hEq_lsts, hNe_lsts, wipeE, List.map_cons, List.map_nil, List.replicate_succ, List.replicate_zero, List.cons_append, List.nil_append, List.getElem?_cons_zero, List.getElem?_cons_succ, List.set_cons_zero, List.set_cons_succ, List.length_cons, List.length_nil, Nat.reduceAdd, Nat.reduceSub, inT_int, inT_bool, inT_str, inT_tuple, inT_list, inT_dict, ib_NoneType_int, ib_NoneType_bool, ib_NoneType_str, ib_NoneType_tuple, ib_NoneType_list, ib_NoneType_dict, ib_bool_int, ib_bool_bool, ib_bool_str, ib_bool_tuple, ib_bool_list, ib_bool_dict, ib_int_int, ib_int_bool, ib_int_str, ib_int_tuple, ib_int_list, ib_int_dict, ib_str_int, ib_str_bool, ib_str_str, ib_str_tuple, ib_str_list, ib_str_dict, ib_tuple_int, ib_tuple_bool, ib_tuple_str, ib_tuple_tuple, ib_tuple_list, ib_tuple_dict, ib_list_int, ib_list_bool, ib_list_str, ib_list_tuple, ib_list_list, ib_list_dict, ib_dict_int, ib_dict_bool, ib_dict_str, ib_dict_tuple, ib_dict_list, ib_dict_dict, Bool.not_true, Bool.not_false, true_and, and_true, decide_true, decide_false])
  unfold hAll
  refine ⟨by rw [List.length_map]; omega, ?_⟩
  refine lcL_all D.int (fun z => .bl (decide (0 ≤ z))) (fun z _ Qd hd => ?_) ?_
  · (try simp only [mSeq, mIfS, mOr, mAnd, mNot, mTest, mOp, mUn, mVar, mOwn, mC, mRet, mRetN, mNext, mAsg, mAsgO, mName, mGTup, mGCons, mGNil, mFor, mRng1, mRng2, mRng3, mCons, mNil, mPar, mParO, mParP, mDrop, mFz, mApp, mExt, mSetL, mLc, mYes, mSeqI, mOwnI, mOrI, mEnumL, mEnumT, mZip, mZipM, mOr2, mRevL, mRevT, mSl, mNoP, mP, mTup, mLst, mCb, mIf, mAndV, mOrV, mNotV, mChain, mBrk, mCnt, mNever, mAug, mCall0, mCallK0, hAdd, hSub, hInt, hIntC, hAnd, hDiv, hMod, hPow, hMul, hNeg, hCmp, hLt, hLe, hGt, hGe, hIx, hIxX, hLen, hIsi, hTuple, hList, hInt1, hAbs, D.isN, hIs, hNis, D.items, D.plain, D.kind, hEq_int, hNe_int, hEq_str, hNe_str, hEq_tups, hNe_tups, hEq_lsts, hNe_lsts, wipeE, List.map_cons, List.map_nil, List.replicate_succ, List.replicate_zero, List.cons_append, List.nil_append, List.getElem?_cons_zero, List.getElem?_cons_succ, List.set_cons_zero, List.set_cons_succ, List.length_cons, List.length_nil, Nat.reduceAdd, Nat.reduceSub, inT_int, inT_bool, inT_str, inT_tuple, inT_list, inT_dict, ib_NoneType_int, ib_NoneType_bool, ib_NoneType_str, ib_NoneType_tuple, ib_NoneType_list, ib_NoneType_dict, ib_bool_int, ib_bool_bool, ib_bool_str, ib_bool_tuple, ib_bool_list, ib_bool_dict, ib_int_int, ib_int_bool, ib_int_str, ib_int_tuple, ib_int_list, ib_int_dict, ib_str_int, ib_str_bool, ib_str_str, ib_str_tuple, ib_str_list, ib_str_dict, ib_tuple_int, ib_tuple_bool, ib_tuple_str, ib_tuple_tuple, ib_tuple_list, ib_tuple_dict, ib_list_int, ib_list_bool, ib_list_str, ib_list_tuple, ib_list_list, ib_list_dict, ib_dict_int, ib_dict_bool, ib_dict_str, ib_dict_tuple, ib_dict_list, ib_dict_dict, Bool.not_true, Bool.not_false, true_and, and_true, decide_true, decide_false])
    exact s_is_count rfl hd
  · exact ⟨zs.map fun z => decide (0 ≤ z), by rw [List.map_map]; rfl, by rw [List.all_map]; exact q⟩
theorem s_is_counts_value {zs : List Int} (q : Q (.bl (decide (zs.length ≤ 16) && zs.all fun z => decide (1 ≤ z)))) (hz : zs.length ≤ 1000) : m_is_counts_value [.tup (il zs)] Q E := by
  unfold m_is_counts_value mFn
  refine ⟨rfl, ?_⟩
  (try simp only [mSeq, mIfS, mOr, mAnd, mNot, mTest, mOp, mUn, mVar, mOwn, mC, mRet, mRetN, mNext, mAsg, mAsgO, mName, mGTup, mGCons, mGNil, mFor, mRng1, mRng2, mRng3, mCons, mNil, mPar, mParO, mParP, mDrop, mFz, mApp, mExt, mSetL, mLc, mYes, mSeqI, mOwnI, mOrI, mEnumL, mEnumT, mZip, mZipM, mOr2, mRevL, mRevT, mSl, mNoP, mP, mTup, mLst, mCb, mIf, mAndV, mOrV, mNotV, mChain, mBrk, mCnt, mNever, mAug, mCall0, mCallK0, hAdd, hSub, hInt, hIntC, hAnd, hDiv, hMod, hPow, hMul, hNeg, hCmp, hLt, hLe, hGt, hGe, hIx, hIxX, hLen, hIsi, hTuple, hList, hInt1, hAbs, D.isN, hIs, hNis, D.items, D.plain, D.kind, hEq_int, hNe_int, hEq_str, hNe_str, hEq_tups, hNe_tups, hEq_lsts, hNe_lsts, wipeE, List.map_cons, List.map_nil, List.replicate_succ, List.replicate_zero, List.cons_append, List.nil_append, List.getElem?_cons_zero, List.getElem?_cons_succ, List.set_cons_zero, List.set_cons_succ, List.length_cons, List.length_nil, Nat.reduceAdd, Nat.reduceSub, inT_int, inT_bool, inT_str, inT_tuple, inT_list, inT_dict, ib_NoneType_int, ib_NoneType_bool, ib_NoneType_str, ib_NoneType_tuple, ib_NoneType_list, ib_NoneType_dict, ib_bool_int, ib_bool_bool, ib_bool_str, ib_bool_tuple, ib_bool_list, ib_bool_dict, ib_int_int, ib_int_bool, ib_int_str, ib_int_tuple, ib_int_list, ib_int_dict, ib_str_int, ib_str_bool, ib_str_str, ib_str_tuple, ib_str_list, ib_str_dict, ib_tuple_int, ib_tuple_bool, ib_tuple_str, ib_tuple_tuple, ib_tuple_list, ib_tuple_dict, ib_list_int, ib_list_bool, ib_list_str, ib_list_tuple, ib_list_list, ib_list_dict, ib_dict_int, ib_dict_bool, ib_dict_str, ib_dict_tuple, ib_dict_list, ib_dict_dict, Bool.not_true, Bool.not_false, true_and, and_true, decide_true, decide_false])
  unfold hAll
  rw [List.length_map]
  by_cases h : (zs.length : Int) ≤ 16
  · rw [decide_eq_true h]
    rw [decide_eq_true (show zs.length ≤ 16 by omega)] at q
    refine ⟨by omega, ?_⟩
    refine lcL_all D.int (fun z => .bl (decide (1 ≤ z))) (fun z _ Qd hd => ?_) ?_
    · (try simp only [mSeq, mIfS, mOr, mAnd, mNot, mTest, mOp, mUn, mVar, mOwn, mC, mRet, mRetN, mNext, mAsg, mAsgO, mName, mGTup, mGCons, mGNil, mFor, mRng1, mRng2, mRng3, mCons, mNil, mPar, mParO, mParP, mDrop, mFz, mApp, mExt, mSetL, mLc, mYes, mSeqI, mOwnI, mOrI, mEnumL, mEnumT, mZip, mZipM, mOr2, mRevL, mRevT, mSl, mNoP, mP, mTup, mLst, mCb, mIf, mAndV, mOrV, mNotV, mChain, mBrk, mCnt, mNever, mAug, mCall0, mCallK0, hAdd, hSub, hInt, hIntC, hAnd, hDiv, hMod, hPow, hMul, hNeg, hCmp, hLt, hLe, hGt, hGe, hIx, hIxX, hLen, hIsi, hTuple, hList, hInt1, hAbs, D.isN, hIs, hNis, D.items, D.plain, D.kind, hEq_int, hNe_int, hEq_str, hNe_str, hEq_tups, hNe_tups, hEq_lsts, hNe_lsts, wipeE, List.map_cons, List.map_nil, List.replicate_succ, List.replicate_zero, List.cons_append, List.nil_append, List.getElem?_cons_zero, List.getElem?_cons_succ, List.set_cons_zero, List.set_cons_succ, List.length_cons, List.length_nil, Nat.reduceAdd, Nat.reduceSub, inT_int, inT_bool, inT_str, inT_tuple, inT_list, inT_dict, ib_NoneType_int, ib_NoneType_bool, ib_NoneType_str, ib_NoneType_tuple, ib_NoneType_list, ib_NoneType_dict, ib_bool_int, ib_bool_bool, ib_bool_str, ib_bool_tuple, ib_bool_list, ib_bool_dict, ib_int_int, ib_int_bool, ib_int_str, ib_int_tuple, ib_int_list, ib_int_dict, ib_str_int, ib_str_bool, ib_str_str, ib_str_tuple, ib_str_list, ib_str_dict, ib_tuple_int, ib_tuple_bool, ib_tuple_str, ib_tuple_tuple, ib_tuple_list, ib_tuple_dict, ib_list_int, ib_list_bool, ib_list_str, ib_list_tuple, ib_list_list, ib_list_dict, ib_dict_int, ib_dict_bool, ib_dict_str, ib_dict_tuple, ib_dict_list, ib_dict_dict, Bool.not_true, Bool.not_false, true_and, and_true, decide_true, decide_false])
      exact s_is_size rfl hd
    · exact ⟨zs.map fun z => decide (1 ≤ z), by rw [List.map_map]; rfl, by rw [List.all_map]; exact q⟩
  · rw [decide_eq_false h]
    rw [decide_eq_false (show ¬ zs.length ≤ 16 by omega)] at q
    exact q
theorem cv_true {c : List Nat} (F : CF c) : (decide ((izs c).length ≤ 16) && (izs c).all fun z => decide (1 ≤ z)) = true := by
  rw [Bool.and_eq_true]
  refine ⟨decide_eq_true (by rw [List.length_map]; exact F.len), List.all_eq_true.mpr fun z hz => ?_⟩
  obtain ⟨n, hn, rfl⟩ := List.mem_map.mp hz
  obtain ⟨k, hk, rfl⟩ := mem_getD hn
  exact decide_eq_true (by have := F.fit.pos k hk; omega)
theorem s_cv {c : List Nat} (F : CF c) (q : Q (.bl true)) : m_is_counts_value [.tup (nl c)] Q E := by
  rw [nl_il]
  exact s_is_counts_value (by rw [cv_true F]; exact q) (by rw [List.length_map]; have := F.len; omega)
theorem s_need_firsts {c : List Nat} (F : CF c) (q : Q .non) : m_need_counts_firsts [.tup (nl c)] Q E := by
  unfold m_need_counts_firsts mFn
  refine ⟨rfl, ?_⟩
  (try simp only [mSeq, mIfS, mOr, mAnd, mNot, mTest, mOp, mUn, mVar, mOwn, mC, mRet, mRetN, mNext, mAsg, mAsgO, mName, mGTup, mGCons, mGNil, mFor, mRng1, mRng2, mRng3, mCons, mNil, mPar, mParO, mParP, mDrop, mFz, mApp, mExt, mSetL, mLc, mYes, mSeqI, mOwnI, mOrI, mEnumL, mEnumT, mZip, mZipM, mOr2, mRevL, mRevT, mSl, mNoP, mP, mTup, mLst, mCb, mIf, mAndV, mOrV, mNotV, mChain, mBrk, mCnt, mNever, mAug, mCall0, mCallK0, hAdd, hSub, hInt, hIntC, hAnd, hDiv, hMod, hPow, hMul, hNeg, hCmp, hLt, hLe, hGt, hGe, hIx, hIxX, hLen, hIsi, hTuple, hList, hInt1, hAbs, D.isN, hIs, hNis, D.items, D.plain, D.kind, hEq_int, hNe_int, hEq_str, hNe_str, hEq_tups, hNe_tups, hEq_lsts, hNe_lsts, wipeE, List.map_cons, List.map_nil, List.replicate_succ, List.replicate_zero, List.cons_append, List.nil_append, List.getElem?_cons_zero, List.getElem?_cons_succ, List.set_cons_zero, List.set_cons_succ, List.length_cons, List.length_nil, Nat.reduceAdd, Nat.reduceSub, inT_int, inT_bool, inT_str, inT_tuple, inT_list, inT_dict, ib_NoneType_int, ib_NoneType_bool, ib_NoneType_str, ib_NoneType_tuple, ib_NoneType_list, ib_NoneType_dict, ib_bool_int, ib_bool_bool, ib_bool_str, ib_bool_tuple, ib_bool_list, ib_bool_dict, ib_int_int, ib_int_bool, ib_int_str, ib_int_tuple, ib_int_list, ib_int_dict, ib_str_int, ib_str_bool, ib_str_str, ib_str_tuple, ib_str_list, ib_str_dict, ib_tuple_int, ib_tuple_bool, ib_tuple_str, ib_tuple_tuple, ib_tuple_list, ib_tuple_dict, ib_list_int, ib_list_bool, ib_list_str, ib_list_tuple, ib_list_list, ib_list_dict, ib_dict_int, ib_dict_bool, ib_dict_str, ib_dict_tuple, ib_dict_list, ib_dict_dict, Bool.not_true, Bool.not_false, true_and, and_true, decide_true, decide_false])
  exact s_cv F q
theorem s_need_rows {c : List Nat} (F : CF c) (q : Q .non) : m_need_counts_rows [.tup (nl c)] Q E := by
  unfold m_need_counts_rows mFn
  refine ⟨rfl, ?_⟩
  (try simp only [mSeq, mIfS, mOr, mAnd, mNot, mTest, mOp, mUn, mVar, mOwn, mC, mRet, mRetN, mNext, mAsg, mAsgO, mName, mGTup, mGCons, mGNil, mFor, mRng1, mRng2, mRng3, mCons, mNil, mPar, mParO, mParP, mDrop, mFz, mApp, mExt, mSetL, mLc, mYes, mSeqI, mOwnI, mOrI, mEnumL, mEnumT, mZip, mZipM, mOr2, mRevL, mRevT, mSl, mNoP, mP, mTup, mLst, mCb, mIf, mAndV, mOrV, mNotV, mChain, mBrk, mCnt, mNever, mAug, mCall0, mCallK0, hAdd, hSub, hInt, hIntC, hAnd, hDiv, hMod, hPow, hMul, hNeg, hCmp, hLt, hLe, hGt, hGe, hIx, hIxX, hLen, hIsi, hTuple, hList, hInt1, hAbs, D.isN, hIs, hNis, D.items, D.plain, D.kind, hEq_int, hNe_int, hEq_str, hNe_str, hEq_tups, hNe_tups, hEq_lsts, hNe_lsts, wipeE, List.map_cons, List.map_nil, List.replicate_succ, List.replicate_zero, List.cons_append, List.nil_append, List.getElem?_cons_zero, List.getElem?_cons_succ, List.set_cons_zero, List.set_cons_succ, List.length_cons, List.length_nil, Nat.reduceAdd, Nat.reduceSub, inT_int, inT_bool, inT_str, inT_tuple, inT_list, inT_dict, ib_NoneType_int, ib_NoneType_bool, ib_NoneType_str, ib_NoneType_tuple, ib_NoneType_list, ib_NoneType_dict, ib_bool_int, ib_bool_bool, ib_bool_str, ib_bool_tuple, ib_bool_list, ib_bool_dict, ib_int_int, ib_int_bool, ib_int_str, ib_int_tuple, ib_int_list, ib_int_dict, ib_str_int, ib_str_bool, ib_str_str, ib_str_tuple, ib_str_list, ib_str_dict, ib_tuple_int, ib_tuple_bool, ib_tuple_str, ib_tuple_tuple, ib_tuple_list, ib_tuple_dict, ib_list_int, ib_list_bool, ib_list_str, ib_list_tuple, ib_list_list, ib_list_dict, ib_dict_int, ib_dict_bool, ib_dict_str, ib_dict_tuple, ib_dict_list, ib_dict_dict, Bool.not_true, Bool.not_false, true_and, and_true, decide_true, decide_false])
  refine s_cv F ?_
  (try simp only [mSeq, mIfS, mOr, mAnd, mNot, mTest, mOp, mUn, mVar, mOwn, mC, mRet, mRetN, mNext, mAsg, mAsgO, mName, mGTup, mGCons, mGNil, mFor, mRng1, mRng2, mRng3, mCons, mNil, mPar, mParO, mParP, mDrop, mFz, mApp, mExt, mSetL, mLc, mYes, mSeqI, mOwnI, mOrI, mEnumL, mEnumT, mZip, mZipM, mOr2, mRevL, mRevT, mSl, mNoP, mP, mTup, mLst, mCb, mIf, mAndV, mOrV, mNotV, mChain, mBrk, mCnt, mNever, mAug, mCall0, mCallK0, hAdd, hSub, hInt, hIntC, hAnd, hDiv, hMod, hPow, hMul, hNeg, hCmp, hLt, hLe, hGt, hGe, hIx, hIxX, hLen, hIsi, hTuple, hList, hInt1, hAbs, D.isN, hIs, hNis, D.items, D.plain, D.kind, hEq_int, hNe_int, hEq_str, hNe_str, hEq_tups, hNe_tups, hEq_lsts, hNe_lsts, wipeE, List.map_cons, List.map_nil, List.replicate_succ, List.replicate_zero, List.cons_append, List.nil_append, List.getElem?_cons_zero, List.getElem?_cons_succ, List.set_cons_zero, List.set_cons_succ, List.length_cons, List.length_nil, Nat.reduceAdd, Nat.reduceSub, inT_int, inT_bool, inT_str, inT_tuple, inT_list, inT_dict, ib_NoneType_int, ib_NoneType_bool, ib_NoneType_str, ib_NoneType_tuple, ib_NoneType_list, ib_NoneType_dict, ib_bool_int, ib_bool_bool, ib_bool_str, ib_bool_tuple, ib_bool_list, ib_bool_dict, ib_int_int, ib_int_bool, ib_int_str, ib_int_tuple, ib_int_list, ib_int_dict, ib_str_int, ib_str_bool, ib_str_str, ib_str_tuple, ib_str_list, ib_str_dict, ib_tuple_int, ib_tuple_bool, ib_tuple_str, ib_tuple_tuple, ib_tuple_list, ib_tuple_dict, ib_list_int, ib_list_bool, ib_list_str, ib_list_tuple, ib_list_list, ib_list_dict, ib_dict_int, ib_dict_bool, ib_dict_str, ib_dict_tuple, ib_dict_list, ib_dict_dict, Bool.not_true, Bool.not_false, true_and, and_true, decide_true, decide_false])
  refine ⟨by decide, ?_⟩
  rw [nl_il, show ([] : List D) = il [] from rfl, hEq_tups]
  (try simp only [mSeq, mIfS, mOr, mAnd, mNot, mTest, mOp, mUn, mVar, mOwn, mC, mRet, mRetN, mNext, mAsg, mAsgO, mName, mGTup, mGCons, mGNil, mFor, mRng1, mRng2, mRng3, mCons, mNil, mPar, mParO, mParP, mDrop, mFz, mApp, mExt, mSetL, mLc, mYes, mSeqI, mOwnI, mOrI, mEnumL, mEnumT, mZip, mZipM, mOr2, mRevL, mRevT, mSl, mNoP, mP, mTup, mLst, mCb, mIf, mAndV, mOrV, mNotV, mChain, mBrk, mCnt, mNever, mAug, mCall0, mCallK0, hAdd, hSub, hInt, hIntC, hAnd, hDiv, hMod, hPow, hMul, hNeg, hCmp, hLt, hLe, hGt, hGe, hIx, hIxX, hLen, hIsi, hTuple, hList, hInt1, hAbs, D.isN, hIs, hNis, D.items, D.plain, D.kind, hEq_int, hNe_int, hEq_str, hNe_str, hEq_tups, hNe_tups, hEq_lsts, hNe_lsts, wipeE, List.map_cons, List.map_nil, List.replicate_succ, List.replicate_zero, List.cons_append, List.nil_append, List.getElem?_cons_zero, List.getElem?_cons_succ, List.set_cons_zero, List.set_cons_succ, List.length_cons, List.length_nil, Nat.reduceAdd, Nat.reduceSub, inT_int, inT_bool, inT_str, inT_tuple, inT_list, inT_dict, ib_NoneType_int, ib_NoneType_bool, ib_NoneType_str, ib_NoneType_tuple, ib_NoneType_list, ib_NoneType_dict, ib_bool_int, ib_bool_bool, ib_bool_str, ib_bool_tuple, ib_bool_list, ib_bool_dict, ib_int_int, ib_int_bool, ib_int_str, ib_int_tuple, ib_int_list, ib_int_dict, ib_str_int, ib_str_bool, ib_str_str, ib_str_tuple, ib_str_list, ib_str_dict, ib_tuple_int, ib_tuple_bool, ib_tuple_str, ib_tuple_tuple, ib_tuple_list, ib_tuple_dict, ib_list_int, ib_list_bool, ib_list_str, ib_list_tuple, ib_list_list, ib_list_dict, ib_dict_int, ib_dict_bool, ib_dict_str, ib_dict_tuple, ib_dict_list, ib_dict_dict, Bool.not_true, Bool.not_false, true_and, and_true, decide_true, decide_false])
  rw [decide_eq_false (fun z => cf_ne F (List.map_eq_nil_iff.mp z))]
  exact q
/-- the lower numbers -/
def lows (c : List Nat) : List Nat := (List.range (c.length - 1)).map fun j => LS (c.getD (j + 1) 0) (j + 2)
theorem lows_len (c : List Nat) : (lows c).length = c.length - 1 := by unfold lows; rw [List.length_map, List.length_range]
theorem s_lowers_of {c : List Nat} (h16 : c.length ≤ 16) (hb : ∀ k, c.getD k 0 < 2 ^ 2000) (q : Q (.tup (nl (lows c)))) : m_lowers_of [.tup (nl c)] Q E := by
  unfold m_lowers_of mFn
  refine ⟨rfl, ?_⟩
  (try simp only [mSeq, mIfS, mOr, mAnd, mNot, mTest, mOp, mUn, mVar, mOwn, mC, mRet, mRetN, mNext, mAsg, mAsgO, mName, mGTup, mGCons, mGNil, mFor, mRng1, mRng2, mRng3, mCons, mNil, mPar, mParO, mParP, mDrop, mFz, mApp, mExt, mSetL, mLc, mYes, mSeqI, mOwnI, mOrI, mEnumL, mEnumT, mZip, mZipM, mOr2, mRevL, mRevT, mSl, mNoP, mP, mTup, mLst, mCb, mIf, mAndV, mOrV, mNotV, mChain, mBrk, mCnt, mNever, mAug, mCall0, mCallK0, hAdd, hSub, hInt, hIntC, hAnd, hDiv, hMod, hPow, hMul, hNeg, hCmp, hLt, hLe, hGt, hGe, hIx, hIxX, hLen, hIsi, hTuple, hList, hInt1, hAbs, D.isN, hIs, hNis, D.items, D.plain, D.kind, hEq_int, hNe_int, hEq_str, hNe_str, hEq_tups, hNe_tups, hEq_lsts, hNe_lsts, wipeE, List.map_cons, List.map_nil, List.replicate_succ, List.replicate_zero, List.cons_append, List.nil_append, List.getElem?_cons_zero, List.getElem?_cons_succ, List.set_cons_zero, List.set_cons_succ, List.length_cons, List.length_nil, Nat.reduceAdd, Nat.reduceSub, inT_int, inT_bool, inT_str, inT_tuple, inT_list, inT_dict, ib_NoneType_int, ib_NoneType_bool, ib_NoneType_str, ib_NoneType_tuple, ib_NoneType_list, ib_NoneType_dict, ib_bool_int, ib_bool_bool, ib_bool_str, ib_bool_tuple, ib_bool_list, ib_bool_dict, ib_int_int, ib_int_bool, ib_int_str, ib_int_tuple, ib_int_list, ib_int_dict, ib_str_int, ib_str_bool, ib_str_str, ib_str_tuple, ib_str_list, ib_str_dict, ib_tuple_int, ib_tuple_bool, ib_tuple_str, ib_tuple_tuple, ib_tuple_list, ib_tuple_dict, ib_list_int, ib_list_bool, ib_list_str, ib_list_tuple, ib_list_list, ib_list_dict, ib_dict_int, ib_dict_bool, ib_dict_str, ib_dict_tuple, ib_dict_list, ib_dict_dict, Bool.not_true, Bool.not_false, true_and, and_true, decide_true, decide_false])
  rw [List.length_map]
  refine ⟨by omega, by omega, by omega, by omega, by rw [rng_len]; omega, ?_⟩
  have e : (((c.length : Nat) : Int) - 1).toNat = c.length - 1 := by omega
  rw [e, rng_map]
  refine lcL_all _ (fun j => .int (LS (c.getD (j + 1) 0) (j + 2) : Nat)) (fun j hj Qd hd => ?_) ?_
  · have hj := List.mem_range.mp hj
    (try simp only [mSeq, mIfS, mOr, mAnd, mNot, mTest, mOp, mUn, mVar, mOwn, mC, mRet, mRetN, mNext, mAsg, mAsgO, mName, mGTup, mGCons, mGNil, mFor, mRng1, mRng2, mRng3, mCons, mNil, mPar, mParO, mParP, mDrop, mFz, mApp, mExt, mSetL, mLc, mYes, mSeqI, mOwnI, mOrI, mEnumL, mEnumT, mZip, mZipM, mOr2, mRevL, mRevT, mSl, mNoP, mP, mTup, mLst, mCb, mIf, mAndV, mOrV, mNotV, mChain, mBrk, mCnt, mNever, mAug, mCall0, mCallK0, hAdd, hSub, hInt, hIntC, hAnd, hDiv, hMod, hPow, hMul, hNeg, hCmp, hLt, hLe, hGt, hGe, hIx, hIxX, hLen, hIsi, hTuple, hList, hInt1, hAbs, D.isN, hIs, hNis, D.items, D.plain, D.kind, hEq_int, hNe_int, hEq_str, hNe_str, hEq_tups, hNe_tups, hEq_lsts, hNe_lsts, wipeE, List.map_cons, List.map_nil, List.replicate_succ, List.replicate_zero, List.cons_append, List.nil_append, List.getElem?_cons_zero, List.getElem?_cons_succ, List.set_cons_zero, List.set_cons_succ, List.length_cons, List.length_nil, Nat.reduceAdd, Nat.reduceSub, inT_int, inT_bool, inT_str, inT_tuple, inT_list, inT_dict, ib_NoneType_int, ib_NoneType_bool, ib_NoneType_str, ib_NoneType_tuple, ib_NoneType_list, ib_NoneType_dict, ib_bool_int, ib_bool_bool, ib_bool_str, ib_bool_tuple, ib_bool_list, ib_bool_dict, ib_int_int, ib_int_bool, ib_int_str, ib_int_tuple, ib_int_list, ib_int_dict, ib_str_int, ib_str_bool, ib_str_str, ib_str_tuple, ib_str_list, ib_str_dict, ib_tuple_int, ib_tuple_bool, ib_tuple_str, ib_tuple_tuple, ib_tuple_list, ib_tuple_dict, ib_list_int, ib_list_bool, ib_list_str, ib_list_tuple, ib_list_list, ib_list_dict, ib_dict_int, ib_dict_bool, ib_dict_str, ib_dict_tuple, ib_dict_list, ib_dict_dict, Bool.not_true, Bool.not_false, true_and, and_true, decide_true, decide_false])
    refine ⟨_, at_nl (k := j + 1) (by omega) (by omega), ?_⟩
    have e : (1 + (j : Int)) + 1 = ((j + 2 : Nat) : Int) := by omega
    rw [e]
    exact s_lower (by omega) (by omega) (hb _) hd
  · have : ((List.range (c.length - 1)).map fun j => D.int (LS (c.getD (j + 1) 0) (j + 2) : Nat)) = nl (lows c) := by
      unfold lows
      rw [nl_map]
    rw [this]
    exact q
theorem s_counts_paper {c : List Nat} (F : CF c) (q : Q (.tup [.str "fits", .tup (nl (lows c))])) : m_counts_paper [.tup (nl c)] Q E := by
  unfold m_counts_paper mFn
  refine ⟨rfl, ?_⟩
  (try simp only [mSeq, mIfS, mOr, mAnd, mNot, mTest, mOp, mUn, mVar, mOwn, mC, mRet, mRetN, mNext, mAsg, mAsgO, mName, mGTup, mGCons, mGNil, mFor, mRng1, mRng2, mRng3, mCons, mNil, mPar, mParO, mParP, mDrop, mFz, mApp, mExt, mSetL, mLc, mYes, mSeqI, mOwnI, mOrI, mEnumL, mEnumT, mZip, mZipM, mOr2, mRevL, mRevT, mSl, mNoP, mP, mTup, mLst, mCb, mIf, mAndV, mOrV, mNotV, mChain, mBrk, mCnt, mNever, mAug, mCall0, mCallK0, hAdd, hSub, hInt, hIntC, hAnd, hDiv, hMod, hPow, hMul, hNeg, hCmp, hLt, hLe, hGt, hGe, hIx, hIxX, hLen, hIsi, hTuple, hList, hInt1, hAbs, D.isN, hIs, hNis, D.items, D.plain, D.kind, hEq_int, hNe_int, hEq_str, hNe_str, hEq_tups, hNe_tups, hEq_lsts, hNe_lsts, wipeE, List.map_cons, List.map_nil, List.replicate_succ, List.replicate_zero, List.cons_append, List.nil_append, List.getElem?_cons_zero, List.getElem?_cons_succ, List.set_cons_zero, List.set_cons_succ, List.length_cons, List.length_nil, Nat.reduceAdd, Nat.reduceSub, inT_int, inT_bool, inT_str, inT_tuple, inT_list, inT_dict, ib_NoneType_int, ib_NoneType_bool, ib_NoneType_str, ib_NoneType_tuple, ib_NoneType_list, ib_NoneType_dict, ib_bool_int, ib_bool_bool, ib_bool_str, ib_bool_tuple, ib_bool_list, ib_bool_dict, ib_int_int, ib_int_bool, ib_int_str, ib_int_tuple, ib_int_list, ib_int_dict, ib_str_int, ib_str_bool, ib_str_str, ib_str_tuple, ib_str_list, ib_str_dict, ib_tuple_int, ib_tuple_bool, ib_tuple_str, ib_tuple_tuple, ib_tuple_list, ib_tuple_dict, ib_list_int, ib_list_bool, ib_list_str, ib_list_tuple, ib_list_list, ib_list_dict, ib_dict_int, ib_dict_bool, ib_dict_str, ib_dict_tuple, ib_dict_list, ib_dict_dict, Bool.not_true, Bool.not_false, true_and, and_true, decide_true, decide_false])
  refine s_lowers_of F.len (cf_big F) ?_
  (try simp only [mSeq, mIfS, mOr, mAnd, mNot, mTest, mOp, mUn, mVar, mOwn, mC, mRet, mRetN, mNext, mAsg, mAsgO, mName, mGTup, mGCons, mGNil, mFor, mRng1, mRng2, mRng3, mCons, mNil, mPar, mParO, mParP, mDrop, mFz, mApp, mExt, mSetL, mLc, mYes, mSeqI, mOwnI, mOrI, mEnumL, mEnumT, mZip, mZipM, mOr2, mRevL, mRevT, mSl, mNoP, mP, mTup, mLst, mCb, mIf, mAndV, mOrV, mNotV, mChain, mBrk, mCnt, mNever, mAug, mCall0, mCallK0, hAdd, hSub, hInt, hIntC, hAnd, hDiv, hMod, hPow, hMul, hNeg, hCmp, hLt, hLe, hGt, hGe, hIx, hIxX, hLen, hIsi, hTuple, hList, hInt1, hAbs, D.isN, hIs, hNis, D.items, D.plain, D.kind, hEq_int, hNe_int, hEq_str, hNe_str, hEq_tups, hNe_tups, hEq_lsts, hNe_lsts, wipeE, List.map_cons, List.map_nil, List.replicate_succ, List.replicate_zero, List.cons_append, List.nil_append, List.getElem?_cons_zero, List.getElem?_cons_succ, List.set_cons_zero, List.set_cons_succ, List.length_cons, List.length_nil, Nat.reduceAdd, Nat.reduceSub, inT_int, inT_bool, inT_str, inT_tuple, inT_list, inT_dict, ib_NoneType_int, ib_NoneType_bool, ib_NoneType_str, ib_NoneType_tuple, ib_NoneType_list, ib_NoneType_dict, ib_bool_int, ib_bool_bool, ib_bool_str, ib_bool_tuple, ib_bool_list, ib_bool_dict, ib_int_int, ib_int_bool, ib_int_str, ib_int_tuple, ib_int_list, ib_int_dict, ib_str_int, ib_str_bool, ib_str_str, ib_str_tuple, ib_str_list, ib_str_dict, ib_tuple_int, ib_tuple_bool, ib_tuple_str, ib_tuple_tuple, ib_tuple_list, ib_tuple_dict, ib_list_int, ib_list_bool, ib_list_str, ib_list_tuple, ib_list_list, ib_list_dict, ib_dict_int, ib_dict_bool, ib_dict_str, ib_dict_tuple, ib_dict_list, ib_dict_dict, Bool.not_true, Bool.not_false, true_and, and_true, decide_true, decide_false])
  refine .inr ?_
  rw [enum_map]
  refine forL_by (fun i env => ∃ a b, env = [.fz (.tup (nl c)), .fz (.tup (nl (lows c))), a, b]) ⟨_, _, rfl⟩ ?_ ?_
  · rintro i ⟨a, k⟩ env nx ha ⟨u, v, rfl⟩ hn
    have hl := (List.getElem?_eq_some_iff.mp ha).1
    rw [List.length_zipIdx, lows_len] at hl
    rw [List.getElem?_zipIdx] at ha
    cases ha' : (lows c)[i]? with
    | none => rw [ha'] at ha; cases ha
    | some a' =>
      rw [ha'] at ha
      simp only [Option.map_some, Option.some.injEq, Prod.mk.injEq] at ha
      obtain ⟨rfl, rfl⟩ := ha
      have hk : LS (c.getD (i + 1) 0) (i + 2) = a' := by
        unfold lows at ha'
        rw [List.getElem?_map, List.getElem?_range hl] at ha'
        exact Option.some.inj ha'
      (try simp only [mSeq, mIfS, mOr, mAnd, mNot, mTest, mOp, mUn, mVar, mOwn, mC, mRet, mRetN, mNext, mAsg, mAsgO, mName, mGTup, mGCons, mGNil, mFor, mRng1, mRng2, mRng3, mCons, mNil, mPar, mParO, mParP, mDrop, mFz, mApp, mExt, mSetL, mLc, mYes, mSeqI, mOwnI, mOrI, mEnumL, mEnumT, mZip, mZipM, mOr2, mRevL, mRevT, mSl, mNoP, mP, mTup, mLst, mCb, mIf, mAndV, mOrV, mNotV, mChain, mBrk, mCnt, mNever, mAug, mCall0, mCallK0, hAdd, hSub, hInt, hIntC, hAnd, hDiv, hMod, hPow, hMul, hNeg, hCmp, hLt, hLe, hGt, hGe, hIx, hIxX, hLen, hIsi, hTuple, hList, hInt1, hAbs, D.isN, hIs, hNis, D.items, D.plain, D.kind, hEq_int, hNe_int, hEq_str, hNe_str, hEq_tups, hNe_tups, hEq_lsts, hNe_lsts, wipeE, List.map_cons, List.map_nil, List.replicate_succ, List.replicate_zero, List.cons_append, List.nil_append, List.getElem?_cons_zero, List.getElem?_cons_succ, List.set_cons_zero, List.set_cons_succ, List.length_cons, List.length_nil, Nat.reduceAdd, Nat.reduceSub, inT_int, inT_bool, inT_str, inT_tuple, inT_list, inT_dict, ib_NoneType_int, ib_NoneType_bool, ib_NoneType_str, ib_NoneType_tuple, ib_NoneType_list, ib_NoneType_dict, ib_bool_int, ib_bool_bool, ib_bool_str, ib_bool_tuple, ib_bool_list, ib_bool_dict, ib_int_int, ib_int_bool, ib_int_str, ib_int_tuple, ib_int_list, ib_int_dict, ib_str_int, ib_str_bool, ib_str_str, ib_str_tuple, ib_str_list, ib_str_dict, ib_tuple_int, ib_tuple_bool, ib_tuple_str, ib_tuple_tuple, ib_tuple_list, ib_tuple_dict, ib_list_int, ib_list_bool, ib_list_str, ib_list_tuple, ib_list_list, ib_list_dict, ib_dict_int, ib_dict_bool, ib_dict_str, ib_dict_tuple, ib_dict_list, ib_dict_dict, Bool.not_true, Bool.not_false, true_and, and_true, decide_true, decide_false])
      refine ⟨_, at_nl (k := i) (by omega) (by omega), ?_⟩
      have := F.fit.low i (by omega)
      (try simp only [mSeq, mIfS, mOr, mAnd, mNot, mTest, mOp, mUn, mVar, mOwn, mC, mRet, mRetN, mNext, mAsg, mAsgO, mName, mGTup, mGCons, mGNil, mFor, mRng1, mRng2, mRng3, mCons, mNil, mPar, mParO, mParP, mDrop, mFz, mApp, mExt, mSetL, mLc, mYes, mSeqI, mOwnI, mOrI, mEnumL, mEnumT, mZip, mZipM, mOr2, mRevL, mRevT, mSl, mNoP, mP, mTup, mLst, mCb, mIf, mAndV, mOrV, mNotV, mChain, mBrk, mCnt, mNever, mAug, mCall0, mCallK0, hAdd, hSub, hInt, hIntC, hAnd, hDiv, hMod, hPow, hMul, hNeg, hCmp, hLt, hLe, hGt, hGe, hIx, hIxX, hLen, hIsi, hTuple, hList, hInt1, hAbs, D.isN, hIs, hNis, D.items, D.plain, D.kind, hEq_int, hNe_int, hEq_str, hNe_str, hEq_tups, hNe_tups, hEq_lsts, hNe_lsts, wipeE, List.map_cons, List.map_nil, List.replicate_succ, List.replicate_zero, List.cons_append, List.nil_append, List.getElem?_cons_zero, List.getElem?_cons_succ, List.set_cons_zero, List.set_cons_succ, List.length_cons, List.length_nil, Nat.reduceAdd, Nat.reduceSub, inT_int, inT_bool, inT_str, inT_tuple, inT_list, inT_dict, ib_NoneType_int, ib_NoneType_bool, ib_NoneType_str, ib_NoneType_tuple, ib_NoneType_list, ib_NoneType_dict, ib_bool_int, ib_bool_bool, ib_bool_str, ib_bool_tuple, ib_bool_list, ib_bool_dict, ib_int_int, ib_int_bool, ib_int_str, ib_int_tuple, ib_int_list, ib_int_dict, ib_str_int, ib_str_bool, ib_str_str, ib_str_tuple, ib_str_list, ib_str_dict, ib_tuple_int, ib_tuple_bool, ib_tuple_str, ib_tuple_tuple, ib_tuple_list, ib_tuple_dict, ib_list_int, ib_list_bool, ib_list_str, ib_list_tuple, ib_list_list, ib_list_dict, ib_dict_int, ib_dict_bool, ib_dict_str, ib_dict_tuple, ib_dict_list, ib_dict_dict, Bool.not_true, Bool.not_false, true_and, and_true, decide_true, decide_false])
      rw [decide_eq_false (by omega)]
      exact hn _ ⟨_, _, rfl⟩
  · rintro env ⟨u, v, rfl⟩
    (try simp only [mSeq, mIfS, mOr, mAnd, mNot, mTest, mOp, mUn, mVar, mOwn, mC, mRet, mRetN, mNext, mAsg, mAsgO, mName, mGTup, mGCons, mGNil, mFor, mRng1, mRng2, mRng3, mCons, mNil, mPar, mParO, mParP, mDrop, mFz, mApp, mExt, mSetL, mLc, mYes, mSeqI, mOwnI, mOrI, mEnumL, mEnumT, mZip, mZipM, mOr2, mRevL, mRevT, mSl, mNoP, mP, mTup, mLst, mCb, mIf, mAndV, mOrV, mNotV, mChain, mBrk, mCnt, mNever, mAug, mCall0, mCallK0, hAdd, hSub, hInt, hIntC, hAnd, hDiv, hMod, hPow, hMul, hNeg, hCmp, hLt, hLe, hGt, hGe, hIx, hIxX, hLen, hIsi, hTuple, hList, hInt1, hAbs, D.isN, hIs, hNis, D.items, D.plain, D.kind, hEq_int, hNe_int, hEq_str, hNe_str, hEq_tups, hNe_tups, hEq_lsts, hNe_lsts, wipeE, List.map_cons, List.map_nil, List.replicate_succ, List.replicate_zero, List.cons_append, List.nil_append, List.getElem?_cons_zero, List.getElem?_cons_succ, List.set_cons_zero, List.set_cons_succ, List.length_cons, List.length_nil, Nat.reduceAdd, Nat.reduceSub, inT_int, inT_bool, inT_str, inT_tuple, inT_list, inT_dict, ib_NoneType_int, ib_NoneType_bool, ib_NoneType_str, ib_NoneType_tuple, ib_NoneType_list, ib_NoneType_dict, ib_bool_int, ib_bool_bool, ib_bool_str, ib_bool_tuple, ib_bool_list, ib_bool_dict, ib_int_int, ib_int_bool, ib_int_str, ib_int_tuple, ib_int_list, ib_int_dict, ib_str_int, ib_str_bool, ib_str_str, ib_str_tuple, ib_str_list, ib_str_dict, ib_tuple_int, ib_tuple_bool, ib_tuple_str, ib_tuple_tuple, ib_tuple_list, ib_tuple_dict, ib_list_int, ib_list_bool, ib_list_str, ib_list_tuple, ib_list_list, ib_list_dict, ib_dict_int, ib_dict_bool, ib_dict_str, ib_dict_tuple, ib_dict_list, ib_dict_dict, Bool.not_true, Bool.not_false, true_and, and_true, decide_true, decide_false])
    exact ⟨by decide, q⟩
theorem s_judge {c : List Nat} (F : CF c) (q : Q (.tup [.str "fits", .tup (nl (lows c))])) : m_judge_counts [.tup (nl c)] Q E := by
  unfold m_judge_counts mFn
  refine ⟨rfl, ?_⟩
  (try simp only [mSeq, mIfS, mOr, mAnd, mNot, mTest, mOp, mUn, mVar, mOwn, mC, mRet, mRetN, mNext, mAsg, mAsgO, mName, mGTup, mGCons, mGNil, mFor, mRng1, mRng2, mRng3, mCons, mNil, mPar, mParO, mParP, mDrop, mFz, mApp, mExt, mSetL, mLc, mYes, mSeqI, mOwnI, mOrI, mEnumL, mEnumT, mZip, mZipM, mOr2, mRevL, mRevT, mSl, mNoP, mP, mTup, mLst, mCb, mIf, mAndV, mOrV, mNotV, mChain, mBrk, mCnt, mNever, mAug, mCall0, mCallK0, hAdd, hSub, hInt, hIntC, hAnd, hDiv, hMod, hPow, hMul, hNeg, hCmp, hLt, hLe, hGt, hGe, hIx, hIxX, hLen, hIsi, hTuple, hList, hInt1, hAbs, D.isN, hIs, hNis, D.items, D.plain, D.kind, hEq_int, hNe_int, hEq_str, hNe_str, hEq_tups, hNe_tups, hEq_lsts, hNe_lsts, wipeE, List.map_cons, List.map_nil, List.replicate_succ, List.replicate_zero, List.cons_append, List.nil_append, List.getElem?_cons_zero, List.getElem?_cons_succ, List.set_cons_zero, List.set_cons_succ, List.length_cons, List.length_nil, Nat.reduceAdd, Nat.reduceSub, inT_int, inT_bool, inT_str, inT_tuple, inT_list, inT_dict, ib_NoneType_int, ib_NoneType_bool, ib_NoneType_str, ib_NoneType_tuple, ib_NoneType_list, ib_NoneType_dict, ib_bool_int, ib_bool_bool, ib_bool_str, ib_bool_tuple, ib_bool_list, ib_bool_dict, ib_int_int, ib_int_bool, ib_int_str, ib_int_tuple, ib_int_list, ib_int_dict, ib_str_int, ib_str_bool, ib_str_str, ib_str_tuple, ib_str_list, ib_str_dict, ib_tuple_int, ib_tuple_bool, ib_tuple_str, ib_tuple_tuple, ib_tuple_list, ib_tuple_dict, ib_list_int, ib_list_bool, ib_list_str, ib_list_tuple, ib_list_list, ib_list_dict, ib_dict_int, ib_dict_bool, ib_dict_str, ib_dict_tuple, ib_dict_list, ib_dict_dict, Bool.not_true, Bool.not_false, true_and, and_true, decide_true, decide_false])
  refine s_need_firsts F ?_
  exact s_counts_paper F q
theorem s_need_fitting {c : List Nat} (F : CF c) (q : Q .non) : m_need_fitting [.tup (nl c)] Q E := by
  unfold m_need_fitting mFn
  refine ⟨rfl, ?_⟩
  (try simp only [mSeq, mIfS, mOr, mAnd, mNot, mTest, mOp, mUn, mVar, mOwn, mC, mRet, mRetN, mNext, mAsg, mAsgO, mName, mGTup, mGCons, mGNil, mFor, mRng1, mRng2, mRng3, mCons, mNil, mPar, mParO, mParP, mDrop, mFz, mApp, mExt, mSetL, mLc, mYes, mSeqI, mOwnI, mOrI, mEnumL, mEnumT, mZip, mZipM, mOr2, mRevL, mRevT, mSl, mNoP, mP, mTup, mLst, mCb, mIf, mAndV, mOrV, mNotV, mChain, mBrk, mCnt, mNever, mAug, mCall0, mCallK0, hAdd, hSub, hInt, hIntC, hAnd, hDiv, hMod, hPow, hMul, hNeg, hCmp, hLt, hLe, hGt, hGe, hIx, hIxX, hLen, hIsi, hTuple, hList, hInt1, hAbs, D.isN, hIs, hNis, D.items, D.plain, D.kind, hEq_int, hNe_int, hEq_str, hNe_str, hEq_tups, hNe_tups, hEq_lsts, hNe_lsts, wipeE, List.map_cons, List.map_nil, List.replicate_succ, List.replicate_zero, List.cons_append, List.nil_append, List.getElem?_cons_zero, List.getElem?_cons_succ, List.set_cons_zero, List.set_cons_succ, List.length_cons, List.length_nil, Nat.reduceAdd, Nat.reduceSub, inT_int, inT_bool, inT_str, inT_tuple, inT_list, inT_dict, ib_NoneType_int, ib_NoneType_bool, ib_NoneType_str, ib_NoneType_tuple, ib_NoneType_list, ib_NoneType_dict, ib_bool_int, ib_bool_bool, ib_bool_str, ib_bool_tuple, ib_bool_list, ib_bool_dict, ib_int_int, ib_int_bool, ib_int_str, ib_int_tuple, ib_int_list, ib_int_dict, ib_str_int, ib_str_bool, ib_str_str, ib_str_tuple, ib_str_list, ib_str_dict, ib_tuple_int, ib_tuple_bool, ib_tuple_str, ib_tuple_tuple, ib_tuple_list, ib_tuple_dict, ib_list_int, ib_list_bool, ib_list_str, ib_list_tuple, ib_list_list, ib_list_dict, ib_dict_int, ib_dict_bool, ib_dict_str, ib_dict_tuple, ib_dict_list, ib_dict_dict, Bool.not_true, Bool.not_false, true_and, and_true, decide_true, decide_false])
  refine s_need_rows F ?_
  refine s_judge F ?_
  (try simp only [mSeq, mIfS, mOr, mAnd, mNot, mTest, mOp, mUn, mVar, mOwn, mC, mRet, mRetN, mNext, mAsg, mAsgO, mName, mGTup, mGCons, mGNil, mFor, mRng1, mRng2, mRng3, mCons, mNil, mPar, mParO, mParP, mDrop, mFz, mApp, mExt, mSetL, mLc, mYes, mSeqI, mOwnI, mOrI, mEnumL, mEnumT, mZip, mZipM, mOr2, mRevL, mRevT, mSl, mNoP, mP, mTup, mLst, mCb, mIf, mAndV, mOrV, mNotV, mChain, mBrk, mCnt, mNever, mAug, mCall0, mCallK0, hAdd, hSub, hInt, hIntC, hAnd, hDiv, hMod, hPow, hMul, hNeg, hCmp, hLt, hLe, hGt, hGe, hIx, hIxX, hLen, hIsi, hTuple, hList, hInt1, hAbs, D.isN, hIs, hNis, D.items, D.plain, D.kind, hEq_int, hNe_int, hEq_str, hNe_str, hEq_tups, hNe_tups, hEq_lsts, hNe_lsts, wipeE, List.map_cons, List.map_nil, List.replicate_succ, List.replicate_zero, List.cons_append, List.nil_append, List.getElem?_cons_zero, List.getElem?_cons_succ, List.set_cons_zero, List.set_cons_succ, List.length_cons, List.length_nil, Nat.reduceAdd, Nat.reduceSub, inT_int, inT_bool, inT_str, inT_tuple, inT_list, inT_dict, ib_NoneType_int, ib_NoneType_bool, ib_NoneType_str, ib_NoneType_tuple, ib_NoneType_list, ib_NoneType_dict, ib_bool_int, ib_bool_bool, ib_bool_str, ib_bool_tuple, ib_bool_list, ib_bool_dict, ib_int_int, ib_int_bool, ib_int_str, ib_int_tuple, ib_int_list, ib_int_dict, ib_str_int, ib_str_bool, ib_str_str, ib_str_tuple, ib_str_list, ib_str_dict, ib_tuple_int, ib_tuple_bool, ib_tuple_str, ib_tuple_tuple, ib_tuple_list, ib_tuple_dict, ib_list_int, ib_list_bool, ib_list_str, ib_list_tuple, ib_list_list, ib_list_dict, ib_dict_int, ib_dict_bool, ib_dict_str, ib_dict_tuple, ib_dict_list, ib_dict_dict, Bool.not_true, Bool.not_false, true_and, and_true, decide_true, decide_false])
  refine ⟨_, atI_nat' (i := 0) rfl, ?_⟩
  (try simp only [mSeq, mIfS, mOr, mAnd, mNot, mTest, mOp, mUn, mVar, mOwn, mC, mRet, mRetN, mNext, mAsg, mAsgO, mName, mGTup, mGCons, mGNil, mFor, mRng1, mRng2, mRng3, mCons, mNil, mPar, mParO, mParP, mDrop, mFz, mApp, mExt, mSetL, mLc, mYes, mSeqI, mOwnI, mOrI, mEnumL, mEnumT, mZip, mZipM, mOr2, mRevL, mRevT, mSl, mNoP, mP, mTup, mLst, mCb, mIf, mAndV, mOrV, mNotV, mChain, mBrk, mCnt, mNever, mAug, mCall0, mCallK0, hAdd, hSub, hInt, hIntC, hAnd, hDiv, hMod, hPow, hMul, hNeg, hCmp, hLt, hLe, hGt, hGe, hIx, hIxX, hLen, hIsi, hTuple, hList, hInt1, hAbs, D.isN, hIs, hNis, D.items, D.plain, D.kind, hEq_int, hNe_int, hEq_str, hNe_str, hEq_tups, hNe_tups, hEq_lsts, hNe_lsts, wipeE, List.map_cons, List.map_nil, List.replicate_succ, List.replicate_zero, List.cons_append, List.nil_append, List.getElem?_cons_zero, List.getElem?_cons_succ, List.set_cons_zero, List.set_cons_succ, List.length_cons, List.length_nil, Nat.reduceAdd, Nat.reduceSub, inT_int, inT_bool, inT_str, inT_tuple, inT_list, inT_dict, ib_NoneType_int, ib_NoneType_bool, ib_NoneType_str, ib_NoneType_tuple, ib_NoneType_list, ib_NoneType_dict, ib_bool_int, ib_bool_bool, ib_bool_str, ib_bool_tuple, ib_bool_list, ib_bool_dict, ib_int_int, ib_int_bool, ib_int_str, ib_int_tuple, ib_int_list, ib_int_dict, ib_str_int, ib_str_bool, ib_str_str, ib_str_tuple, ib_str_list, ib_str_dict, ib_tuple_int, ib_tuple_bool, ib_tuple_str, ib_tuple_tuple, ib_tuple_list, ib_tuple_dict, ib_list_int, ib_list_bool, ib_list_str, ib_list_tuple, ib_list_list, ib_list_dict, ib_dict_int, ib_dict_bool, ib_dict_str, ib_dict_tuple, ib_dict_list, ib_dict_dict, Bool.not_true, Bool.not_false, true_and, and_true, decide_true, decide_false])
  exact q
/-! ### rests -/
theorem rst_ne (c h : List Int) : ∃ x r, rst c h = x :: r := by
  cases c with
  | nil => exact ⟨0, [], rfl⟩
  | cons a c => cases h with
    | nil => exact ⟨0, [], rfl⟩
    | cons b h => exact ⟨_, _, rfl⟩
theorem drop_cons {c : List Int} {i : Nat} (h : i < c.length) : c.drop i = c.getD i 0 :: c.drop (i + 1) := by
  rw [List.getD_eq_getElem?_getD, List.getElem?_eq_getElem h]
  exact List.drop_eq_getElem_cons h
theorem il_rev (c : List Int) : (il c).reverse = il c.reverse := by rw [← List.map_reverse]
theorem rev_getI {c : List Int} {i : Nat} {a : Int} (h : c.reverse[i]? = some a) : i < c.length ∧ a = c.getD (c.length - 1 - i) 0 := by
  have hl := (List.getElem?_eq_some_iff.mp h).1
  rw [List.length_reverse] at hl
  refine ⟨hl, ?_⟩
  rw [List.getElem?_reverse hl] at h
  rw [List.getD_eq_getElem?_getD, h]
  rfl
/-- the body of rests_by, as several defs have it -/
theorem w_rests {c h : List Int} {De : MD} (hl : c.length = h.length) (h16 : c.length ≤ 16) (q : ∀ a b, De.nx [.fz (.tup (il c)), .fz (.tup (il h)), .ow (.lst (il (rst c h).reverse)), a, b]) :
    forL (mGTup 2 (mGCons (mName 3) (mGCons (mName 4) mGNil))) (mApp 2 (mOp hSub (mOp hSub (mVar 3) (mVar 4)) (mOp hIx (mOwn 2) (mUn hNeg (mC (.int 1)))))) De (zipD (il c.reverse) (il h.reverse)) [.fz (.tup (il c)), .fz (.tup (il h)), .ow (.lst [.int 0]), .un, .un] := by
  rw [zip_map]
  refine forL_by (fun i env => i ≤ c.length ∧ ∃ a b, env = [.fz (.tup (il c)), .fz (.tup (il h)), .ow (.lst (il (rst (c.drop (c.length - i)) (h.drop (c.length - i))).reverse)), a, b]) ⟨Nat.zero_le _, .un, .un, ?_⟩ ?_ ?_
  · rw [Nat.sub_zero, List.drop_length, show h.drop c.length = [] by rw [hl, List.drop_length]]
    rfl
  · rintro i ⟨x, y⟩ env nx hx ⟨hi, a, b, rfl⟩ hn
    rw [List.getElem?_zip_eq_some] at hx
    obtain ⟨h1, h2⟩ := rev_getI hx.1
    obtain ⟨h3, h4⟩ := rev_getI hx.2
    obtain ⟨x0, r, hr⟩ := rst_ne (c.drop (c.length - i)) (h.drop (c.length - i))
    (try simp only [mSeq, mIfS, mOr, mAnd, mNot, mTest, mOp, mUn, mVar, mOwn, mC, mRet, mRetN, mNext, mAsg, mAsgO, mName, mGTup, mGCons, mGNil, mFor, mRng1, mRng2, mRng3, mCons, mNil, mPar, mParO, mParP, mDrop, mFz, mApp, mExt, mSetL, mLc, mYes, mSeqI, mOwnI, mOrI, mEnumL, mEnumT, mZip, mZipM, mOr2, mRevL, mRevT, mSl, mNoP, mP, mTup, mLst, mCb, mIf, mAndV, mOrV, mNotV, mChain, mBrk, mCnt, mNever, mAug, mCall0, mCallK0, hAdd, hSub, hInt, hIntC, hAnd, hDiv, hMod, hPow, hMul, hNeg, hCmp, hLt, hLe, hGt, hGe, hIx, hIxX, hLen, hIsi, hTuple, hList, hInt1, hAbs, D.isN, hIs, hNis, D.items, D.plain, D.kind, hEq_int, hNe_int, hEq_str, hNe_str, hEq_tups, hNe_tups, hEq_lsts, hNe_lsts, wipeE, List.map_cons, List.map_nil, List.replicate_succ, List.replicate_zero, List.cons_append, List.nil_append, List.getElem?_cons_zero, List.getElem?_cons_succ, List.set_cons_zero, List.set_cons_succ, List.length_cons, List.length_nil, Nat.reduceAdd, Nat.reduceSub, inT_int, inT_bool, inT_str, inT_tuple, inT_list, inT_dict, ib_NoneType_int, ib_NoneType_bool, ib_NoneType_str, ib_NoneType_tuple, ib_NoneType_list, ib_NoneType_dict, ib_bool_int, ib_bool_bool, ib_bool_str, ib_bool_tuple, ib_bool_list, ib_bool_dict, ib_int_int, ib_int_bool, ib_int_str, ib_int_tuple, ib_int_list, ib_int_dict, ib_str_int, ib_str_bool, ib_str_str, ib_str_tuple, ib_str_list, ib_str_dict, ib_tuple_int, ib_tuple_bool, ib_tuple_str, ib_tuple_tuple, ib_tuple_list, ib_tuple_dict, ib_list_int, ib_list_bool, ib_list_str, ib_list_tuple, ib_list_list, ib_list_dict, ib_dict_int, ib_dict_bool, ib_dict_str, ib_dict_tuple, ib_dict_list, ib_dict_dict, Bool.not_true, Bool.not_false, true_and, and_true, decide_true, decide_false])
    refine ⟨.int x0, ?_, ?_⟩
    · rw [hr, List.reverse_cons]
      exact atI_neg1 (by rw [il_app, List.getLast?_append]; rfl)
    · (try simp only [mSeq, mIfS, mOr, mAnd, mNot, mTest, mOp, mUn, mVar, mOwn, mC, mRet, mRetN, mNext, mAsg, mAsgO, mName, mGTup, mGCons, mGNil, mFor, mRng1, mRng2, mRng3, mCons, mNil, mPar, mParO, mParP, mDrop, mFz, mApp, mExt, mSetL, mLc, mYes, mSeqI, mOwnI, mOrI, mEnumL, mEnumT, mZip, mZipM, mOr2, mRevL, mRevT, mSl, mNoP, mP, mTup, mLst, mCb, mIf, mAndV, mOrV, mNotV, mChain, mBrk, mCnt, mNever, mAug, mCall0, mCallK0, hAdd, hSub, hInt, hIntC, hAnd, hDiv, hMod, hPow, hMul, hNeg, hCmp, hLt, hLe, hGt, hGe, hIx, hIxX, hLen, hIsi, hTuple, hList, hInt1, hAbs, D.isN, hIs, hNis, D.items, D.plain, D.kind, hEq_int, hNe_int, hEq_str, hNe_str, hEq_tups, hNe_tups, hEq_lsts, hNe_lsts, wipeE, List.map_cons, List.map_nil, List.replicate_succ, List.replicate_zero, List.cons_append, List.nil_append, List.getElem?_cons_zero, List.getElem?_cons_succ, List.set_cons_zero, List.set_cons_succ, List.length_cons, List.length_nil, Nat.reduceAdd, Nat.reduceSub, inT_int, inT_bool, inT_str, inT_tuple, inT_list, inT_dict, ib_NoneType_int, ib_NoneType_bool, ib_NoneType_str, ib_NoneType_tuple, ib_NoneType_list, ib_NoneType_dict, ib_bool_int, ib_bool_bool, ib_bool_str, ib_bool_tuple, ib_bool_list, ib_bool_dict, ib_int_int, ib_int_bool, ib_int_str, ib_int_tuple, ib_int_list, ib_int_dict, ib_str_int, ib_str_bool, ib_str_str, ib_str_tuple, ib_str_list, ib_str_dict, ib_tuple_int, ib_tuple_bool, ib_tuple_str, ib_tuple_tuple, ib_tuple_list, ib_tuple_dict, ib_list_int, ib_list_bool, ib_list_str, ib_list_tuple, ib_list_list, ib_list_dict, ib_dict_int, ib_dict_bool, ib_dict_str, ib_dict_tuple, ib_dict_list, ib_dict_dict, Bool.not_true, Bool.not_false, true_and, and_true, decide_true, decide_false])
      refine ⟨?_, hn _ ⟨h1, .fz (.int x), .fz (.int y), ?_⟩⟩
      · have l1 : (c.drop (c.length - i)).length = (h.drop (c.length - i)).length := by rw [List.length_drop, List.length_drop, hl]
        rw [List.length_map, List.length_reverse, rst_len l1, List.length_drop]
        omega
      · have d1 : c.length - i = c.length - (i + 1) + 1 := by omega
        have d2 : c.length - 1 - i = c.length - (i + 1) := by omega
        have d3 : h.length - 1 - i = c.length - (i + 1) := by omega
        have hx0 : (rst (c.drop (c.length - i)) (h.drop (c.length - i))).getD 0 0 = x0 := by rw [hr]; rfl
        have key : rst (c.drop (c.length - (i + 1))) (h.drop (c.length - (i + 1))) = (x - y - x0) :: rst (c.drop (c.length - i)) (h.drop (c.length - i)) := by
          rw [drop_cons (c := c) (i := c.length - (i + 1)) (by omega), drop_cons (c := h) (i := c.length - (i + 1)) (by omega), ← d1]
          show (c.getD (c.length - (i + 1)) 0 - h.getD (c.length - (i + 1)) 0 - (rst (c.drop (c.length - i)) (h.drop (c.length - i))).getD 0 0) :: _ = _
          rw [hx0, show x = _ from h2, show y = _ from h4, d2, d3]
        rw [key, List.reverse_cons, show il ((rst (c.drop (c.length - i)) (h.drop (c.length - i))).reverse ++ [x - y - x0]) = il ((rst (c.drop (c.length - i)) (h.drop (c.length - i))).reverse) ++ [D.int (x - y - x0)] from List.map_append ..]
  · rintro env ⟨_, a, b, rfl⟩
    have e : (c.reverse.zip h.reverse).length = c.length := by rw [List.length_zip, List.length_reverse, List.length_reverse]; omega
    rw [e, Nat.sub_self, List.drop_zero, List.drop_zero]
    exact q a b
theorem s_rests_by {c h : List Int} (hl : c.length = h.length) (h16 : c.length ≤ 16) (q : Q (.tup (il (rst c h)))) : m_rests_by [.tup (il c), .tup (il h)] Q E := by
  unfold m_rests_by mFn
  refine ⟨rfl, ?_⟩
  (try simp only [mSeq, mIfS, mOr, mAnd, mNot, mTest, mOp, mUn, mVar, mOwn, mC, mRet, mRetN, mNext, mAsg, mAsgO, mName, mGTup, mGCons, mGNil, mFor, mRng1, mRng2, mRng3, mCons, mNil, mPar, mParO, mParP, mDrop, mFz, mApp, mExt, mSetL, mLc, mYes, mSeqI, mOwnI, mOrI, mEnumL, mEnumT, mZip, mZipM, mOr2, mRevL, mRevT, mSl, mNoP, mP, mTup, mLst, mCb, mIf, mAndV, mOrV, mNotV, mChain, mBrk, mCnt, mNever, mAug, mCall0, mCallK0, hAdd, hSub, hInt, hIntC, hAnd, hDiv, hMod, hPow, hMul, hNeg, hCmp, hLt, hLe, hGt, hGe, hIx, hIxX, hLen, hIsi, hTuple, hList, hInt1, hAbs, D.isN, hIs, hNis, D.items, D.plain, D.kind, hEq_int, hNe_int, hEq_str, hNe_str, hEq_tups, hNe_tups, hEq_lsts, hNe_lsts, wipeE, List.map_cons, List.map_nil, List.replicate_succ, List.replicate_zero, List.cons_append, List.nil_append, List.getElem?_cons_zero, List.getElem?_cons_succ, List.set_cons_zero, List.set_cons_succ, List.length_cons, List.length_nil, Nat.reduceAdd, Nat.reduceSub, inT_int, inT_bool, inT_str, inT_tuple, inT_list, inT_dict, ib_NoneType_int, ib_NoneType_bool, ib_NoneType_str, ib_NoneType_tuple, ib_NoneType_list, ib_NoneType_dict, ib_bool_int, ib_bool_bool, ib_bool_str, ib_bool_tuple, ib_bool_list, ib_bool_dict, ib_int_int, ib_int_bool, ib_int_str, ib_int_tuple, ib_int_list, ib_int_dict, ib_str_int, ib_str_bool, ib_str_str, ib_str_tuple, ib_str_list, ib_str_dict, ib_tuple_int, ib_tuple_bool, ib_tuple_str, ib_tuple_tuple, ib_tuple_list, ib_tuple_dict, ib_list_int, ib_list_bool, ib_list_str, ib_list_tuple, ib_list_list, ib_list_dict, ib_dict_int, ib_dict_bool, ib_dict_str, ib_dict_tuple, ib_dict_list, ib_dict_dict, Bool.not_true, Bool.not_false, true_and, and_true, decide_true, decide_false])
  refine ⟨by omega, .inr (.inr ?_)⟩
  rw [il_rev, il_rev]
  refine w_rests hl h16 fun a b => ?_
  (try simp only [mSeq, mIfS, mOr, mAnd, mNot, mTest, mOp, mUn, mVar, mOwn, mC, mRet, mRetN, mNext, mAsg, mAsgO, mName, mGTup, mGCons, mGNil, mFor, mRng1, mRng2, mRng3, mCons, mNil, mPar, mParO, mParP, mDrop, mFz, mApp, mExt, mSetL, mLc, mYes, mSeqI, mOwnI, mOrI, mEnumL, mEnumT, mZip, mZipM, mOr2, mRevL, mRevT, mSl, mNoP, mP, mTup, mLst, mCb, mIf, mAndV, mOrV, mNotV, mChain, mBrk, mCnt, mNever, mAug, mCall0, mCallK0, hAdd, hSub, hInt, hIntC, hAnd, hDiv, hMod, hPow, hMul, hNeg, hCmp, hLt, hLe, hGt, hGe, hIx, hIxX, hLen, hIsi, hTuple, hList, hInt1, hAbs, D.isN, hIs, hNis, D.items, D.plain, D.kind, hEq_int, hNe_int, hEq_str, hNe_str, hEq_tups, hNe_tups, hEq_lsts, hNe_lsts, wipeE, List.map_cons, List.map_nil, List.replicate_succ, List.replicate_zero, List.cons_append, List.nil_append, List.getElem?_cons_zero, List.getElem?_cons_succ, List.set_cons_zero, List.set_cons_succ, List.length_cons, List.length_nil, Nat.reduceAdd, Nat.reduceSub, inT_int, inT_bool, inT_str, inT_tuple, inT_list, inT_dict, ib_NoneType_int, ib_NoneType_bool, ib_NoneType_str, ib_NoneType_tuple, ib_NoneType_list, ib_NoneType_dict, ib_bool_int, ib_bool_bool, ib_bool_str, ib_bool_tuple, ib_bool_list, ib_bool_dict, ib_int_int, ib_int_bool, ib_int_str, ib_int_tuple, ib_int_list, ib_int_dict, ib_str_int, ib_str_bool, ib_str_str, ib_str_tuple, ib_str_list, ib_str_dict, ib_tuple_int, ib_tuple_bool, ib_tuple_str, ib_tuple_tuple, ib_tuple_list, ib_tuple_dict, ib_list_int, ib_list_bool, ib_list_str, ib_list_tuple, ib_list_list, ib_list_dict, ib_dict_int, ib_dict_bool, ib_dict_str, ib_dict_tuple, ib_dict_list, ib_dict_dict, Bool.not_true, Bool.not_false, true_and, and_true, decide_true, decide_false])
  refine .inl ?_
  rw [il_rev, List.reverse_reverse]
  exact q
/-! ### the least rests -/
theorem s_least_rest {n s : Nat} (h2 : 1 ≤ s) (h3 : s ≤ 60) (h4 : n < 2 ^ 2000) (q : Q (.int (LP n s : Nat))) : m_least_rest [.int n, .int s] Q E := by
  unfold m_least_rest mFn
  refine ⟨rfl, ?_⟩
  have hle := LP_le (n := n) h2
  (try simp only [mSeq, mIfS, mOr, mAnd, mNot, mTest, mOp, mUn, mVar, mOwn, mC, mRet, mRetN, mNext, mAsg, mAsgO, mName, mGTup, mGCons, mGNil, mFor, mRng1, mRng2, mRng3, mCons, mNil, mPar, mParO, mParP, mDrop, mFz, mApp, mExt, mSetL, mLc, mYes, mSeqI, mOwnI, mOrI, mEnumL, mEnumT, mZip, mZipM, mOr2, mRevL, mRevT, mSl, mNoP, mP, mTup, mLst, mCb, mIf, mAndV, mOrV, mNotV, mChain, mBrk, mCnt, mNever, mAug, mCall0, mCallK0, hAdd, hSub, hInt, hIntC, hAnd, hDiv, hMod, hPow, hMul, hNeg, hCmp, hLt, hLe, hGt, hGe, hIx, hIxX, hLen, hIsi, hTuple, hList, hInt1, hAbs, D.isN, hIs, hNis, D.items, D.plain, D.kind, hEq_int, hNe_int, hEq_str, hNe_str, hEq_tups, hNe_tups, hEq_lsts, hNe_lsts, wipeE, List.map_cons, List.map_nil, List.replicate_succ, List.replicate_zero, List.cons_append, List.nil_append, List.getElem?_cons_zero, List.getElem?_cons_succ, List.set_cons_zero, List.set_cons_succ, List.length_cons, List.length_nil, Nat.reduceAdd, Nat.reduceSub, inT_int, inT_bool, inT_str, inT_tuple, inT_list, inT_dict, ib_NoneType_int, ib_NoneType_bool, ib_NoneType_str, ib_NoneType_tuple, ib_NoneType_list, ib_NoneType_dict, ib_bool_int, ib_bool_bool, ib_bool_str, ib_bool_tuple, ib_bool_list, ib_bool_dict, ib_int_int, ib_int_bool, ib_int_str, ib_int_tuple, ib_int_list, ib_int_dict, ib_str_int, ib_str_bool, ib_str_str, ib_str_tuple, ib_str_list, ib_str_dict, ib_tuple_int, ib_tuple_bool, ib_tuple_str, ib_tuple_tuple, ib_tuple_list, ib_tuple_dict, ib_list_int, ib_list_bool, ib_list_str, ib_list_tuple, ib_list_list, ib_list_dict, ib_dict_int, ib_dict_bool, ib_dict_str, ib_dict_tuple, ib_dict_list, ib_dict_dict, Bool.not_true, Bool.not_false, true_and, and_true, decide_true, decide_false])
  unfold mWhile
  refine ⟨fun m env => ∃ lo hi : Nat, ∃ x, env = [.fz (.int (n : Int)), .fz (.int (s : Int)), .fz (.int (lo : Int)), .fz (.int (hi : Int)), x] ∧ lo ≤ LP n s ∧ LP n s ≤ hi ∧ hi ≤ n ∧ m = hi - lo, ⟨n, 0, n, .un, rfl, Nat.zero_le _, hle, Nat.le_refl _, rfl⟩, ?_⟩
  rintro m env ⟨lo, hi, x, rfl, h5, h6, h7, rfl⟩
  (try simp only [mSeq, mIfS, mOr, mAnd, mNot, mTest, mOp, mUn, mVar, mOwn, mC, mRet, mRetN, mNext, mAsg, mAsgO, mName, mGTup, mGCons, mGNil, mFor, mRng1, mRng2, mRng3, mCons, mNil, mPar, mParO, mParP, mDrop, mFz, mApp, mExt, mSetL, mLc, mYes, mSeqI, mOwnI, mOrI, mEnumL, mEnumT, mZip, mZipM, mOr2, mRevL, mRevT, mSl, mNoP, mP, mTup, mLst, mCb, mIf, mAndV, mOrV, mNotV, mChain, mBrk, mCnt, mNever, mAug, mCall0, mCallK0, hAdd, hSub, hInt, hIntC, hAnd, hDiv, hMod, hPow, hMul, hNeg, hCmp, hLt, hLe, hGt, hGe, hIx, hIxX, hLen, hIsi, hTuple, hList, hInt1, hAbs, D.isN, hIs, hNis, D.items, D.plain, D.kind, hEq_int, hNe_int, hEq_str, hNe_str, hEq_tups, hNe_tups, hEq_lsts, hNe_lsts, wipeE, List.map_cons, List.map_nil, List.replicate_succ, List.replicate_zero, List.cons_append, List.nil_append, List.getElem?_cons_zero, List.getElem?_cons_succ, List.set_cons_zero, List.set_cons_succ, List.length_cons, List.length_nil, Nat.reduceAdd, Nat.reduceSub, inT_int, inT_bool, inT_str, inT_tuple, inT_list, inT_dict, ib_NoneType_int, ib_NoneType_bool, ib_NoneType_str, ib_NoneType_tuple, ib_NoneType_list, ib_NoneType_dict, ib_bool_int, ib_bool_bool, ib_bool_str, ib_bool_tuple, ib_bool_list, ib_bool_dict, ib_int_int, ib_int_bool, ib_int_str, ib_int_tuple, ib_int_list, ib_int_dict, ib_str_int, ib_str_bool, ib_str_str, ib_str_tuple, ib_str_list, ib_str_dict, ib_tuple_int, ib_tuple_bool, ib_tuple_str, ib_tuple_tuple, ib_tuple_list, ib_tuple_dict, ib_list_int, ib_list_bool, ib_list_str, ib_list_tuple, ib_list_list, ib_list_dict, ib_dict_int, ib_dict_bool, ib_dict_str, ib_dict_tuple, ib_dict_list, ib_dict_dict, Bool.not_true, Bool.not_false, true_and, and_true, decide_true, decide_false])
  by_cases hb : (lo : Int) < (hi : Int)
  · rw [decide_eq_true hb]
    refine ⟨fun env2 => ∃ lo2 hi2 : Nat, ∃ x, env2 = [.fz (.int (n : Int)), .fz (.int (s : Int)), .fz (.int (lo2 : Int)), .fz (.int (hi2 : Int)), x] ∧ lo2 ≤ LP n s ∧ LP n s ≤ hi2 ∧ hi2 ≤ n ∧ hi2 - lo2 < hi - lo, ?_, ?_⟩
    · rintro env2 ⟨lo2, hi2, x, rfl, b, c, d, e⟩
      exact ⟨hi2 - lo2, e, lo2, hi2, x, rfl, b, c, d, rfl⟩
    · have em : ((lo : Int) + (hi : Int)) / 2 = (((lo + hi) / 2 : Nat) : Int) := by omega
      generalize hmid : (lo + hi) / 2 = mid at em
      have m1 : lo ≤ mid := by omega
      have m2 : mid < hi := by omega
      (try simp only [mSeq, mIfS, mOr, mAnd, mNot, mTest, mOp, mUn, mVar, mOwn, mC, mRet, mRetN, mNext, mAsg, mAsgO, mName, mGTup, mGCons, mGNil, mFor, mRng1, mRng2, mRng3, mCons, mNil, mPar, mParO, mParP, mDrop, mFz, mApp, mExt, mSetL, mLc, mYes, mSeqI, mOwnI, mOrI, mEnumL, mEnumT, mZip, mZipM, mOr2, mRevL, mRevT, mSl, mNoP, mP, mTup, mLst, mCb, mIf, mAndV, mOrV, mNotV, mChain, mBrk, mCnt, mNever, mAug, mCall0, mCallK0, hAdd, hSub, hInt, hIntC, hAnd, hDiv, hMod, hPow, hMul, hNeg, hCmp, hLt, hLe, hGt, hGe, hIx, hIxX, hLen, hIsi, hTuple, hList, hInt1, hAbs, D.isN, hIs, hNis, D.items, D.plain, D.kind, hEq_int, hNe_int, hEq_str, hNe_str, hEq_tups, hNe_tups, hEq_lsts, hNe_lsts, wipeE, List.map_cons, List.map_nil, List.replicate_succ, List.replicate_zero, List.cons_append, List.nil_append, List.getElem?_cons_zero, List.getElem?_cons_succ, List.set_cons_zero, List.set_cons_succ, List.length_cons, List.length_nil, Nat.reduceAdd, Nat.reduceSub, inT_int, inT_bool, inT_str, inT_tuple, inT_list, inT_dict, ib_NoneType_int, ib_NoneType_bool, ib_NoneType_str, ib_NoneType_tuple, ib_NoneType_list, ib_NoneType_dict, ib_bool_int, ib_bool_bool, ib_bool_str, ib_bool_tuple, ib_bool_list, ib_bool_dict, ib_int_int, ib_int_bool, ib_int_str, ib_int_tuple, ib_int_list, ib_int_dict, ib_str_int, ib_str_bool, ib_str_str, ib_str_tuple, ib_str_list, ib_str_dict, ib_tuple_int, ib_tuple_bool, ib_tuple_str, ib_tuple_tuple, ib_tuple_list, ib_tuple_dict, ib_list_int, ib_list_bool, ib_list_str, ib_list_tuple, ib_list_list, ib_list_dict, ib_dict_int, ib_dict_bool, ib_dict_str, ib_dict_tuple, ib_dict_list, ib_dict_dict, Bool.not_true, Bool.not_false, true_and, and_true, decide_true, decide_false])
      refine ⟨divW (m := 2) (b := 2) (by decide) (by decide), ?_⟩
      rw [em]
      have e5 : (n : Int) - (mid : Int) = ((n - mid : Nat) : Int) := by omega
      rw [e5]
      refine s_lower h2 h3 (by omega) ?_
      (try simp only [mSeq, mIfS, mOr, mAnd, mNot, mTest, mOp, mUn, mVar, mOwn, mC, mRet, mRetN, mNext, mAsg, mAsgO, mName, mGTup, mGCons, mGNil, mFor, mRng1, mRng2, mRng3, mCons, mNil, mPar, mParO, mParP, mDrop, mFz, mApp, mExt, mSetL, mLc, mYes, mSeqI, mOwnI, mOrI, mEnumL, mEnumT, mZip, mZipM, mOr2, mRevL, mRevT, mSl, mNoP, mP, mTup, mLst, mCb, mIf, mAndV, mOrV, mNotV, mChain, mBrk, mCnt, mNever, mAug, mCall0, mCallK0, hAdd, hSub, hInt, hIntC, hAnd, hDiv, hMod, hPow, hMul, hNeg, hCmp, hLt, hLe, hGt, hGe, hIx, hIxX, hLen, hIsi, hTuple, hList, hInt1, hAbs, D.isN, hIs, hNis, D.items, D.plain, D.kind, hEq_int, hNe_int, hEq_str, hNe_str, hEq_tups, hNe_tups, hEq_lsts, hNe_lsts, wipeE, List.map_cons, List.map_nil, List.replicate_succ, List.replicate_zero, List.cons_append, List.nil_append, List.getElem?_cons_zero, List.getElem?_cons_succ, List.set_cons_zero, List.set_cons_succ, List.length_cons, List.length_nil, Nat.reduceAdd, Nat.reduceSub, inT_int, inT_bool, inT_str, inT_tuple, inT_list, inT_dict, ib_NoneType_int, ib_NoneType_bool, ib_NoneType_str, ib_NoneType_tuple, ib_NoneType_list, ib_NoneType_dict, ib_bool_int, ib_bool_bool, ib_bool_str, ib_bool_tuple, ib_bool_list, ib_bool_dict, ib_int_int, ib_int_bool, ib_int_str, ib_int_tuple, ib_int_list, ib_int_dict, ib_str_int, ib_str_bool, ib_str_str, ib_str_tuple, ib_str_list, ib_str_dict, ib_tuple_int, ib_tuple_bool, ib_tuple_str, ib_tuple_tuple, ib_tuple_list, ib_tuple_dict, ib_list_int, ib_list_bool, ib_list_str, ib_list_tuple, ib_list_list, ib_list_dict, ib_dict_int, ib_dict_bool, ib_dict_str, ib_dict_tuple, ib_dict_list, ib_dict_dict, Bool.not_true, Bool.not_false, true_and, and_true, decide_true, decide_false])
      by_cases hc : ((LS (n - mid) s : Nat) : Int) ≤ (mid : Int)
      · rw [decide_eq_true hc]
        have hle : LS (n - mid) s ≤ mid := by omega
        exact ⟨lo, mid, _, rfl, h5, LP_least h2 hle, by omega, by omega⟩
      · rw [decide_eq_false hc]
        have : mid < LP n s := by
          apply Classical.byContradiction
          intro q
          have r1 := LP_rest (n := n) h2
          have r2 : LS (n - mid) s ≤ LS (n - LP n s) s := LS_mono h2 (by omega)
          omega
        exact ⟨mid + 1, hi, _, rfl, this, h6, h7, by omega⟩
  · rw [decide_eq_false hb]
    have : lo = LP n s := by omega
    subst this
    exact q
def lst (c : List Nat) : List Nat := (List.range (c.length + 1)).map (mm c)
theorem lst_len (c : List Nat) : (lst c).length = c.length + 1 := by unfold lst; rw [List.length_map, List.length_range]
theorem lst_at {c : List Nat} {k : Nat} (hk : k ≤ c.length) : (lst c).getD k 0 = mm c k := by
  unfold lst
  rw [List.getD_eq_getElem?_getD, List.getElem?_map, List.getElem?_range (by omega)]
  rfl
theorem lst_eq {c : List Nat} (F : Fits c) : lst c = [1] ++ (List.range (c.length - 1)).map (fun j => LP (c.getD (j + 1) 0) (j + 2)) ++ [0] := by
  have h1 := F.ne
  unfold lst
  obtain ⟨n, hn⟩ : ∃ n, c.length = n + 1 := ⟨c.length - 1, by omega⟩
  rw [hn, List.range_succ, List.map_append, List.range_succ_eq_map, List.map_cons, List.map_map]
  show [mm c 0] ++ _ ++ [mm c (n + 1)] = _
  have e0 : mm c (n + 1) = 0 := by rw [← hn]; exact mm_last F
  rw [e0]
  congr 2
  apply List.map_congr_left
  intro j hj
  have := List.mem_range.mp hj
  show mm c (j + 1) = _
  rw [mm_LP F (by omega)]
theorem s_least_by {c : List Nat} (F : CF c) (q : Q (.tup (nl (lst c)))) : m_least_by [.tup (nl c)] Q E := by
  unfold m_least_by mFn
  refine ⟨rfl, ?_⟩
  have := F.len
  (try simp only [mSeq, mIfS, mOr, mAnd, mNot, mTest, mOp, mUn, mVar, mOwn, mC, mRet, mRetN, mNext, mAsg, mAsgO, mName, mGTup, mGCons, mGNil, mFor, mRng1, mRng2, mRng3, mCons, mNil, mPar, mParO, mParP, mDrop, mFz, mApp, mExt, mSetL, mLc, mYes, mSeqI, mOwnI, mOrI, mEnumL, mEnumT, mZip, mZipM, mOr2, mRevL, mRevT, mSl, mNoP, mP, mTup, mLst, mCb, mIf, mAndV, mOrV, mNotV, mChain, mBrk, mCnt, mNever, mAug, mCall0, mCallK0, hAdd, hSub, hInt, hIntC, hAnd, hDiv, hMod, hPow, hMul, hNeg, hCmp, hLt, hLe, hGt, hGe, hIx, hIxX, hLen, hIsi, hTuple, hList, hInt1, hAbs, D.isN, hIs, hNis, D.items, D.plain, D.kind, hEq_int, hNe_int, hEq_str, hNe_str, hEq_tups, hNe_tups, hEq_lsts, hNe_lsts, wipeE, List.map_cons, List.map_nil, List.replicate_succ, List.replicate_zero, List.cons_append, List.nil_append, List.getElem?_cons_zero, List.getElem?_cons_succ, List.set_cons_zero, List.set_cons_succ, List.length_cons, List.length_nil, Nat.reduceAdd, Nat.reduceSub, inT_int, inT_bool, inT_str, inT_tuple, inT_list, inT_dict, ib_NoneType_int, ib_NoneType_bool, ib_NoneType_str, ib_NoneType_tuple, ib_NoneType_list, ib_NoneType_dict, ib_bool_int, ib_bool_bool, ib_bool_str, ib_bool_tuple, ib_bool_list, ib_bool_dict, ib_int_int, ib_int_bool, ib_int_str, ib_int_tuple, ib_int_list, ib_int_dict, ib_str_int, ib_str_bool, ib_str_str, ib_str_tuple, ib_str_list, ib_str_dict, ib_tuple_int, ib_tuple_bool, ib_tuple_str, ib_tuple_tuple, ib_tuple_list, ib_tuple_dict, ib_list_int, ib_list_bool, ib_list_str, ib_list_tuple, ib_list_list, ib_list_dict, ib_dict_int, ib_dict_bool, ib_dict_str, ib_dict_tuple, ib_dict_list, ib_dict_dict, Bool.not_true, Bool.not_false, true_and, and_true, decide_true, decide_false])
  rw [List.length_map]
  refine ⟨by decide, by omega, by omega, by omega, by omega, by rw [rng_len]; omega, ?_⟩
  have e : (((c.length : Nat) : Int) - 1).toNat = c.length - 1 := by omega
  rw [e, rng_map]
  refine lcL_all _ (fun j => .int (LP (c.getD (j + 1) 0) (j + 2) : Nat)) (fun j hj Qd hd => ?_) ?_
  · have hj := List.mem_range.mp hj
    (try simp only [mSeq, mIfS, mOr, mAnd, mNot, mTest, mOp, mUn, mVar, mOwn, mC, mRet, mRetN, mNext, mAsg, mAsgO, mName, mGTup, mGCons, mGNil, mFor, mRng1, mRng2, mRng3, mCons, mNil, mPar, mParO, mParP, mDrop, mFz, mApp, mExt, mSetL, mLc, mYes, mSeqI, mOwnI, mOrI, mEnumL, mEnumT, mZip, mZipM, mOr2, mRevL, mRevT, mSl, mNoP, mP, mTup, mLst, mCb, mIf, mAndV, mOrV, mNotV, mChain, mBrk, mCnt, mNever, mAug, mCall0, mCallK0, hAdd, hSub, hInt, hIntC, hAnd, hDiv, hMod, hPow, hMul, hNeg, hCmp, hLt, hLe, hGt, hGe, hIx, hIxX, hLen, hIsi, hTuple, hList, hInt1, hAbs, D.isN, hIs, hNis, D.items, D.plain, D.kind, hEq_int, hNe_int, hEq_str, hNe_str, hEq_tups, hNe_tups, hEq_lsts, hNe_lsts, wipeE, List.map_cons, List.map_nil, List.replicate_succ, List.replicate_zero, List.cons_append, List.nil_append, List.getElem?_cons_zero, List.getElem?_cons_succ, List.set_cons_zero, List.set_cons_succ, List.length_cons, List.length_nil, Nat.reduceAdd, Nat.reduceSub, inT_int, inT_bool, inT_str, inT_tuple, inT_list, inT_dict, ib_NoneType_int, ib_NoneType_bool, ib_NoneType_str, ib_NoneType_tuple, ib_NoneType_list, ib_NoneType_dict, ib_bool_int, ib_bool_bool, ib_bool_str, ib_bool_tuple, ib_bool_list, ib_bool_dict, ib_int_int, ib_int_bool, ib_int_str, ib_int_tuple, ib_int_list, ib_int_dict, ib_str_int, ib_str_bool, ib_str_str, ib_str_tuple, ib_str_list, ib_str_dict, ib_tuple_int, ib_tuple_bool, ib_tuple_str, ib_tuple_tuple, ib_tuple_list, ib_tuple_dict, ib_list_int, ib_list_bool, ib_list_str, ib_list_tuple, ib_list_list, ib_list_dict, ib_dict_int, ib_dict_bool, ib_dict_str, ib_dict_tuple, ib_dict_list, ib_dict_dict, Bool.not_true, Bool.not_false, true_and, and_true, decide_true, decide_false])
    refine ⟨_, at_nl (k := j + 1) (by omega) (by omega), ?_⟩
    have e : (1 + (j : Int)) + 1 = ((j + 2 : Nat) : Int) := by omega
    rw [e]
    exact s_least_rest (by omega) (by omega) (cf_big F _) hd
  · (try simp only [mSeq, mIfS, mOr, mAnd, mNot, mTest, mOp, mUn, mVar, mOwn, mC, mRet, mRetN, mNext, mAsg, mAsgO, mName, mGTup, mGCons, mGNil, mFor, mRng1, mRng2, mRng3, mCons, mNil, mPar, mParO, mParP, mDrop, mFz, mApp, mExt, mSetL, mLc, mYes, mSeqI, mOwnI, mOrI, mEnumL, mEnumT, mZip, mZipM, mOr2, mRevL, mRevT, mSl, mNoP, mP, mTup, mLst, mCb, mIf, mAndV, mOrV, mNotV, mChain, mBrk, mCnt, mNever, mAug, mCall0, mCallK0, hAdd, hSub, hInt, hIntC, hAnd, hDiv, hMod, hPow, hMul, hNeg, hCmp, hLt, hLe, hGt, hGe, hIx, hIxX, hLen, hIsi, hTuple, hList, hInt1, hAbs, D.isN, hIs, hNis, D.items, D.plain, D.kind, hEq_int, hNe_int, hEq_str, hNe_str, hEq_tups, hNe_tups, hEq_lsts, hNe_lsts, wipeE, List.map_cons, List.map_nil, List.replicate_succ, List.replicate_zero, List.cons_append, List.nil_append, List.getElem?_cons_zero, List.getElem?_cons_succ, List.set_cons_zero, List.set_cons_succ, List.length_cons, List.length_nil, Nat.reduceAdd, Nat.reduceSub, inT_int, inT_bool, inT_str, inT_tuple, inT_list, inT_dict, ib_NoneType_int, ib_NoneType_bool, ib_NoneType_str, ib_NoneType_tuple, ib_NoneType_list, ib_NoneType_dict, ib_bool_int, ib_bool_bool, ib_bool_str, ib_bool_tuple, ib_bool_list, ib_bool_dict, ib_int_int, ib_int_bool, ib_int_str, ib_int_tuple, ib_int_list, ib_int_dict, ib_str_int, ib_str_bool, ib_str_str, ib_str_tuple, ib_str_list, ib_str_dict, ib_tuple_int, ib_tuple_bool, ib_tuple_str, ib_tuple_tuple, ib_tuple_list, ib_tuple_dict, ib_list_int, ib_list_bool, ib_list_str, ib_list_tuple, ib_list_list, ib_list_dict, ib_dict_int, ib_dict_bool, ib_dict_str, ib_dict_tuple, ib_dict_list, ib_dict_dict, Bool.not_true, Bool.not_false, true_and, and_true, decide_true, decide_false])
    refine ⟨by rw [List.length_map, List.length_range]; omega, by decide, by rw [List.length_map, List.length_range]; omega, ?_⟩
    have : nl (lst c) = [D.int 1] ++ ((List.range (c.length - 1)).map fun j => D.int (LP (c.getD (j + 1) 0) (j + 2) : Nat)) ++ [D.int 0] := by
      rw [lst_eq F.fit, nl_app, nl_app, nl_map]
      rfl
    rw [this] at q
    exact q
theorem s_least_rests {c : List Nat} (F : CF c) (q : Q (.tup (nl (lst c)))) : m_least_rests [.tup (nl c)] Q E := by
  unfold m_least_rests mFn
  refine ⟨rfl, ?_⟩
  (try simp only [mSeq, mIfS, mOr, mAnd, mNot, mTest, mOp, mUn, mVar, mOwn, mC, mRet, mRetN, mNext, mAsg, mAsgO, mName, mGTup, mGCons, mGNil, mFor, mRng1, mRng2, mRng3, mCons, mNil, mPar, mParO, mParP, mDrop, mFz, mApp, mExt, mSetL, mLc, mYes, mSeqI, mOwnI, mOrI, mEnumL, mEnumT, mZip, mZipM, mOr2, mRevL, mRevT, mSl, mNoP, mP, mTup, mLst, mCb, mIf, mAndV, mOrV, mNotV, mChain, mBrk, mCnt, mNever, mAug, mCall0, mCallK0, hAdd, hSub, hInt, hIntC, hAnd, hDiv, hMod, hPow, hMul, hNeg, hCmp, hLt, hLe, hGt, hGe, hIx, hIxX, hLen, hIsi, hTuple, hList, hInt1, hAbs, D.isN, hIs, hNis, D.items, D.plain, D.kind, hEq_int, hNe_int, hEq_str, hNe_str, hEq_tups, hNe_tups, hEq_lsts, hNe_lsts, wipeE, List.map_cons, List.map_nil, List.replicate_succ, List.replicate_zero, List.cons_append, List.nil_append, List.getElem?_cons_zero, List.getElem?_cons_succ, List.set_cons_zero, List.set_cons_succ, List.length_cons, List.length_nil, Nat.reduceAdd, Nat.reduceSub, inT_int, inT_bool, inT_str, inT_tuple, inT_list, inT_dict, ib_NoneType_int, ib_NoneType_bool, ib_NoneType_str, ib_NoneType_tuple, ib_NoneType_list, ib_NoneType_dict, ib_bool_int, ib_bool_bool, ib_bool_str, ib_bool_tuple, ib_bool_list, ib_bool_dict, ib_int_int, ib_int_bool, ib_int_str, ib_int_tuple, ib_int_list, ib_int_dict, ib_str_int, ib_str_bool, ib_str_str, ib_str_tuple, ib_str_list, ib_str_dict, ib_tuple_int, ib_tuple_bool, ib_tuple_str, ib_tuple_tuple, ib_tuple_list, ib_tuple_dict, ib_list_int, ib_list_bool, ib_list_str, ib_list_tuple, ib_list_list, ib_list_dict, ib_dict_int, ib_dict_bool, ib_dict_str, ib_dict_tuple, ib_dict_list, ib_dict_dict, Bool.not_true, Bool.not_false, true_and, and_true, decide_true, decide_false])
  exact s_need_fitting F (s_least_by F q)
theorem at_nlL {c : List Nat} {n : Nat} {k : Nat} (h : c[k]? = some n) : c.getD k 0 = n := by rw [List.getD_eq_getElem?_getD, h]; rfl
theorem zi_get {α : Type} {l : List α} {i : Nat} {p : α × Nat} (h : l.zipIdx[i]? = some p) : l[i]? = some p.1 ∧ p.2 = i := by
  rw [List.getElem?_zipIdx] at h
  cases q : l[i]? with
  | none => rw [q] at h; cases h
  | some a =>
    rw [q] at h
    cases h
    exact ⟨rfl, by show 0 + i = i; omega⟩
theorem zi_mem {α : Type} {l : List α} {p : α × Nat} (h : p ∈ l.zipIdx) : l[p.2]? = some p.1 ∧ p.2 < l.length := by
  obtain ⟨i, hi, e⟩ := List.getElem_of_mem h
  have h1 := zi_get (List.getElem?_eq_getElem hi)
  rw [e] at h1
  rw [List.length_zipIdx] at hi
  obtain ⟨a, b⟩ := h1
  rw [b]
  exact ⟨a, hi⟩
theorem zipIdx_range {α β : Type} (l : List α) (d : α) (f : α → Nat → β) : (l.zipIdx.map fun p => f p.1 p.2) = (List.range l.length).map fun k => f (l.getD k d) k := by
  apply List.ext_getElem?
  intro i
  rw [List.getElem?_map, List.getElem?_map, List.getElem?_zipIdx]
  by_cases h : i < l.length
  · rw [List.getElem?_range h, List.getElem?_eq_getElem h]
    show some (f l[i] (0 + i)) = some (f (l.getD i d) i)
    rw [List.getD_eq_getElem?_getD, List.getElem?_eq_getElem h, Nat.zero_add]
    rfl
  · rw [List.getElem?_eq_none (show l.length ≤ i by omega), List.getElem?_eq_none (show (List.range l.length).length ≤ i by rw [List.length_range]; omega)]
    rfl
theorem most_int {c : List Nat} (F : Fits c) {k : Nat} (hk : k < c.length) : ((c.getD k 0 : Nat) : Int) - ((mm c k : Nat) : Int) - ((mm c (k + 1) : Nat) : Int) = ((c.getD k 0 - mm c k - mm c (k + 1) : Nat) : Int) := by
  have := mm_add F hk
  omega
theorem at_lst {c : List Nat} {i : Int} {k : Nat} (hi : i = (k : Int)) (hk : k ≤ c.length) : atI (nl (lst c)) i = some (.int (mm c k : Nat)) := by
  rw [at_nl hi (by rw [lst_len]; omega), lst_at hk]
theorem s_most_by {c : List Nat} (F : CF c) (q : Q (.tup (nl (mst c)))) : m_most_by [.tup (nl c)] Q E := by
  unfold m_most_by mFn
  refine ⟨rfl, ?_⟩
  (try simp only [mSeq, mIfS, mOr, mAnd, mNot, mTest, mOp, mUn, mVar, mOwn, mC, mRet, mRetN, mNext, mAsg, mAsgO, mName, mGTup, mGCons, mGNil, mFor, mRng1, mRng2, mRng3, mCons, mNil, mPar, mParO, mParP, mDrop, mFz, mApp, mExt, mSetL, mLc, mYes, mSeqI, mOwnI, mOrI, mEnumL, mEnumT, mZip, mZipM, mOr2, mRevL, mRevT, mSl, mNoP, mP, mTup, mLst, mCb, mIf, mAndV, mOrV, mNotV, mChain, mBrk, mCnt, mNever, mAug, mCall0, mCallK0, hAdd, hSub, hInt, hIntC, hAnd, hDiv, hMod, hPow, hMul, hNeg, hCmp, hLt, hLe, hGt, hGe, hIx, hIxX, hLen, hIsi, hTuple, hList, hInt1, hAbs, D.isN, hIs, hNis, D.items, D.plain, D.kind, hEq_int, hNe_int, hEq_str, hNe_str, hEq_tups, hNe_tups, hEq_lsts, hNe_lsts, wipeE, List.map_cons, List.map_nil, List.replicate_succ, List.replicate_zero, List.cons_append, List.nil_append, List.getElem?_cons_zero, List.getElem?_cons_succ, List.set_cons_zero, List.set_cons_succ, List.length_cons, List.length_nil, Nat.reduceAdd, Nat.reduceSub, inT_int, inT_bool, inT_str, inT_tuple, inT_list, inT_dict, ib_NoneType_int, ib_NoneType_bool, ib_NoneType_str, ib_NoneType_tuple, ib_NoneType_list, ib_NoneType_dict, ib_bool_int, ib_bool_bool, ib_bool_str, ib_bool_tuple, ib_bool_list, ib_bool_dict, ib_int_int, ib_int_bool, ib_int_str, ib_int_tuple, ib_int_list, ib_int_dict, ib_str_int, ib_str_bool, ib_str_str, ib_str_tuple, ib_str_list, ib_str_dict, ib_tuple_int, ib_tuple_bool, ib_tuple_str, ib_tuple_tuple, ib_tuple_list, ib_tuple_dict, ib_list_int, ib_list_bool, ib_list_str, ib_list_tuple, ib_list_list, ib_list_dict, ib_dict_int, ib_dict_bool, ib_dict_str, ib_dict_tuple, ib_dict_list, ib_dict_dict, Bool.not_true, Bool.not_false, true_and, and_true, decide_true, decide_false])
  refine s_least_by F ?_
  (try simp only [mSeq, mIfS, mOr, mAnd, mNot, mTest, mOp, mUn, mVar, mOwn, mC, mRet, mRetN, mNext, mAsg, mAsgO, mName, mGTup, mGCons, mGNil, mFor, mRng1, mRng2, mRng3, mCons, mNil, mPar, mParO, mParP, mDrop, mFz, mApp, mExt, mSetL, mLc, mYes, mSeqI, mOwnI, mOrI, mEnumL, mEnumT, mZip, mZipM, mOr2, mRevL, mRevT, mSl, mNoP, mP, mTup, mLst, mCb, mIf, mAndV, mOrV, mNotV, mChain, mBrk, mCnt, mNever, mAug, mCall0, mCallK0, hAdd, hSub, hInt, hIntC, hAnd, hDiv, hMod, hPow, hMul, hNeg, hCmp, hLt, hLe, hGt, hGe, hIx, hIxX, hLen, hIsi, hTuple, hList, hInt1, hAbs, D.isN, hIs, hNis, D.items, D.plain, D.kind, hEq_int, hNe_int, hEq_str, hNe_str, hEq_tups, hNe_tups, hEq_lsts, hNe_lsts, wipeE, List.map_cons, List.map_nil, List.replicate_succ, List.replicate_zero, List.cons_append, List.nil_append, List.getElem?_cons_zero, List.getElem?_cons_succ, List.set_cons_zero, List.set_cons_succ, List.length_cons, List.length_nil, Nat.reduceAdd, Nat.reduceSub, inT_int, inT_bool, inT_str, inT_tuple, inT_list, inT_dict, ib_NoneType_int, ib_NoneType_bool, ib_NoneType_str, ib_NoneType_tuple, ib_NoneType_list, ib_NoneType_dict, ib_bool_int, ib_bool_bool, ib_bool_str, ib_bool_tuple, ib_bool_list, ib_bool_dict, ib_int_int, ib_int_bool, ib_int_str, ib_int_tuple, ib_int_list, ib_int_dict, ib_str_int, ib_str_bool, ib_str_str, ib_str_tuple, ib_str_list, ib_str_dict, ib_tuple_int, ib_tuple_bool, ib_tuple_str, ib_tuple_tuple, ib_tuple_list, ib_tuple_dict, ib_list_int, ib_list_bool, ib_list_str, ib_list_tuple, ib_list_list, ib_list_dict, ib_dict_int, ib_dict_bool, ib_dict_str, ib_dict_tuple, ib_dict_list, ib_dict_dict, Bool.not_true, Bool.not_false, true_and, and_true, decide_true, decide_false])
  refine .inr ?_
  have := F.len
  rw [enum_len, nl_len, enum_map]
  refine ⟨by omega, ?_⟩
  refine lcL_all _ (fun p => .int ((c.getD p.2 0 - mm c p.2 - mm c (p.2 + 1) : Nat) : Int)) (fun p hp Qd hd => ?_) ?_
  · obtain ⟨a, k⟩ := p
    obtain ⟨h1, h2⟩ := zi_mem hp
    (try simp only [mSeq, mIfS, mOr, mAnd, mNot, mTest, mOp, mUn, mVar, mOwn, mC, mRet, mRetN, mNext, mAsg, mAsgO, mName, mGTup, mGCons, mGNil, mFor, mRng1, mRng2, mRng3, mCons, mNil, mPar, mParO, mParP, mDrop, mFz, mApp, mExt, mSetL, mLc, mYes, mSeqI, mOwnI, mOrI, mEnumL, mEnumT, mZip, mZipM, mOr2, mRevL, mRevT, mSl, mNoP, mP, mTup, mLst, mCb, mIf, mAndV, mOrV, mNotV, mChain, mBrk, mCnt, mNever, mAug, mCall0, mCallK0, hAdd, hSub, hInt, hIntC, hAnd, hDiv, hMod, hPow, hMul, hNeg, hCmp, hLt, hLe, hGt, hGe, hIx, hIxX, hLen, hIsi, hTuple, hList, hInt1, hAbs, D.isN, hIs, hNis, D.items, D.plain, D.kind, hEq_int, hNe_int, hEq_str, hNe_str, hEq_tups, hNe_tups, hEq_lsts, hNe_lsts, wipeE, List.map_cons, List.map_nil, List.replicate_succ, List.replicate_zero, List.cons_append, List.nil_append, List.getElem?_cons_zero, List.getElem?_cons_succ, List.set_cons_zero, List.set_cons_succ, List.length_cons, List.length_nil, Nat.reduceAdd, Nat.reduceSub, inT_int, inT_bool, inT_str, inT_tuple, inT_list, inT_dict, ib_NoneType_int, ib_NoneType_bool, ib_NoneType_str, ib_NoneType_tuple, ib_NoneType_list, ib_NoneType_dict, ib_bool_int, ib_bool_bool, ib_bool_str, ib_bool_tuple, ib_bool_list, ib_bool_dict, ib_int_int, ib_int_bool, ib_int_str, ib_int_tuple, ib_int_list, ib_int_dict, ib_str_int, ib_str_bool, ib_str_str, ib_str_tuple, ib_str_list, ib_str_dict, ib_tuple_int, ib_tuple_bool, ib_tuple_str, ib_tuple_tuple, ib_tuple_list, ib_tuple_dict, ib_list_int, ib_list_bool, ib_list_str, ib_list_tuple, ib_list_list, ib_list_dict, ib_dict_int, ib_dict_bool, ib_dict_str, ib_dict_tuple, ib_dict_list, ib_dict_dict, Bool.not_true, Bool.not_false, true_and, and_true, decide_true, decide_false])
    refine ⟨_, at_lst (k := k) rfl (by omega), ?_⟩
    (try simp only [mSeq, mIfS, mOr, mAnd, mNot, mTest, mOp, mUn, mVar, mOwn, mC, mRet, mRetN, mNext, mAsg, mAsgO, mName, mGTup, mGCons, mGNil, mFor, mRng1, mRng2, mRng3, mCons, mNil, mPar, mParO, mParP, mDrop, mFz, mApp, mExt, mSetL, mLc, mYes, mSeqI, mOwnI, mOrI, mEnumL, mEnumT, mZip, mZipM, mOr2, mRevL, mRevT, mSl, mNoP, mP, mTup, mLst, mCb, mIf, mAndV, mOrV, mNotV, mChain, mBrk, mCnt, mNever, mAug, mCall0, mCallK0, hAdd, hSub, hInt, hIntC, hAnd, hDiv, hMod, hPow, hMul, hNeg, hCmp, hLt, hLe, hGt, hGe, hIx, hIxX, hLen, hIsi, hTuple, hList, hInt1, hAbs, D.isN, hIs, hNis, D.items, D.plain, D.kind, hEq_int, hNe_int, hEq_str, hNe_str, hEq_tups, hNe_tups, hEq_lsts, hNe_lsts, wipeE, List.map_cons, List.map_nil, List.replicate_succ, List.replicate_zero, List.cons_append, List.nil_append, List.getElem?_cons_zero, List.getElem?_cons_succ, List.set_cons_zero, List.set_cons_succ, List.length_cons, List.length_nil, Nat.reduceAdd, Nat.reduceSub, inT_int, inT_bool, inT_str, inT_tuple, inT_list, inT_dict, ib_NoneType_int, ib_NoneType_bool, ib_NoneType_str, ib_NoneType_tuple, ib_NoneType_list, ib_NoneType_dict, ib_bool_int, ib_bool_bool, ib_bool_str, ib_bool_tuple, ib_bool_list, ib_bool_dict, ib_int_int, ib_int_bool, ib_int_str, ib_int_tuple, ib_int_list, ib_int_dict, ib_str_int, ib_str_bool, ib_str_str, ib_str_tuple, ib_str_list, ib_str_dict, ib_tuple_int, ib_tuple_bool, ib_tuple_str, ib_tuple_tuple, ib_tuple_list, ib_tuple_dict, ib_list_int, ib_list_bool, ib_list_str, ib_list_tuple, ib_list_list, ib_list_dict, ib_dict_int, ib_dict_bool, ib_dict_str, ib_dict_tuple, ib_dict_list, ib_dict_dict, Bool.not_true, Bool.not_false, true_and, and_true, decide_true, decide_false])
    refine ⟨_, at_lst (k := k + 1) (by omega) (by omega), ?_⟩
    (try simp only [mSeq, mIfS, mOr, mAnd, mNot, mTest, mOp, mUn, mVar, mOwn, mC, mRet, mRetN, mNext, mAsg, mAsgO, mName, mGTup, mGCons, mGNil, mFor, mRng1, mRng2, mRng3, mCons, mNil, mPar, mParO, mParP, mDrop, mFz, mApp, mExt, mSetL, mLc, mYes, mSeqI, mOwnI, mOrI, mEnumL, mEnumT, mZip, mZipM, mOr2, mRevL, mRevT, mSl, mNoP, mP, mTup, mLst, mCb, mIf, mAndV, mOrV, mNotV, mChain, mBrk, mCnt, mNever, mAug, mCall0, mCallK0, hAdd, hSub, hInt, hIntC, hAnd, hDiv, hMod, hPow, hMul, hNeg, hCmp, hLt, hLe, hGt, hGe, hIx, hIxX, hLen, hIsi, hTuple, hList, hInt1, hAbs, D.isN, hIs, hNis, D.items, D.plain, D.kind, hEq_int, hNe_int, hEq_str, hNe_str, hEq_tups, hNe_tups, hEq_lsts, hNe_lsts, wipeE, List.map_cons, List.map_nil, List.replicate_succ, List.replicate_zero, List.cons_append, List.nil_append, List.getElem?_cons_zero, List.getElem?_cons_succ, List.set_cons_zero, List.set_cons_succ, List.length_cons, List.length_nil, Nat.reduceAdd, Nat.reduceSub, inT_int, inT_bool, inT_str, inT_tuple, inT_list, inT_dict, ib_NoneType_int, ib_NoneType_bool, ib_NoneType_str, ib_NoneType_tuple, ib_NoneType_list, ib_NoneType_dict, ib_bool_int, ib_bool_bool, ib_bool_str, ib_bool_tuple, ib_bool_list, ib_bool_dict, ib_int_int, ib_int_bool, ib_int_str, ib_int_tuple, ib_int_list, ib_int_dict, ib_str_int, ib_str_bool, ib_str_str, ib_str_tuple, ib_str_list, ib_str_dict, ib_tuple_int, ib_tuple_bool, ib_tuple_str, ib_tuple_tuple, ib_tuple_list, ib_tuple_dict, ib_list_int, ib_list_bool, ib_list_str, ib_list_tuple, ib_list_list, ib_list_dict, ib_dict_int, ib_dict_bool, ib_dict_str, ib_dict_tuple, ib_dict_list, ib_dict_dict, Bool.not_true, Bool.not_false, true_and, and_true, decide_true, decide_false])
    have e := most_int F.fit h2
    rw [at_nlL h1] at e hd
    rw [e]
    exact hd
  · (try simp only [mSeq, mIfS, mOr, mAnd, mNot, mTest, mOp, mUn, mVar, mOwn, mC, mRet, mRetN, mNext, mAsg, mAsgO, mName, mGTup, mGCons, mGNil, mFor, mRng1, mRng2, mRng3, mCons, mNil, mPar, mParO, mParP, mDrop, mFz, mApp, mExt, mSetL, mLc, mYes, mSeqI, mOwnI, mOrI, mEnumL, mEnumT, mZip, mZipM, mOr2, mRevL, mRevT, mSl, mNoP, mP, mTup, mLst, mCb, mIf, mAndV, mOrV, mNotV, mChain, mBrk, mCnt, mNever, mAug, mCall0, mCallK0, hAdd, hSub, hInt, hIntC, hAnd, hDiv, hMod, hPow, hMul, hNeg, hCmp, hLt, hLe, hGt, hGe, hIx, hIxX, hLen, hIsi, hTuple, hList, hInt1, hAbs, D.isN, hIs, hNis, D.items, D.plain, D.kind, hEq_int, hNe_int, hEq_str, hNe_str, hEq_tups, hNe_tups, hEq_lsts, hNe_lsts, wipeE, List.map_cons, List.map_nil, List.replicate_succ, List.replicate_zero, List.cons_append, List.nil_append, List.getElem?_cons_zero, List.getElem?_cons_succ, List.set_cons_zero, List.set_cons_succ, List.length_cons, List.length_nil, Nat.reduceAdd, Nat.reduceSub, inT_int, inT_bool, inT_str, inT_tuple, inT_list, inT_dict, ib_NoneType_int, ib_NoneType_bool, ib_NoneType_str, ib_NoneType_tuple, ib_NoneType_list, ib_NoneType_dict, ib_bool_int, ib_bool_bool, ib_bool_str, ib_bool_tuple, ib_bool_list, ib_bool_dict, ib_int_int, ib_int_bool, ib_int_str, ib_int_tuple, ib_int_list, ib_int_dict, ib_str_int, ib_str_bool, ib_str_str, ib_str_tuple, ib_str_list, ib_str_dict, ib_tuple_int, ib_tuple_bool, ib_tuple_str, ib_tuple_tuple, ib_tuple_list, ib_tuple_dict, ib_list_int, ib_list_bool, ib_list_str, ib_list_tuple, ib_list_list, ib_list_dict, ib_dict_int, ib_dict_bool, ib_dict_str, ib_dict_tuple, ib_dict_list, ib_dict_dict, Bool.not_true, Bool.not_false, true_and, and_true, decide_true, decide_false])
    rw [zipIdx_range c 0 (fun _ k => D.int ((c.getD k 0 - mm c k - mm c (k + 1) : Nat) : Int))]
    unfold mst at q
    rw [nl_map] at q
    exact q
theorem s_most_holes {c : List Nat} (F : CF c) (q : Q (.tup (nl (mst c)))) : m_most_holes [.tup (nl c)] Q E := by
  unfold m_most_holes mFn
  refine ⟨rfl, ?_⟩
  (try simp only [mSeq, mIfS, mOr, mAnd, mNot, mTest, mOp, mUn, mVar, mOwn, mC, mRet, mRetN, mNext, mAsg, mAsgO, mName, mGTup, mGCons, mGNil, mFor, mRng1, mRng2, mRng3, mCons, mNil, mPar, mParO, mParP, mDrop, mFz, mApp, mExt, mSetL, mLc, mYes, mSeqI, mOwnI, mOrI, mEnumL, mEnumT, mZip, mZipM, mOr2, mRevL, mRevT, mSl, mNoP, mP, mTup, mLst, mCb, mIf, mAndV, mOrV, mNotV, mChain, mBrk, mCnt, mNever, mAug, mCall0, mCallK0, hAdd, hSub, hInt, hIntC, hAnd, hDiv, hMod, hPow, hMul, hNeg, hCmp, hLt, hLe, hGt, hGe, hIx, hIxX, hLen, hIsi, hTuple, hList, hInt1, hAbs, D.isN, hIs, hNis, D.items, D.plain, D.kind, hEq_int, hNe_int, hEq_str, hNe_str, hEq_tups, hNe_tups, hEq_lsts, hNe_lsts, wipeE, List.map_cons, List.map_nil, List.replicate_succ, List.replicate_zero, List.cons_append, List.nil_append, List.getElem?_cons_zero, List.getElem?_cons_succ, List.set_cons_zero, List.set_cons_succ, List.length_cons, List.length_nil, Nat.reduceAdd, Nat.reduceSub, inT_int, inT_bool, inT_str, inT_tuple, inT_list, inT_dict, ib_NoneType_int, ib_NoneType_bool, ib_NoneType_str, ib_NoneType_tuple, ib_NoneType_list, ib_NoneType_dict, ib_bool_int, ib_bool_bool, ib_bool_str, ib_bool_tuple, ib_bool_list, ib_bool_dict, ib_int_int, ib_int_bool, ib_int_str, ib_int_tuple, ib_int_list, ib_int_dict, ib_str_int, ib_str_bool, ib_str_str, ib_str_tuple, ib_str_list, ib_str_dict, ib_tuple_int, ib_tuple_bool, ib_tuple_str, ib_tuple_tuple, ib_tuple_list, ib_tuple_dict, ib_list_int, ib_list_bool, ib_list_str, ib_list_tuple, ib_list_list, ib_list_dict, ib_dict_int, ib_dict_bool, ib_dict_str, ib_dict_tuple, ib_dict_list, ib_dict_dict, Bool.not_true, Bool.not_false, true_and, and_true, decide_true, decide_false])
  exact s_need_fitting F (s_most_by F q)
/-! ### the least holes -/
def few (c : List Nat) : List Int := (List.range c.length).map (fewI c)
theorem few_len (c : List Nat) : (few c).length = c.length := by unfold few; rw [List.length_map, List.length_range]
def aI (c : List Nat) (k : Nat) : Int := if k = 0 then 1 else ((c.getD (k - 1) 0 : Nat) : Int) - (mm c (k - 1) : Nat)
def bI (c : List Nat) (k : Nat) : Int := if k + 1 = c.length then 0 else ((c.getD (k + 1) 0 : Nat) : Int) - (mm c (k + 2) : Nat)
theorem few_ab (c : List Nat) (k : Nat) : fewI c k = max 0 (((c.getD k 0 : Nat) : Int) - aI c k - bI c k) := by
  show (if ((c.getD k 0 : Nat) : Int) - aI c k - bI c k > 0 then ((c.getD k 0 : Nat) : Int) - aI c k - bI c k else 0) = _
  split <;> omega
theorem s_least_holes {c : List Nat} (F : CF c) (q : Q (.tup (il (few c)))) : m_least_holes [.tup (nl c)] Q E := by
  unfold m_least_holes mFn
  refine ⟨rfl, ?_⟩
  (try simp only [mSeq, mIfS, mOr, mAnd, mNot, mTest, mOp, mUn, mVar, mOwn, mC, mRet, mRetN, mNext, mAsg, mAsgO, mName, mGTup, mGCons, mGNil, mFor, mRng1, mRng2, mRng3, mCons, mNil, mPar, mParO, mParP, mDrop, mFz, mApp, mExt, mSetL, mLc, mYes, mSeqI, mOwnI, mOrI, mEnumL, mEnumT, mZip, mZipM, mOr2, mRevL, mRevT, mSl, mNoP, mP, mTup, mLst, mCb, mIf, mAndV, mOrV, mNotV, mChain, mBrk, mCnt, mNever, mAug, mCall0, mCallK0, hAdd, hSub, hInt, hIntC, hAnd, hDiv, hMod, hPow, hMul, hNeg, hCmp, hLt, hLe, hGt, hGe, hIx, hIxX, hLen, hIsi, hTuple, hList, hInt1, hAbs, D.isN, hIs, hNis, D.items, D.plain, D.kind, hEq_int, hNe_int, hEq_str, hNe_str, hEq_tups, hNe_tups, hEq_lsts, hNe_lsts, wipeE, List.map_cons, List.map_nil, List.replicate_succ, List.replicate_zero, List.cons_append, List.nil_append, List.getElem?_cons_zero, List.getElem?_cons_succ, List.set_cons_zero, List.set_cons_succ, List.length_cons, List.length_nil, Nat.reduceAdd, Nat.reduceSub, inT_int, inT_bool, inT_str, inT_tuple, inT_list, inT_dict, ib_NoneType_int, ib_NoneType_bool, ib_NoneType_str, ib_NoneType_tuple, ib_NoneType_list, ib_NoneType_dict, ib_bool_int, ib_bool_bool, ib_bool_str, ib_bool_tuple, ib_bool_list, ib_bool_dict, ib_int_int, ib_int_bool, ib_int_str, ib_int_tuple, ib_int_list, ib_int_dict, ib_str_int, ib_str_bool, ib_str_str, ib_str_tuple, ib_str_list, ib_str_dict, ib_tuple_int, ib_tuple_bool, ib_tuple_str, ib_tuple_tuple, ib_tuple_list, ib_tuple_dict, ib_list_int, ib_list_bool, ib_list_str, ib_list_tuple, ib_list_list, ib_list_dict, ib_dict_int, ib_dict_bool, ib_dict_str, ib_dict_tuple, ib_dict_list, ib_dict_dict, Bool.not_true, Bool.not_false, true_and, and_true, decide_true, decide_false])
  refine s_need_fitting F ?_
  refine s_least_by F ?_
  (try simp only [mSeq, mIfS, mOr, mAnd, mNot, mTest, mOp, mUn, mVar, mOwn, mC, mRet, mRetN, mNext, mAsg, mAsgO, mName, mGTup, mGCons, mGNil, mFor, mRng1, mRng2, mRng3, mCons, mNil, mPar, mParO, mParP, mDrop, mFz, mApp, mExt, mSetL, mLc, mYes, mSeqI, mOwnI, mOrI, mEnumL, mEnumT, mZip, mZipM, mOr2, mRevL, mRevT, mSl, mNoP, mP, mTup, mLst, mCb, mIf, mAndV, mOrV, mNotV, mChain, mBrk, mCnt, mNever, mAug, mCall0, mCallK0, hAdd, hSub, hInt, hIntC, hAnd, hDiv, hMod, hPow, hMul, hNeg, hCmp, hLt, hLe, hGt, hGe, hIx, hIxX, hLen, hIsi, hTuple, hList, hInt1, hAbs, D.isN, hIs, hNis, D.items, D.plain, D.kind, hEq_int, hNe_int, hEq_str, hNe_str, hEq_tups, hNe_tups, hEq_lsts, hNe_lsts, wipeE, List.map_cons, List.map_nil, List.replicate_succ, List.replicate_zero, List.cons_append, List.nil_append, List.getElem?_cons_zero, List.getElem?_cons_succ, List.set_cons_zero, List.set_cons_succ, List.length_cons, List.length_nil, Nat.reduceAdd, Nat.reduceSub, inT_int, inT_bool, inT_str, inT_tuple, inT_list, inT_dict, ib_NoneType_int, ib_NoneType_bool, ib_NoneType_str, ib_NoneType_tuple, ib_NoneType_list, ib_NoneType_dict, ib_bool_int, ib_bool_bool, ib_bool_str, ib_bool_tuple, ib_bool_list, ib_bool_dict, ib_int_int, ib_int_bool, ib_int_str, ib_int_tuple, ib_int_list, ib_int_dict, ib_str_int, ib_str_bool, ib_str_str, ib_str_tuple, ib_str_list, ib_str_dict, ib_tuple_int, ib_tuple_bool, ib_tuple_str, ib_tuple_tuple, ib_tuple_list, ib_tuple_dict, ib_list_int, ib_list_bool, ib_list_str, ib_list_tuple, ib_list_list, ib_list_dict, ib_dict_int, ib_dict_bool, ib_dict_str, ib_dict_tuple, ib_dict_list, ib_dict_dict, Bool.not_true, Bool.not_false, true_and, and_true, decide_true, decide_false])
  refine ⟨by decide, .inr ?_⟩
  have hlen := F.len
  rw [enum_map]
  refine forL_by (fun i env => ∃ a b d e, env = [.fz (.tup (nl c)), .fz (.tup (nl (lst c))), .ow (.lst (il ((List.range i).map (fewI c)))), a, b, d, e]) ⟨_, _, _, _, rfl⟩ ?_ ?_
  · rintro i ⟨a, k⟩ env nx ha ⟨u, v, w, z, rfl⟩ hn
    obtain ⟨h1, h2⟩ := zi_get ha
    have hl := (List.getElem?_eq_some_iff.mp h1).1
    have h2 : k = i := h2
    subst h2
    have ek : c.getD k 0 = a := at_nlL h1
    have step : il ((List.range (k + 1)).map (fewI c)) = il ((List.range k).map (fewI c)) ++ [D.int (max 0 ((a : Int) - aI c k - bI c k))] := by
      rw [List.range_succ, List.map_append, il_app, ← ek, ← few_ab]
      rfl
    (try simp only [mGTup, mGCons, mGNil, mName, List.set_cons_zero, List.set_cons_succ, List.length_cons, List.length_nil, Nat.reduceAdd, true_and, and_true, List.map_cons, List.map_nil, List.replicate_succ, List.replicate_zero, List.cons_append, List.nil_append, Nat.reduceSub])
    refine w_asg (.int (aI c k)) (fun Q E q => ?_) ?_
    · (try simp only [mSeq, mIfS, mOr, mAnd, mNot, mTest, mOp, mUn, mVar, mOwn, mC, mRet, mRetN, mNext, mAsg, mAsgO, mName, mGTup, mGCons, mGNil, mFor, mRng1, mRng2, mRng3, mCons, mNil, mPar, mParO, mParP, mDrop, mFz, mApp, mExt, mSetL, mLc, mYes, mSeqI, mOwnI, mOrI, mEnumL, mEnumT, mZip, mZipM, mOr2, mRevL, mRevT, mSl, mNoP, mP, mTup, mLst, mCb, mIf, mAndV, mOrV, mNotV, mChain, mBrk, mCnt, mNever, mAug, mCall0, mCallK0, hAdd, hSub, hInt, hIntC, hAnd, hDiv, hMod, hPow, hMul, hNeg, hCmp, hLt, hLe, hGt, hGe, hIx, hIxX, hLen, hIsi, hTuple, hList, hInt1, hAbs, D.isN, hIs, hNis, D.items, D.plain, D.kind, hEq_int, hNe_int, hEq_str, hNe_str, hEq_tups, hNe_tups, hEq_lsts, hNe_lsts, wipeE, List.map_cons, List.map_nil, List.replicate_succ, List.replicate_zero, List.cons_append, List.nil_append, List.getElem?_cons_zero, List.getElem?_cons_succ, List.set_cons_zero, List.set_cons_succ, List.length_cons, List.length_nil, Nat.reduceAdd, Nat.reduceSub, inT_int, inT_bool, inT_str, inT_tuple, inT_list, inT_dict, ib_NoneType_int, ib_NoneType_bool, ib_NoneType_str, ib_NoneType_tuple, ib_NoneType_list, ib_NoneType_dict, ib_bool_int, ib_bool_bool, ib_bool_str, ib_bool_tuple, ib_bool_list, ib_bool_dict, ib_int_int, ib_int_bool, ib_int_str, ib_int_tuple, ib_int_list, ib_int_dict, ib_str_int, ib_str_bool, ib_str_str, ib_str_tuple, ib_str_list, ib_str_dict, ib_tuple_int, ib_tuple_bool, ib_tuple_str, ib_tuple_tuple, ib_tuple_list, ib_tuple_dict, ib_list_int, ib_list_bool, ib_list_str, ib_list_tuple, ib_list_list, ib_list_dict, ib_dict_int, ib_dict_bool, ib_dict_str, ib_dict_tuple, ib_dict_list, ib_dict_dict, Bool.not_true, Bool.not_false, true_and, and_true, decide_true, decide_false])
      unfold aI at q
      by_cases h0 : k = 0
      · rw [if_pos h0] at q
        rw [decide_eq_true (show (k : Int) = 0 by omega)]
        exact q
      · rw [if_neg h0] at q
        rw [decide_eq_false (show ¬ (k : Int) = 0 by omega)]
        refine ⟨_, at_nl (k := k - 1) (by omega) (by omega), _, at_lst (k := k - 1) (by omega) (by omega), q⟩
    (try simp only [mGTup, mGCons, mGNil, mName, List.set_cons_zero, List.set_cons_succ, List.length_cons, List.length_nil, Nat.reduceAdd, true_and, and_true, List.map_cons, List.map_nil, List.replicate_succ, List.replicate_zero, List.cons_append, List.nil_append, Nat.reduceSub])
    refine w_asg (.int (bI c k)) (fun Q E q => ?_) ?_
    · (try simp only [mSeq, mIfS, mOr, mAnd, mNot, mTest, mOp, mUn, mVar, mOwn, mC, mRet, mRetN, mNext, mAsg, mAsgO, mName, mGTup, mGCons, mGNil, mFor, mRng1, mRng2, mRng3, mCons, mNil, mPar, mParO, mParP, mDrop, mFz, mApp, mExt, mSetL, mLc, mYes, mSeqI, mOwnI, mOrI, mEnumL, mEnumT, mZip, mZipM, mOr2, mRevL, mRevT, mSl, mNoP, mP, mTup, mLst, mCb, mIf, mAndV, mOrV, mNotV, mChain, mBrk, mCnt, mNever, mAug, mCall0, mCallK0, hAdd, hSub, hInt, hIntC, hAnd, hDiv, hMod, hPow, hMul, hNeg, hCmp, hLt, hLe, hGt, hGe, hIx, hIxX, hLen, hIsi, hTuple, hList, hInt1, hAbs, D.isN, hIs, hNis, D.items, D.plain, D.kind, hEq_int, hNe_int, hEq_str, hNe_str, hEq_tups, hNe_tups, hEq_lsts, hNe_lsts, wipeE, List.map_cons, List.map_nil, List.replicate_succ, List.replicate_zero, List.cons_append, List.nil_append, List.getElem?_cons_zero, List.getElem?_cons_succ, List.set_cons_zero, List.set_cons_succ, List.length_cons, List.length_nil, Nat.reduceAdd, Nat.reduceSub, inT_int, inT_bool, inT_str, inT_tuple, inT_list, inT_dict, ib_NoneType_int, ib_NoneType_bool, ib_NoneType_str, ib_NoneType_tuple, ib_NoneType_list, ib_NoneType_dict, ib_bool_int, ib_bool_bool, ib_bool_str, ib_bool_tuple, ib_bool_list, ib_bool_dict, ib_int_int, ib_int_bool, ib_int_str, ib_int_tuple, ib_int_list, ib_int_dict, ib_str_int, ib_str_bool, ib_str_str, ib_str_tuple, ib_str_list, ib_str_dict, ib_tuple_int, ib_tuple_bool, ib_tuple_str, ib_tuple_tuple, ib_tuple_list, ib_tuple_dict, ib_list_int, ib_list_bool, ib_list_str, ib_list_tuple, ib_list_list, ib_list_dict, ib_dict_int, ib_dict_bool, ib_dict_str, ib_dict_tuple, ib_dict_list, ib_dict_dict, Bool.not_true, Bool.not_false, true_and, and_true, decide_true, decide_false])
      rw [nl_len]
      unfold bI at q
      by_cases h0 : k + 1 = c.length
      · rw [if_pos h0] at q
        rw [decide_eq_true (by omega)]
        exact q
      · rw [if_neg h0] at q
        rw [decide_eq_false (by omega)]
        refine ⟨_, at_nl (k := k + 1) (by omega) (by omega), _, at_lst (k := k + 2) (by omega) (by omega), q⟩
    (try simp only [mGTup, mGCons, mGNil, mName, List.set_cons_zero, List.set_cons_succ, List.length_cons, List.length_nil, Nat.reduceAdd, true_and, and_true, List.map_cons, List.map_nil, List.replicate_succ, List.replicate_zero, List.cons_append, List.nil_append, Nat.reduceSub])
    refine w_app (.int (max 0 ((a : Int) - aI c k - bI c k))) rfl (fun Q E q => ?_) (by rw [il_len, List.length_map, List.length_range]; omega) ?_
    · (try simp only [mSeq, mIfS, mOr, mAnd, mNot, mTest, mOp, mUn, mVar, mOwn, mC, mRet, mRetN, mNext, mAsg, mAsgO, mName, mGTup, mGCons, mGNil, mFor, mRng1, mRng2, mRng3, mCons, mNil, mPar, mParO, mParP, mDrop, mFz, mApp, mExt, mSetL, mLc, mYes, mSeqI, mOwnI, mOrI, mEnumL, mEnumT, mZip, mZipM, mOr2, mRevL, mRevT, mSl, mNoP, mP, mTup, mLst, mCb, mIf, mAndV, mOrV, mNotV, mChain, mBrk, mCnt, mNever, mAug, mCall0, mCallK0, hAdd, hSub, hInt, hIntC, hAnd, hDiv, hMod, hPow, hMul, hNeg, hCmp, hLt, hLe, hGt, hGe, hIx, hIxX, hLen, hIsi, hTuple, hList, hInt1, hAbs, D.isN, hIs, hNis, D.items, D.plain, D.kind, hEq_int, hNe_int, hEq_str, hNe_str, hEq_tups, hNe_tups, hEq_lsts, hNe_lsts, wipeE, List.map_cons, List.map_nil, List.replicate_succ, List.replicate_zero, List.cons_append, List.nil_append, List.getElem?_cons_zero, List.getElem?_cons_succ, List.set_cons_zero, List.set_cons_succ, List.length_cons, List.length_nil, Nat.reduceAdd, Nat.reduceSub, inT_int, inT_bool, inT_str, inT_tuple, inT_list, inT_dict, ib_NoneType_int, ib_NoneType_bool, ib_NoneType_str, ib_NoneType_tuple, ib_NoneType_list, ib_NoneType_dict, ib_bool_int, ib_bool_bool, ib_bool_str, ib_bool_tuple, ib_bool_list, ib_bool_dict, ib_int_int, ib_int_bool, ib_int_str, ib_int_tuple, ib_int_list, ib_int_dict, ib_str_int, ib_str_bool, ib_str_str, ib_str_tuple, ib_str_list, ib_str_dict, ib_tuple_int, ib_tuple_bool, ib_tuple_str, ib_tuple_tuple, ib_tuple_list, ib_tuple_dict, ib_list_int, ib_list_bool, ib_list_str, ib_list_tuple, ib_list_list, ib_list_dict, ib_dict_int, ib_dict_bool, ib_dict_str, ib_dict_tuple, ib_dict_list, ib_dict_dict, Bool.not_true, Bool.not_false, true_and, and_true, decide_true, decide_false])
      exact q
    · rw [← step]
      exact hn _ ⟨_, _, _, _, rfl⟩
  · rintro env ⟨u, v, w, z, rfl⟩
    rw [List.length_zipIdx]
    (try simp only [mSeq, mIfS, mOr, mAnd, mNot, mTest, mOp, mUn, mVar, mOwn, mC, mRet, mRetN, mNext, mAsg, mAsgO, mName, mGTup, mGCons, mGNil, mFor, mRng1, mRng2, mRng3, mCons, mNil, mPar, mParO, mParP, mDrop, mFz, mApp, mExt, mSetL, mLc, mYes, mSeqI, mOwnI, mOrI, mEnumL, mEnumT, mZip, mZipM, mOr2, mRevL, mRevT, mSl, mNoP, mP, mTup, mLst, mCb, mIf, mAndV, mOrV, mNotV, mChain, mBrk, mCnt, mNever, mAug, mCall0, mCallK0, hAdd, hSub, hInt, hIntC, hAnd, hDiv, hMod, hPow, hMul, hNeg, hCmp, hLt, hLe, hGt, hGe, hIx, hIxX, hLen, hIsi, hTuple, hList, hInt1, hAbs, D.isN, hIs, hNis, D.items, D.plain, D.kind, hEq_int, hNe_int, hEq_str, hNe_str, hEq_tups, hNe_tups, hEq_lsts, hNe_lsts, wipeE, List.map_cons, List.map_nil, List.replicate_succ, List.replicate_zero, List.cons_append, List.nil_append, List.getElem?_cons_zero, List.getElem?_cons_succ, List.set_cons_zero, List.set_cons_succ, List.length_cons, List.length_nil, Nat.reduceAdd, Nat.reduceSub, inT_int, inT_bool, inT_str, inT_tuple, inT_list, inT_dict, ib_NoneType_int, ib_NoneType_bool, ib_NoneType_str, ib_NoneType_tuple, ib_NoneType_list, ib_NoneType_dict, ib_bool_int, ib_bool_bool, ib_bool_str, ib_bool_tuple, ib_bool_list, ib_bool_dict, ib_int_int, ib_int_bool, ib_int_str, ib_int_tuple, ib_int_list, ib_int_dict, ib_str_int, ib_str_bool, ib_str_str, ib_str_tuple, ib_str_list, ib_str_dict, ib_tuple_int, ib_tuple_bool, ib_tuple_str, ib_tuple_tuple, ib_tuple_list, ib_tuple_dict, ib_list_int, ib_list_bool, ib_list_str, ib_list_tuple, ib_list_list, ib_list_dict, ib_dict_int, ib_dict_bool, ib_dict_str, ib_dict_tuple, ib_dict_list, ib_dict_dict, Bool.not_true, Bool.not_false, true_and, and_true, decide_true, decide_false])
    exact q
/-! ### has_hole_row -/
theorem all_zip {c : List Nat} {zs : List Int} (hl : zs.length = c.length) : (((rst (izs c) zs).zip (izs (lst c))).all fun p => decide (p.2 ≤ p.1)) = ((List.range (c.length + 1)).all fun k => decide (((mm c k : Nat) : Int) ≤ (rst (izs c) zs).getD k 0)) := by
  have l1 : (rst (izs c) zs).length = c.length + 1 := by rw [rst_len (by rw [List.length_map]; omega), List.length_map]
  have l2 : (izs (lst c)).length = c.length + 1 := by rw [List.length_map, lst_len]
  rw [Bool.eq_iff_iff, List.all_eq_true, List.all_eq_true]
  constructor
  · intro h k hk
    have hk := List.mem_range.mp hk
    have := h ((rst (izs c) zs)[k]'(by omega), (izs (lst c))[k]'(by omega)) (by
      refine List.mem_of_getElem? (i := k) ?_
      rw [List.getElem?_zip_eq_some]
      exact ⟨List.getElem?_eq_getElem (by omega), List.getElem?_eq_getElem (by omega)⟩)
    have e1 : (rst (izs c) zs).getD k 0 = (rst (izs c) zs)[k]'(by omega) := by rw [List.getD_eq_getElem?_getD, List.getElem?_eq_getElem (by omega)]; rfl
    have e2 : ((mm c k : Nat) : Int) = (izs (lst c))[k]'(by omega) := by
      have := ints_at (lst c) k
      rw [lst_at (by omega), List.getD_eq_getElem?_getD, List.getElem?_eq_getElem (by omega)] at this
      exact this.symm
    rw [e1, e2]
    exact this
  · rintro h ⟨x, y⟩ hp
    obtain ⟨k, hk, e⟩ := List.getElem_of_mem hp
    have hk' : k < c.length + 1 := by rw [List.length_zip, l1, l2] at hk; omega
    have h1 := (List.getElem?_zip_eq_some (z := (x, y))).mp (by rw [List.getElem?_eq_getElem hk, e])
    have := h k (List.mem_range.mpr hk')
    have e1 : (rst (izs c) zs).getD k 0 = x := by rw [List.getD_eq_getElem?_getD, h1.1]; rfl
    have e2 : ((mm c k : Nat) : Int) = y := by
      have := ints_at (lst c) k
      rw [lst_at (by omega), List.getD_eq_getElem?_getD, h1.2] at this
      exact this.symm
    rw [e1, e2] at this
    exact this
theorem s_has_hole_row {c : List Nat} {zs : List Int} (F : CF c) (hz : zs.length ≤ 1000) (q : Q (.bl (hh c zs))) : m_has_hole_row [.tup (nl c), .tup (il zs)] Q E := by
  unfold m_has_hole_row mFn
  refine ⟨rfl, ?_⟩
  (try simp only [mSeq, mIfS, mOr, mAnd, mNot, mTest, mOp, mUn, mVar, mOwn, mC, mRet, mRetN, mNext, mAsg, mAsgO, mName, mGTup, mGCons, mGNil, mFor, mRng1, mRng2, mRng3, mCons, mNil, mPar, mParO, mParP, mDrop, mFz, mApp, mExt, mSetL, mLc, mYes, mSeqI, mOwnI, mOrI, mEnumL, mEnumT, mZip, mZipM, mOr2, mRevL, mRevT, mSl, mNoP, mP, mTup, mLst, mCb, mIf, mAndV, mOrV, mNotV, mChain, mBrk, mCnt, mNever, mAug, mCall0, mCallK0, hAdd, hSub, hInt, hIntC, hAnd, hDiv, hMod, hPow, hMul, hNeg, hCmp, hLt, hLe, hGt, hGe, hIx, hIxX, hLen, hIsi, hTuple, hList, hInt1, hAbs, D.isN, hIs, hNis, D.items, D.plain, D.kind, hEq_int, hNe_int, hEq_str, hNe_str, hEq_tups, hNe_tups, hEq_lsts, hNe_lsts, wipeE, List.map_cons, List.map_nil, List.replicate_succ, List.replicate_zero, List.cons_append, List.nil_append, List.getElem?_cons_zero, List.getElem?_cons_succ, List.set_cons_zero, List.set_cons_succ, List.length_cons, List.length_nil, Nat.reduceAdd, Nat.reduceSub, inT_int, inT_bool, inT_str, inT_tuple, inT_list, inT_dict, ib_NoneType_int, ib_NoneType_bool, ib_NoneType_str, ib_NoneType_tuple, ib_NoneType_list, ib_NoneType_dict, ib_bool_int, ib_bool_bool, ib_bool_str, ib_bool_tuple, ib_bool_list, ib_bool_dict, ib_int_int, ib_int_bool, ib_int_str, ib_int_tuple, ib_int_list, ib_int_dict, ib_str_int, ib_str_bool, ib_str_str, ib_str_tuple, ib_str_list, ib_str_dict, ib_tuple_int, ib_tuple_bool, ib_tuple_str, ib_tuple_tuple, ib_tuple_list, ib_tuple_dict, ib_list_int, ib_list_bool, ib_list_str, ib_list_tuple, ib_list_list, ib_list_dict, ib_dict_int, ib_dict_bool, ib_dict_str, ib_dict_tuple, ib_dict_list, ib_dict_dict, Bool.not_true, Bool.not_false, true_and, and_true, decide_true, decide_false])
  refine s_need_fitting F ?_
  refine s_are_counts hz ?_
  unfold hh at q
  (try simp only [mSeq, mIfS, mOr, mAnd, mNot, mTest, mOp, mUn, mVar, mOwn, mC, mRet, mRetN, mNext, mAsg, mAsgO, mName, mGTup, mGCons, mGNil, mFor, mRng1, mRng2, mRng3, mCons, mNil, mPar, mParO, mParP, mDrop, mFz, mApp, mExt, mSetL, mLc, mYes, mSeqI, mOwnI, mOrI, mEnumL, mEnumT, mZip, mZipM, mOr2, mRevL, mRevT, mSl, mNoP, mP, mTup, mLst, mCb, mIf, mAndV, mOrV, mNotV, mChain, mBrk, mCnt, mNever, mAug, mCall0, mCallK0, hAdd, hSub, hInt, hIntC, hAnd, hDiv, hMod, hPow, hMul, hNeg, hCmp, hLt, hLe, hGt, hGe, hIx, hIxX, hLen, hIsi, hTuple, hList, hInt1, hAbs, D.isN, hIs, hNis, D.items, D.plain, D.kind, hEq_int, hNe_int, hEq_str, hNe_str, hEq_tups, hNe_tups, hEq_lsts, hNe_lsts, wipeE, List.map_cons, List.map_nil, List.replicate_succ, List.replicate_zero, List.cons_append, List.nil_append, List.getElem?_cons_zero, List.getElem?_cons_succ, List.set_cons_zero, List.set_cons_succ, List.length_cons, List.length_nil, Nat.reduceAdd, Nat.reduceSub, inT_int, inT_bool, inT_str, inT_tuple, inT_list, inT_dict, ib_NoneType_int, ib_NoneType_bool, ib_NoneType_str, ib_NoneType_tuple, ib_NoneType_list, ib_NoneType_dict, ib_bool_int, ib_bool_bool, ib_bool_str, ib_bool_tuple, ib_bool_list, ib_bool_dict, ib_int_int, ib_int_bool, ib_int_str, ib_int_tuple, ib_int_list, ib_int_dict, ib_str_int, ib_str_bool, ib_str_str, ib_str_tuple, ib_str_list, ib_str_dict, ib_tuple_int, ib_tuple_bool, ib_tuple_str, ib_tuple_tuple, ib_tuple_list, ib_tuple_dict, ib_list_int, ib_list_bool, ib_list_str, ib_list_tuple, ib_list_list, ib_list_dict, ib_dict_int, ib_dict_bool, ib_dict_str, ib_dict_tuple, ib_dict_list, ib_dict_dict, Bool.not_true, Bool.not_false, true_and, and_true, decide_true, decide_false])
  rw [il_len, nl_len]
  cases h1 : zs.all (fun z => decide (0 ≤ z)) with
  | false => rw [h1] at q; exact q
  | true =>
    rw [h1, Bool.true_and] at q
    (try simp only [mSeq, mIfS, mOr, mAnd, mNot, mTest, mOp, mUn, mVar, mOwn, mC, mRet, mRetN, mNext, mAsg, mAsgO, mName, mGTup, mGCons, mGNil, mFor, mRng1, mRng2, mRng3, mCons, mNil, mPar, mParO, mParP, mDrop, mFz, mApp, mExt, mSetL, mLc, mYes, mSeqI, mOwnI, mOrI, mEnumL, mEnumT, mZip, mZipM, mOr2, mRevL, mRevT, mSl, mNoP, mP, mTup, mLst, mCb, mIf, mAndV, mOrV, mNotV, mChain, mBrk, mCnt, mNever, mAug, mCall0, mCallK0, hAdd, hSub, hInt, hIntC, hAnd, hDiv, hMod, hPow, hMul, hNeg, hCmp, hLt, hLe, hGt, hGe, hIx, hIxX, hLen, hIsi, hTuple, hList, hInt1, hAbs, D.isN, hIs, hNis, D.items, D.plain, D.kind, hEq_int, hNe_int, hEq_str, hNe_str, hEq_tups, hNe_tups, hEq_lsts, hNe_lsts, wipeE, List.map_cons, List.map_nil, List.replicate_succ, List.replicate_zero, List.cons_append, List.nil_append, List.getElem?_cons_zero, List.getElem?_cons_succ, List.set_cons_zero, List.set_cons_succ, List.length_cons, List.length_nil, Nat.reduceAdd, Nat.reduceSub, inT_int, inT_bool, inT_str, inT_tuple, inT_list, inT_dict, ib_NoneType_int, ib_NoneType_bool, ib_NoneType_str, ib_NoneType_tuple, ib_NoneType_list, ib_NoneType_dict, ib_bool_int, ib_bool_bool, ib_bool_str, ib_bool_tuple, ib_bool_list, ib_bool_dict, ib_int_int, ib_int_bool, ib_int_str, ib_int_tuple, ib_int_list, ib_int_dict, ib_str_int, ib_str_bool, ib_str_str, ib_str_tuple, ib_str_list, ib_str_dict, ib_tuple_int, ib_tuple_bool, ib_tuple_str, ib_tuple_tuple, ib_tuple_list, ib_tuple_dict, ib_list_int, ib_list_bool, ib_list_str, ib_list_tuple, ib_list_list, ib_list_dict, ib_dict_int, ib_dict_bool, ib_dict_str, ib_dict_tuple, ib_dict_list, ib_dict_dict, Bool.not_true, Bool.not_false, true_and, and_true, decide_true, decide_false])
    by_cases h2 : zs.length = c.length
    · rw [decide_eq_true (show ((zs.length : Nat) : Int) = (c.length : Nat) by omega)]
      rw [decide_eq_true h2, Bool.true_and] at q
      (try simp only [mSeq, mIfS, mOr, mAnd, mNot, mTest, mOp, mUn, mVar, mOwn, mC, mRet, mRetN, mNext, mAsg, mAsgO, mName, mGTup, mGCons, mGNil, mFor, mRng1, mRng2, mRng3, mCons, mNil, mPar, mParO, mParP, mDrop, mFz, mApp, mExt, mSetL, mLc, mYes, mSeqI, mOwnI, mOrI, mEnumL, mEnumT, mZip, mZipM, mOr2, mRevL, mRevT, mSl, mNoP, mP, mTup, mLst, mCb, mIf, mAndV, mOrV, mNotV, mChain, mBrk, mCnt, mNever, mAug, mCall0, mCallK0, hAdd, hSub, hInt, hIntC, hAnd, hDiv, hMod, hPow, hMul, hNeg, hCmp, hLt, hLe, hGt, hGe, hIx, hIxX, hLen, hIsi, hTuple, hList, hInt1, hAbs, D.isN, hIs, hNis, D.items, D.plain, D.kind, hEq_int, hNe_int, hEq_str, hNe_str, hEq_tups, hNe_tups, hEq_lsts, hNe_lsts, wipeE, List.map_cons, List.map_nil, List.replicate_succ, List.replicate_zero, List.cons_append, List.nil_append, List.getElem?_cons_zero, List.getElem?_cons_succ, List.set_cons_zero, List.set_cons_succ, List.length_cons, List.length_nil, Nat.reduceAdd, Nat.reduceSub, inT_int, inT_bool, inT_str, inT_tuple, inT_list, inT_dict, ib_NoneType_int, ib_NoneType_bool, ib_NoneType_str, ib_NoneType_tuple, ib_NoneType_list, ib_NoneType_dict, ib_bool_int, ib_bool_bool, ib_bool_str, ib_bool_tuple, ib_bool_list, ib_bool_dict, ib_int_int, ib_int_bool, ib_int_str, ib_int_tuple, ib_int_list, ib_int_dict, ib_str_int, ib_str_bool, ib_str_str, ib_str_tuple, ib_str_list, ib_str_dict, ib_tuple_int, ib_tuple_bool, ib_tuple_str, ib_tuple_tuple, ib_tuple_list, ib_tuple_dict, ib_list_int, ib_list_bool, ib_list_str, ib_list_tuple, ib_list_list, ib_list_dict, ib_dict_int, ib_dict_bool, ib_dict_str, ib_dict_tuple, ib_dict_list, ib_dict_dict, Bool.not_true, Bool.not_false, true_and, and_true, decide_true, decide_false])
      rw [nl_il]
      have l0 : (izs c).length = zs.length := by rw [List.length_map]; omega
      have h16 := F.len
      refine s_rests_by l0 (by rw [List.length_map]; omega) ?_
      have l1 : (rst (izs c) zs).length = c.length + 1 := by rw [rst_len l0, List.length_map]
      (try simp only [mSeq, mIfS, mOr, mAnd, mNot, mTest, mOp, mUn, mVar, mOwn, mC, mRet, mRetN, mNext, mAsg, mAsgO, mName, mGTup, mGCons, mGNil, mFor, mRng1, mRng2, mRng3, mCons, mNil, mPar, mParO, mParP, mDrop, mFz, mApp, mExt, mSetL, mLc, mYes, mSeqI, mOwnI, mOrI, mEnumL, mEnumT, mZip, mZipM, mOr2, mRevL, mRevT, mSl, mNoP, mP, mTup, mLst, mCb, mIf, mAndV, mOrV, mNotV, mChain, mBrk, mCnt, mNever, mAug, mCall0, mCallK0, hAdd, hSub, hInt, hIntC, hAnd, hDiv, hMod, hPow, hMul, hNeg, hCmp, hLt, hLe, hGt, hGe, hIx, hIxX, hLen, hIsi, hTuple, hList, hInt1, hAbs, D.isN, hIs, hNis, D.items, D.plain, D.kind, hEq_int, hNe_int, hEq_str, hNe_str, hEq_tups, hNe_tups, hEq_lsts, hNe_lsts, wipeE, List.map_cons, List.map_nil, List.replicate_succ, List.replicate_zero, List.cons_append, List.nil_append, List.getElem?_cons_zero, List.getElem?_cons_succ, List.set_cons_zero, List.set_cons_succ, List.length_cons, List.length_nil, Nat.reduceAdd, Nat.reduceSub, inT_int, inT_bool, inT_str, inT_tuple, inT_list, inT_dict, ib_NoneType_int, ib_NoneType_bool, ib_NoneType_str, ib_NoneType_tuple, ib_NoneType_list, ib_NoneType_dict, ib_bool_int, ib_bool_bool, ib_bool_str, ib_bool_tuple, ib_bool_list, ib_bool_dict, ib_int_int, ib_int_bool, ib_int_str, ib_int_tuple, ib_int_list, ib_int_dict, ib_str_int, ib_str_bool, ib_str_str, ib_str_tuple, ib_str_list, ib_str_dict, ib_tuple_int, ib_tuple_bool, ib_tuple_str, ib_tuple_tuple, ib_tuple_list, ib_tuple_dict, ib_list_int, ib_list_bool, ib_list_str, ib_list_tuple, ib_list_list, ib_list_dict, ib_dict_int, ib_dict_bool, ib_dict_str, ib_dict_tuple, ib_dict_list, ib_dict_dict, Bool.not_true, Bool.not_false, true_and, and_true, decide_true, decide_false])
      refine ⟨_, at_il (k := 0) rfl (by omega), ?_⟩
      (try simp only [mSeq, mIfS, mOr, mAnd, mNot, mTest, mOp, mUn, mVar, mOwn, mC, mRet, mRetN, mNext, mAsg, mAsgO, mName, mGTup, mGCons, mGNil, mFor, mRng1, mRng2, mRng3, mCons, mNil, mPar, mParO, mParP, mDrop, mFz, mApp, mExt, mSetL, mLc, mYes, mSeqI, mOwnI, mOrI, mEnumL, mEnumT, mZip, mZipM, mOr2, mRevL, mRevT, mSl, mNoP, mP, mTup, mLst, mCb, mIf, mAndV, mOrV, mNotV, mChain, mBrk, mCnt, mNever, mAug, mCall0, mCallK0, hAdd, hSub, hInt, hIntC, hAnd, hDiv, hMod, hPow, hMul, hNeg, hCmp, hLt, hLe, hGt, hGe, hIx, hIxX, hLen, hIsi, hTuple, hList, hInt1, hAbs, D.isN, hIs, hNis, D.items, D.plain, D.kind, hEq_int, hNe_int, hEq_str, hNe_str, hEq_tups, hNe_tups, hEq_lsts, hNe_lsts, wipeE, List.map_cons, List.map_nil, List.replicate_succ, List.replicate_zero, List.cons_append, List.nil_append, List.getElem?_cons_zero, List.getElem?_cons_succ, List.set_cons_zero, List.set_cons_succ, List.length_cons, List.length_nil, Nat.reduceAdd, Nat.reduceSub, inT_int, inT_bool, inT_str, inT_tuple, inT_list, inT_dict, ib_NoneType_int, ib_NoneType_bool, ib_NoneType_str, ib_NoneType_tuple, ib_NoneType_list, ib_NoneType_dict, ib_bool_int, ib_bool_bool, ib_bool_str, ib_bool_tuple, ib_bool_list, ib_bool_dict, ib_int_int, ib_int_bool, ib_int_str, ib_int_tuple, ib_int_list, ib_int_dict, ib_str_int, ib_str_bool, ib_str_str, ib_str_tuple, ib_str_list, ib_str_dict, ib_tuple_int, ib_tuple_bool, ib_tuple_str, ib_tuple_tuple, ib_tuple_list, ib_tuple_dict, ib_list_int, ib_list_bool, ib_list_str, ib_list_tuple, ib_list_list, ib_list_dict, ib_dict_int, ib_dict_bool, ib_dict_str, ib_dict_tuple, ib_dict_list, ib_dict_dict, Bool.not_true, Bool.not_false, true_and, and_true, decide_true, decide_false])
      by_cases h3 : (rst (izs c) zs).getD 0 0 = 1
      · rw [decide_eq_true h3]
        rw [decide_eq_true h3, Bool.true_and] at q
        rw [← nl_il]
        (try simp only [mSeq, mIfS, mOr, mAnd, mNot, mTest, mOp, mUn, mVar, mOwn, mC, mRet, mRetN, mNext, mAsg, mAsgO, mName, mGTup, mGCons, mGNil, mFor, mRng1, mRng2, mRng3, mCons, mNil, mPar, mParO, mParP, mDrop, mFz, mApp, mExt, mSetL, mLc, mYes, mSeqI, mOwnI, mOrI, mEnumL, mEnumT, mZip, mZipM, mOr2, mRevL, mRevT, mSl, mNoP, mP, mTup, mLst, mCb, mIf, mAndV, mOrV, mNotV, mChain, mBrk, mCnt, mNever, mAug, mCall0, mCallK0, hAdd, hSub, hInt, hIntC, hAnd, hDiv, hMod, hPow, hMul, hNeg, hCmp, hLt, hLe, hGt, hGe, hIx, hIxX, hLen, hIsi, hTuple, hList, hInt1, hAbs, D.isN, hIs, hNis, D.items, D.plain, D.kind, hEq_int, hNe_int, hEq_str, hNe_str, hEq_tups, hNe_tups, hEq_lsts, hNe_lsts, wipeE, List.map_cons, List.map_nil, List.replicate_succ, List.replicate_zero, List.cons_append, List.nil_append, List.getElem?_cons_zero, List.getElem?_cons_succ, List.set_cons_zero, List.set_cons_succ, List.length_cons, List.length_nil, Nat.reduceAdd, Nat.reduceSub, inT_int, inT_bool, inT_str, inT_tuple, inT_list, inT_dict, ib_NoneType_int, ib_NoneType_bool, ib_NoneType_str, ib_NoneType_tuple, ib_NoneType_list, ib_NoneType_dict, ib_bool_int, ib_bool_bool, ib_bool_str, ib_bool_tuple, ib_bool_list, ib_bool_dict, ib_int_int, ib_int_bool, ib_int_str, ib_int_tuple, ib_int_list, ib_int_dict, ib_str_int, ib_str_bool, ib_str_str, ib_str_tuple, ib_str_list, ib_str_dict, ib_tuple_int, ib_tuple_bool, ib_tuple_str, ib_tuple_tuple, ib_tuple_list, ib_tuple_dict, ib_list_int, ib_list_bool, ib_list_str, ib_list_tuple, ib_list_list, ib_list_dict, ib_dict_int, ib_dict_bool, ib_dict_str, ib_dict_tuple, ib_dict_list, ib_dict_dict, Bool.not_true, Bool.not_false, true_and, and_true, decide_true, decide_false])
        refine s_least_by F ?_
        (try simp only [mSeq, mIfS, mOr, mAnd, mNot, mTest, mOp, mUn, mVar, mOwn, mC, mRet, mRetN, mNext, mAsg, mAsgO, mName, mGTup, mGCons, mGNil, mFor, mRng1, mRng2, mRng3, mCons, mNil, mPar, mParO, mParP, mDrop, mFz, mApp, mExt, mSetL, mLc, mYes, mSeqI, mOwnI, mOrI, mEnumL, mEnumT, mZip, mZipM, mOr2, mRevL, mRevT, mSl, mNoP, mP, mTup, mLst, mCb, mIf, mAndV, mOrV, mNotV, mChain, mBrk, mCnt, mNever, mAug, mCall0, mCallK0, hAdd, hSub, hInt, hIntC, hAnd, hDiv, hMod, hPow, hMul, hNeg, hCmp, hLt, hLe, hGt, hGe, hIx, hIxX, hLen, hIsi, hTuple, hList, hInt1, hAbs, D.isN, hIs, hNis, D.items, D.plain, D.kind, hEq_int, hNe_int, hEq_str, hNe_str, hEq_tups, hNe_tups, hEq_lsts, hNe_lsts, wipeE, List.map_cons, List.map_nil, List.replicate_succ, List.replicate_zero, List.cons_append, List.nil_append, List.getElem?_cons_zero, List.getElem?_cons_succ, List.set_cons_zero, List.set_cons_succ, List.length_cons, List.length_nil, Nat.reduceAdd, Nat.reduceSub, inT_int, inT_bool, inT_str, inT_tuple, inT_list, inT_dict, ib_NoneType_int, ib_NoneType_bool, ib_NoneType_str, ib_NoneType_tuple, ib_NoneType_list, ib_NoneType_dict, ib_bool_int, ib_bool_bool, ib_bool_str, ib_bool_tuple, ib_bool_list, ib_bool_dict, ib_int_int, ib_int_bool, ib_int_str, ib_int_tuple, ib_int_list, ib_int_dict, ib_str_int, ib_str_bool, ib_str_str, ib_str_tuple, ib_str_list, ib_str_dict, ib_tuple_int, ib_tuple_bool, ib_tuple_str, ib_tuple_tuple, ib_tuple_list, ib_tuple_dict, ib_list_int, ib_list_bool, ib_list_str, ib_list_tuple, ib_list_list, ib_list_dict, ib_dict_int, ib_dict_bool, ib_dict_str, ib_dict_tuple, ib_dict_list, ib_dict_dict, Bool.not_true, Bool.not_false, true_and, and_true, decide_true, decide_false])
        rw [nl_il (lst c), zip_map]
        refine ⟨by rw [List.length_map, List.length_zip]; omega, ?_⟩
        refine lcL_all _ (fun p => .bl (decide (p.2 ≤ p.1))) (fun p hp Qd hd => ?_) ?_
        · (try simp only [mSeq, mIfS, mOr, mAnd, mNot, mTest, mOp, mUn, mVar, mOwn, mC, mRet, mRetN, mNext, mAsg, mAsgO, mName, mGTup, mGCons, mGNil, mFor, mRng1, mRng2, mRng3, mCons, mNil, mPar, mParO, mParP, mDrop, mFz, mApp, mExt, mSetL, mLc, mYes, mSeqI, mOwnI, mOrI, mEnumL, mEnumT, mZip, mZipM, mOr2, mRevL, mRevT, mSl, mNoP, mP, mTup, mLst, mCb, mIf, mAndV, mOrV, mNotV, mChain, mBrk, mCnt, mNever, mAug, mCall0, mCallK0, hAdd, hSub, hInt, hIntC, hAnd, hDiv, hMod, hPow, hMul, hNeg, hCmp, hLt, hLe, hGt, hGe, hIx, hIxX, hLen, hIsi, hTuple, hList, hInt1, hAbs, D.isN, hIs, hNis, D.items, D.plain, D.kind, hEq_int, hNe_int, hEq_str, hNe_str, hEq_tups, hNe_tups, hEq_lsts, hNe_lsts, wipeE, List.map_cons, List.map_nil, List.replicate_succ, List.replicate_zero, List.cons_append, List.nil_append, List.getElem?_cons_zero, List.getElem?_cons_succ, List.set_cons_zero, List.set_cons_succ, List.length_cons, List.length_nil, Nat.reduceAdd, Nat.reduceSub, inT_int, inT_bool, inT_str, inT_tuple, inT_list, inT_dict, ib_NoneType_int, ib_NoneType_bool, ib_NoneType_str, ib_NoneType_tuple, ib_NoneType_list, ib_NoneType_dict, ib_bool_int, ib_bool_bool, ib_bool_str, ib_bool_tuple, ib_bool_list, ib_bool_dict, ib_int_int, ib_int_bool, ib_int_str, ib_int_tuple, ib_int_list, ib_int_dict, ib_str_int, ib_str_bool, ib_str_str, ib_str_tuple, ib_str_list, ib_str_dict, ib_tuple_int, ib_tuple_bool, ib_tuple_str, ib_tuple_tuple, ib_tuple_list, ib_tuple_dict, ib_list_int, ib_list_bool, ib_list_str, ib_list_tuple, ib_list_list, ib_list_dict, ib_dict_int, ib_dict_bool, ib_dict_str, ib_dict_tuple, ib_dict_list, ib_dict_dict, Bool.not_true, Bool.not_false, true_and, and_true, decide_true, decide_false])
          exact hd
        · unfold hAll
          refine ⟨((rst (izs c) zs).zip (izs (lst c))).map fun p => decide (p.2 ≤ p.1), by rw [List.map_map]; rfl, ?_⟩
          rw [List.all_map]
          have e := all_zip (c := c) (zs := zs) h2
          rw [← e] at q
          exact q
      · rw [decide_eq_false h3]
        rw [decide_eq_false h3, Bool.false_and] at q
        exact q
    · rw [decide_eq_false (show ¬ ((zs.length : Nat) : Int) = (c.length : Nat) by omega)]
      rw [decide_eq_false h2, Bool.false_and] at q
      (try simp only [mSeq, mIfS, mOr, mAnd, mNot, mTest, mOp, mUn, mVar, mOwn, mC, mRet, mRetN, mNext, mAsg, mAsgO, mName, mGTup, mGCons, mGNil, mFor, mRng1, mRng2, mRng3, mCons, mNil, mPar, mParO, mParP, mDrop, mFz, mApp, mExt, mSetL, mLc, mYes, mSeqI, mOwnI, mOrI, mEnumL, mEnumT, mZip, mZipM, mOr2, mRevL, mRevT, mSl, mNoP, mP, mTup, mLst, mCb, mIf, mAndV, mOrV, mNotV, mChain, mBrk, mCnt, mNever, mAug, mCall0, mCallK0, hAdd, hSub, hInt, hIntC, hAnd, hDiv, hMod, hPow, hMul, hNeg, hCmp, hLt, hLe, hGt, hGe, hIx, hIxX, hLen, hIsi, hTuple, hList, hInt1, hAbs, D.isN, hIs, hNis, D.items, D.plain, D.kind, hEq_int, hNe_int, hEq_str, hNe_str, hEq_tups, hNe_tups, hEq_lsts, hNe_lsts, wipeE, List.map_cons, List.map_nil, List.replicate_succ, List.replicate_zero, List.cons_append, List.nil_append, List.getElem?_cons_zero, List.getElem?_cons_succ, List.set_cons_zero, List.set_cons_succ, List.length_cons, List.length_nil, Nat.reduceAdd, Nat.reduceSub, inT_int, inT_bool, inT_str, inT_tuple, inT_list, inT_dict, ib_NoneType_int, ib_NoneType_bool, ib_NoneType_str, ib_NoneType_tuple, ib_NoneType_list, ib_NoneType_dict, ib_bool_int, ib_bool_bool, ib_bool_str, ib_bool_tuple, ib_bool_list, ib_bool_dict, ib_int_int, ib_int_bool, ib_int_str, ib_int_tuple, ib_int_list, ib_int_dict, ib_str_int, ib_str_bool, ib_str_str, ib_str_tuple, ib_str_list, ib_str_dict, ib_tuple_int, ib_tuple_bool, ib_tuple_str, ib_tuple_tuple, ib_tuple_list, ib_tuple_dict, ib_list_int, ib_list_bool, ib_list_str, ib_list_tuple, ib_list_list, ib_list_dict, ib_dict_int, ib_dict_bool, ib_dict_str, ib_dict_tuple, ib_dict_list, ib_dict_dict, Bool.not_true, Bool.not_false, true_and, and_true, decide_true, decide_false])
      exact q
end MR

/-! How great the four numbers are. -/
namespace HR
theorem ch_sq {a i : Nat} (hi : 1 ≤ i) (h : i ≤ a) : ch a (i + 1) ≤ ch a i * ch a i := by
  have h1 := ch_mul a i
  have h2 : ch a (i + 1) ≤ ch a (i + 1) * (i + 1) := Nat.le_mul_of_pos_right _ (by omega)
  have h3 := ch_ge hi h
  have h4 : ch a i * (a - i) ≤ ch a i * ch a i := Nat.mul_le_mul_left _ (by omega)
  omega
theorem sumC_sq (f : Nat → Nat → Nat) (hf : ∀ a i, 1 ≤ i → i ≤ a → f a i ≤ ch a i * ch a i + ch a i) : ∀ {s : Nat} {c : List Nat}, IsCas s c → sumC f s c ≤ val s c * val s c + val s c
  | _, [], _ => Nat.zero_le _
  | 0, _ :: _, h => h.elim
  | s + 1, a :: c, h => by
    have ih := sumC_sq f hf h.2.2
    have h1 := hf a (s + 1) (by omega) h.1
    show f a (s + 1) + sumC f s c ≤ (ch a (s + 1) + val s c) * (ch a (s + 1) + val s c) + (ch a (s + 1) + val s c)
    rw [Nat.add_mul, Nat.mul_add, Nat.mul_add]
    have ih' : sumC f s c ≤ val s c * val s c + val s c := ih
    have := Nat.zero_le (ch a (s + 1) * val s c)
    have := Nat.zero_le (val s c * ch a (s + 1))
    omega
theorem fUS_sq (a i : Nat) (hi : 1 ≤ i) (h : i ≤ a) : fUS a i ≤ ch a i * ch a i + ch a i := by
  have := ch_sq hi h
  show ch a (i + 1) ≤ _
  omega
theorem fUP_sq (a i : Nat) (hi : 1 ≤ i) (h : i ≤ a) : fUP a i ≤ ch a i * ch a i + ch a i := by
  have := ch_sq hi h
  show ch a i + ch a (i + 1) ≤ _
  omega
theorem ch_up {a i : Nat} (hi : 1 ≤ i) (h : i ≤ a) : ch a (i - 1) ≤ ch a i * i := by
  obtain ⟨k, rfl⟩ : ∃ k, i = k + 1 := ⟨i - 1, by omega⟩
  rw [Nat.add_sub_cancel, ch_mul]
  exact Nat.le_mul_of_pos_right _ (by omega)
theorem sumC_lin (f : Nat → Nat → Nat) (m : Nat) : ∀ {s : Nat} {c : List Nat}, s ≤ m → (∀ a i, 1 ≤ i → i ≤ a → i ≤ m → f a i ≤ ch a i * m) → IsCas s c → sumC f s c ≤ val s c * m
  | _, [], _, _, _ => Nat.zero_le _
  | 0, _ :: _, _, _, h => h.elim
  | s + 1, a :: c, hs, hf, h => by
    have ih := sumC_lin f m (by omega) hf h.2.2
    have h1 := hf a (s + 1) (by omega) h.1 hs
    show f a (s + 1) + sumC f s c ≤ (ch a (s + 1) + val s c) * m
    rw [Nat.add_mul]
    have ih' : sumC f s c ≤ val s c * m := ih
    omega
theorem fLS_lin (m a i : Nat) (hi : 1 ≤ i) (h : i ≤ a) (hm : i ≤ m) : fLS a i ≤ ch a i * m := by
  have h1 := ch_up hi h
  have h2 : ch a i * i ≤ ch a i * m := Nat.mul_le_mul_left _ hm
  show ch a (i - 1) ≤ _
  omega
theorem fLP_lin (m a i : Nat) (hi : 1 ≤ i) (h : i ≤ a) (hm : i ≤ m) : fLP a i ≤ ch a i * m := by
  have h1 := fLS_lin m a i hi h hm
  have h2 : ch (a - 1) (i - 1) ≤ ch a (i - 1) := ch_mono (by omega)
  have h3 : fLS a i = ch a (i - 1) := rfl
  show ch (a - 1) (i - 1) ≤ _
  omega
theorem US_le (n s : Nat) (hs : 1 ≤ s) : US n s ≤ n * n + n := by
  have := sumC_sq fUS fUS_sq (cas_is s n)
  rw [cas_val s n (by omega)] at this
  exact this
theorem UP_le (n s : Nat) (hs : 1 ≤ s) : UP n s ≤ n * n + n := by
  have := sumC_sq fUP fUP_sq (cas_is s n)
  rw [cas_val s n (by omega)] at this
  exact this
theorem LS_le (n s : Nat) (hs : 1 ≤ s) : LS n s ≤ n * s := by
  have := sumC_lin fLS s (Nat.le_refl s) (fLS_lin s) (cas_is s n)
  rw [cas_val s n (by omega)] at this
  exact this
theorem LP_lin (n s : Nat) (hs : 1 ≤ s) : LP n s ≤ n * s := by
  have := sumC_lin fLP s (Nat.le_refl s) (fLP_lin s) (cas_is s n)
  rw [cas_val s n (by omega)] at this
  exact this
end HR

/-! The law of least rests and most holes. -/
namespace Lk34
open PySem PySem.Spec PyProof.Rows L2 HL VM HR MC MR
abbrev m_law_draw := m_draw
def m_law_is_integer : List D → M D := mFn 1 1 <|
    (mRet (mAndV (mCb hIsi (mCons (mVar 0) (mCons (mC (.ty "int")) mNil))) (mNotV (mCb hIsi (mCons (mVar 0) (mCons (mC (.ty "bool")) mNil))))))
def m_law_choose : List D → M D := mFn 2 4 <|
    (mSeq (mIfS (mTest (mOp hGt (mVar 1) (mVar 0))) (mRet (mC (.int 0))) mNext)
    (mSeq (mAsg (mC (.int 1)) (mName 2))
    (mSeq (mFor (mRng1 (mCons (mVar 1) mNil)) (mName 3) (mAsg (mOp hDiv (mOp hMul (mVar 2) (mOp hSub (mVar 0) (mVar 3))) (mOp hAdd (mVar 3) (mC (.int 1)))) (mName 2)))
    (mRet (mVar 2)))))
def m_law_rests : List D → M D := mFn 2 5 <|
    (mSeq (mAsgO (mLst (mCons (mC (.int 0)) mNil)) 2)
    (mSeq (mFor (mZipM (mCons (mOr2 (mRevL (mVar 0)) (mRevT (mVar 0))) (mCons (mOr2 (mRevL (mVar 1)) (mRevT (mVar 1))) mNil))) (mGTup 2 (mGCons (mName 3) (mGCons (mName 4) mGNil))) (mApp 2 (mOp hSub (mOp hSub (mVar 3) (mVar 4)) (mOp hIx (mOwn 2) (mUn hNeg (mC (.int 1)))))))
    (mRet (mCb hTuple (mCons (mOr2 (mRevL (mOwn 2)) (mRevT (mOwn 2))) mNil)))))
def m_law_least_holes : List D → M D := mFn 2 7 <|
    (mSeq (mParO 2 3 (mLst mNil) (mCb hLen (mCons (mVar 0) mNil)))
    (mSeq (mFor (mRng1 (mCons (mVar 3) mNil)) (mName 4) (mSeq (mAsg (mIf (mTest (mOp hEq (mVar 4) (mC (.int 0)))) (mC (.int 1)) (mOp hSub (mOp hIx (mVar 0) (mOp hSub (mVar 4) (mC (.int 1)))) (mOp hIx (mVar 1) (mOp hSub (mVar 4) (mC (.int 1)))))) (mName 5))
    (mSeq (mAsg (mIf (mTest (mOp hEq (mVar 4) (mOp hSub (mVar 3) (mC (.int 1))))) (mC (.int 0)) (mOp hSub (mOp hIx (mVar 0) (mOp hAdd (mVar 4) (mC (.int 1)))) (mOp hIx (mVar 1) (mOp hAdd (mVar 4) (mC (.int 2)))))) (mName 6))
    (mApp 2 (mCb hMax (mCons (mC (.int 0)) (mCons (mOp hSub (mOp hSub (mOp hIx (mVar 0) (mVar 4)) (mVar 5)) (mVar 6)) mNil)))))))
    (mRet (mCb hTuple (mCons (mOwn 2) mNil)))))
def m_law_pick : List D → M D := mFn 2 2 <|
    (mRet (mOp hIx (mVar 1) (mCall0 2 m_law_draw (mCons (mVar 0) (mCons (mCb hLen (mCons (mVar 1) mNil)) mNil)))))
def m_law_are_integers : List D → M D := mFn 2 3 <|
    (mRet (mAndV (mCb hIsi (mCons (mVar 0) (mCons (mC (.ty "tuple")) mNil))) (mAndV (mOp hEq (mCb hLen (mCons (mVar 0) mNil)) (mVar 1)) (mOp hEq (mLc (mSeqI (mVar 0)) (mName 2) (mNot (mTest (mCall0 1 m_law_is_integer (mCons (mVar 2) mNil)))) (mC (.int 1)) [2]) (mLst mNil)))))
def m_law_top : List D → M D := mFn 2 5 <|
    (mSeq (mPar 2 3 (mCons (mVar 1) (mCons (mOp hAdd (mVar 1) (mC (.int 1))) mNil)))
    (mSeq (mWhile (mTest (mOp hLe (mCall0 2 m_law_choose (mCons (mVar 3) (mCons (mVar 1) mNil))) (mVar 0))) (mPar 2 3 (mCons (mVar 3) (mCons (mOp hAdd (mOp hMul (mC (.int 2)) (mVar 3)) (mC (.int 2))) mNil))))
    (mSeq (mWhile (mTest (mOp hGt (mOp hSub (mVar 3) (mVar 2)) (mC (.int 1)))) (mSeq (mAsg (mOp hDiv (mOp hAdd (mVar 2) (mVar 3)) (mC (.int 2))) (mName 4))
    (mIfS (mTest (mOp hLe (mCall0 2 m_law_choose (mCons (mVar 4) (mCons (mVar 1) mNil))) (mVar 0))) (mAsg (mVar 4) (mName 2)) (mAsg (mVar 4) (mName 3)))))
    (mRet (mVar 2)))))
def m_law_below : List D → M D := mFn 2 4 <|
    (mSeq (mAsg (mTup (mCons (mC (.int 0)) (mCons (mC (.int 1)) mNil))) (mGTup 2 (mGCons (mName 2) (mGCons (mName 3) mGNil))))
    (mSeq (mWhile (mTest (mOp hLt (mVar 3) (mVar 1))) (mPar 2 3 (mCons (mOp hAdd (mOp hMul (mVar 2) (mOp hPow (mC (.int 10)) (mC (.int 6)))) (mCall0 2 m_law_draw (mCons (mVar 0) (mCons (mOp hPow (mC (.int 10)) (mC (.int 6))) mNil)))) (mCons (mOp hMul (mVar 3) (mOp hPow (mC (.int 10)) (mC (.int 6)))) mNil))))
    (mRet (mOp hMod (mCb hInt1 (mCons (mVar 2) mNil)) (mVar 1)))))
def m_law_cascade : List D → M D := mFn 2 6 <|
    (mSeq (mParO 2 3 (mLst mNil) (mVar 0))
    (mSeq (mFor (mRng3 (mCons (mVar 1) (mCons (mC (.int 0)) (mCons (mUn hNeg (mC (.int 1))) mNil)))) (mName 4) (mIfS (mTest (mOp hGt (mVar 3) (mC (.int 0)))) (mSeq (mAsg (mCall0 2 m_law_top (mCons (mVar 3) (mCons (mVar 4) mNil))) (mName 5))
    (mSeq (mApp 2 (mVar 5))
    (mAsg (mOp hSub (mVar 3) (mCall0 2 m_law_choose (mCons (mVar 5) (mCons (mVar 4) mNil)))) (mName 3)))) mNext))
    (mRet (mCb hTuple (mCons (mOwn 2) mNil)))))
def m_law_lower_sets : List D → M D := mFn 2 4 <|
    (mRet (mCb hSum (mCons (mLc (mOrI (mEnumL (mCons (mCall0 2 m_law_cascade (mCons (mVar 0) (mCons (mVar 1) mNil))) mNil)) (mEnumT (mCons (mCall0 2 m_law_cascade (mCons (mVar 0) (mCons (mVar 1) mNil))) mNil))) (mGTup 2 (mGCons (mName 2) (mGCons (mName 3) mGNil))) mYes (mCall0 2 m_law_choose (mCons (mVar 3) (mCons (mOp hSub (mOp hSub (mVar 1) (mVar 2)) (mC (.int 1))) mNil))) [2, 3]) mNil)))
def m_law_does_fit : List D → M D := mFn 2 4 <|
    (mSeq (mAsg (mCall0 2 m_law_rests (mCons (mVar 0) (mCons (mVar 1) mNil))) (mName 2))
    (mSeq (mIfS (mOr (mTest (mOp hNe (mOp hIx (mVar 2) (mC (.int 0))) (mC (.int 1)))) (mTest (mOp hLt (mCb hMin (mCons (mVar 2) mNil)) (mC (.int 0))))) (mRet (mC (.bl false))) mNext)
    (mSeq (mFor (mRng2 (mCons (mC (.int 1)) (mCons (mCb hLen (mCons (mVar 0) mNil)) mNil))) (mName 3) (mIfS (mTest (mOp hGt (mCall0 2 m_law_lower_sets (mCons (mOp hAdd (mOp hIx (mVar 2) (mOp hAdd (mVar 3) (mC (.int 1)))) (mOp hIx (mVar 1) (mVar 3))) (mCons (mOp hAdd (mVar 3) (mC (.int 1))) mNil))) (mOp hIx (mVar 2) (mVar 3)))) (mRet (mC (.bl false))) mNext))
    (mRet (mC (.bl true))))))
def m_law_some_counts : List D → M D := mFn 3 6 <|
    (mSeq (mAsg (mLst (mCons (mOp hAdd (mC (.int 1)) (mCall0 2 m_law_below (mCons (mVar 0) (mCons (mVar 2) mNil)))) mNil)) (mName 3))
    (mSeq (mFor (mRng3 (mCons (mOp hSub (mVar 1) (mC (.int 1))) (mCons (mC (.int 0)) (mCons (mUn hNeg (mC (.int 1))) mNil)))) (mName 4) (mSeq (mAsg (mCall0 2 m_law_lower_sets (mCons (mOp hIx (mVar 3) (mC (.int 0))) (mCons (mOp hAdd (mVar 4) (mC (.int 1))) mNil))) (mName 5))
    (mAsg (mOp hAdd (mLst (mCons (mOp hAdd (mVar 5) (mIf (mTest (mOp hEq (mCall0 2 m_law_draw (mCons (mVar 0) (mCons (mC (.int 2)) mNil))) (mC (.int 0)))) (mCall0 2 m_law_draw (mCons (mVar 0) (mCons (mC (.int 4)) mNil))) (mC (.int 0)))) mNil)) (mVar 3)) (mName 3))))
    (mRet (mCb hTuple (mCons (mVar 3) mNil)))))
def m_law_is_least : List D → M D := mFn 3 3 <|
    (mSeq (mIfS (mOr (mTest (mOp hLt (mVar 2) (mC (.int 0)))) (mTest (mOp hGt (mCall0 2 m_law_lower_sets (mCons (mOp hSub (mOp hIx (mVar 0) (mVar 1)) (mVar 2)) (mCons (mOp hAdd (mVar 1) (mC (.int 1))) mNil))) (mVar 2)))) (mRet (mC (.bl false))) mNext)
    (mRet (mOrV (mOp hEq (mVar 2) (mC (.int 0))) (mOp hGt (mCall0 2 m_law_lower_sets (mCons (mOp hAdd (mOp hSub (mOp hIx (mVar 0) (mVar 1)) (mVar 2)) (mC (.int 1))) (mCons (mOp hAdd (mVar 1) (mC (.int 1))) mNil))) (mOp hSub (mVar 2) (mC (.int 1)))))))
abbrev pm_least_rests_counts : List Nat := [0]
abbrev pm_least_holes_counts : List Nat := [0]
abbrev pm_has_hole_row_thing_counts : List Nat := [1, 0]
def m_law : MS :=
    (mSeq (mAsg (mIf (mTest (mOp hEq (mCall0 2 m_law_draw (mCons (mVar 1) (mCons (mC (.int 4)) mNil))) (mC (.int 0)))) (mCall0 2 m_law_pick (mCons (mVar 1) (mCons (mLst (mCons (mOp hPow (mC (.int 10)) (mC (.int 3))) (mCons (mOp hPow (mC (.int 10)) (mC (.int 9))) (mCons (mOp hPow (mC (.int 10)) (mC (.int 28))) mNil)))) mNil))) (mC (.int 6))) (mName 2))
    (mSeq (mAsg (mCall0 3 m_law_some_counts (mCons (mVar 1) (mCons (mOp hAdd (mC (.int 1)) (mCall0 2 m_law_draw (mCons (mVar 1) (mCons (mC (.int 4)) mNil)))) (mCons (mVar 2) mNil)))) (mName 3))
    (mSeq (mAsg (mIf (mTest (mOp hEq (mCall0 2 m_law_draw (mCons (mVar 1) (mCons (mC (.int 2)) mNil))) (mC (.int 0)))) (mCall0 1 m_least_rests (mCons (mVar 3) mNil)) (mCallK0 1 m_least_rests pm_least_rests_counts (mCons (mVar 3) mNil))) (mName 4))
    (mSeq (mAsg (mCb hLen (mCons (mVar 3) mNil)) (mName 5))
    (mSeq (mIfS (mOr (mNot (mTest (mCall0 2 m_law_are_integers (mCons (mVar 4) (mCons (mOp hAdd (mVar 5) (mC (.int 1))) mNil))))) (mOr (mTest (mOp hNe (mOp hIx (mVar 4) (mC (.int 0))) (mC (.int 1)))) (mTest (mOp hNe (mOp hIx (mVar 4) (mVar 5)) (mC (.int 0)))))) (mRet (mC (.bl false))) mNext)
    (mSeq (mIfS (mTest (mOp hNe (mLc (mRng2 (mCons (mC (.int 1)) (mCons (mVar 5) mNil))) (mName 13) (mNot (mTest (mCall0 3 m_law_is_least (mCons (mVar 3) (mCons (mVar 13) (mCons (mOp hIx (mVar 4) (mVar 13)) mNil)))))) (mC (.int 1)) [13]) (mLst mNil))) (mRet (mC (.bl false))) mNext)
    (mSeq (mAsg (mCb hTuple (mCons (mLc (mRng1 (mCons (mVar 5) mNil)) (mName 13) mYes (mOp hSub (mOp hSub (mOp hIx (mVar 3) (mVar 13)) (mOp hIx (mVar 4) (mVar 13))) (mOp hIx (mVar 4) (mOp hAdd (mVar 13) (mC (.int 1))))) [13]) mNil)) (mName 6))
    (mSeq (mAsg (mCall0 2 m_law_least_holes (mCons (mVar 3) (mCons (mVar 4) mNil))) (mName 7))
    (mSeq (mIfS (mOr (mTest (mOp hNe (mCb hRepr (mCons (mCall0 1 m_most_holes (mCons (mVar 3) mNil)) mNil)) (mCb hRepr (mCons (mVar 6) mNil)))) (mTest (mOp hNe (mCb hRepr (mCons (mCallK0 1 m_least_holes pm_least_holes_counts (mCons (mVar 3) mNil)) mNil)) (mCb hRepr (mCons (mVar 7) mNil))))) (mRet (mC (.bl false))) mNext)
    (mSeq (mIfS (mOr (mTest (mOp hNe (mLc (mZipM (mCons (mVar 7) (mCons (mVar 6) mNil))) (mGTup 2 (mGCons (mName 14) (mGCons (mName 15) mGNil))) (mTest (mOp hGt (mVar 14) (mVar 15))) (mC (.int 1)) [14, 15]) (mLst mNil))) (mTest (mOp hNis (mCall0 2 m_has_hole_row (mCons (mVar 3) (mCons (mVar 6) mNil))) (mC (.bl true))))) (mRet (mC (.bl false))) mNext)
    (mSeq (mPar 8 9 (mCons (mCall0 2 m_law_draw (mCons (mVar 1) (mCons (mVar 5) mNil))) (mCons (mOp hSub (mC (.int 1)) (mOp hMul (mC (.int 2)) (mCall0 2 m_law_draw (mCons (mVar 1) (mCons (mC (.int 2)) mNil))))) mNil)))
    (mSeq (mAsg (mOp hAdd (mOp hAdd (mSl (mVar 6) mNoP (mP (mVar 8))) (mTup (mCons (mOp hAdd (mOp hIx (mVar 6) (mVar 8)) (mVar 9)) mNil))) (mSl (mVar 6) (mP (mOp hAdd (mVar 8) (mC (.int 1)))) mNoP)) (mName 10))
    (mSeq (mIfS (mTest (mOp hNis (mCall0 2 m_has_hole_row (mCons (mVar 3) (mCons (mVar 10) mNil))) (mC (.bl false)))) (mRet (mC (.bl false))) mNext)
    (mSeq (mAsg (mLc (mRng1 (mCons (mVar 5) mNil)) (mName 13) mYes (mCall0 2 m_law_draw (mCons (mVar 1) (mCons (mC (.int 2)) mNil))) [13]) (mName 11))
    (mSeq (mAsg (mCb hTuple (mCons (mLc (mZipM (mCons (mVar 6) (mCons (mVar 11) mNil))) (mGTup 2 (mGCons (mName 14) (mGCons (mName 15) mGNil))) mYes (mCb hMax (mCons (mC (.int 0)) (mCons (mOp hSub (mVar 14) (mVar 15)) mNil))) [14, 15]) mNil)) (mName 10))
    (mSeq (mAsg (mCall0 2 m_law_does_fit (mCons (mVar 3) (mCons (mVar 10) mNil))) (mName 12))
    (mRet (mOp hEq (mCb hRepr (mCons (mCallK0 2 m_has_hole_row pm_has_hole_row_thing_counts (mCons (mVar 10) (mCons (mVar 3) mNil))) mNil)) (mCb hRepr (mCons (mVar 12) mNil))))))))))))))))))))
variable {Q : D → Prop} {E : XV → Prop}
theorem s_law_is_integer {i : Int} (q : Q (.bl true)) : m_law_is_integer [.int i] Q E := by
  unfold m_law_is_integer mFn
  refine ⟨rfl, ?_⟩
  (try simp only [mSeq, mIfS, mOr, mAnd, mNot, mTest, mOp, mUn, mVar, mOwn, mC, mRet, mRetN, mNext, mAsg, mAsgO, mName, mGTup, mGCons, mGNil, mFor, mRng1, mRng2, mRng3, mCons, mNil, mPar, mParO, mParP, mDrop, mFz, mApp, mExt, mSetL, mLc, mYes, mSeqI, mOwnI, mOrI, mEnumL, mEnumT, mZip, mZipM, mOr2, mRevL, mRevT, mSl, mNoP, mP, mTup, mLst, mCb, mIf, mAndV, mOrV, mNotV, mChain, mBrk, mCnt, mNever, mAug, mCall0, mCallK0, hAdd, hSub, hInt, hIntC, hAnd, hDiv, hMod, hPow, hMul, hNeg, hCmp, hLt, hLe, hGt, hGe, hIx, hIxX, hLen, hIsi, hTuple, hList, hInt1, hAbs, D.isN, hIs, hNis, D.items, D.plain, D.kind, hEq_int, hNe_int, hEq_str, hNe_str, hEq_tups, hNe_tups, hEq_lsts, hNe_lsts, wipeE, List.map_cons, List.map_nil, List.replicate_succ, List.replicate_zero, List.cons_append, List.nil_append, List.getElem?_cons_zero, List.getElem?_cons_succ, List.set_cons_zero, List.set_cons_succ, List.length_cons, List.length_nil, Nat.reduceAdd, Nat.reduceSub, inT_int, inT_bool, inT_str, inT_tuple, inT_list, inT_dict, ib_NoneType_int, ib_NoneType_bool, ib_NoneType_str, ib_NoneType_tuple, ib_NoneType_list, ib_NoneType_dict, ib_bool_int, ib_bool_bool, ib_bool_str, ib_bool_tuple, ib_bool_list, ib_bool_dict, ib_int_int, ib_int_bool, ib_int_str, ib_int_tuple, ib_int_list, ib_int_dict, ib_str_int, ib_str_bool, ib_str_str, ib_str_tuple, ib_str_list, ib_str_dict, ib_tuple_int, ib_tuple_bool, ib_tuple_str, ib_tuple_tuple, ib_tuple_list, ib_tuple_dict, ib_list_int, ib_list_bool, ib_list_str, ib_list_tuple, ib_list_list, ib_list_dict, ib_dict_int, ib_dict_bool, ib_dict_str, ib_dict_tuple, ib_dict_list, ib_dict_dict, Bool.not_true, Bool.not_false, true_and, and_true, decide_true, decide_false])
  exact q
theorem s_law_are_integers {c : List Nat} {n : Int} (hn : n = (c.length : Nat)) (hz : c.length ≤ 1000) (q : Q (.bl true)) : m_law_are_integers [.tup (nl c), .int n] Q E := by
  unfold m_law_are_integers mFn
  refine ⟨rfl, ?_⟩
  (try simp only [mSeq, mIfS, mOr, mAnd, mNot, mTest, mOp, mUn, mVar, mOwn, mC, mRet, mRetN, mNext, mAsg, mAsgO, mName, mGTup, mGCons, mGNil, mFor, mRng1, mRng2, mRng3, mCons, mNil, mPar, mParO, mParP, mDrop, mFz, mApp, mExt, mSetL, mLc, mYes, mSeqI, mOwnI, mOrI, mEnumL, mEnumT, mZip, mZipM, mOr2, mRevL, mRevT, mSl, mNoP, mP, mTup, mLst, mCb, mIf, mAndV, mOrV, mNotV, mChain, mBrk, mCnt, mNever, mAug, mCall0, mCallK0, hAdd, hSub, hInt, hIntC, hAnd, hDiv, hMod, hPow, hMul, hNeg, hCmp, hLt, hLe, hGt, hGe, hIx, hIxX, hLen, hIsi, hTuple, hList, hInt1, hAbs, D.isN, hIs, hNis, D.items, D.plain, D.kind, hEq_int, hNe_int, hEq_str, hNe_str, hEq_tups, hNe_tups, hEq_lsts, hNe_lsts, wipeE, List.map_cons, List.map_nil, List.replicate_succ, List.replicate_zero, List.cons_append, List.nil_append, List.getElem?_cons_zero, List.getElem?_cons_succ, List.set_cons_zero, List.set_cons_succ, List.length_cons, List.length_nil, Nat.reduceAdd, Nat.reduceSub, inT_int, inT_bool, inT_str, inT_tuple, inT_list, inT_dict, ib_NoneType_int, ib_NoneType_bool, ib_NoneType_str, ib_NoneType_tuple, ib_NoneType_list, ib_NoneType_dict, ib_bool_int, ib_bool_bool, ib_bool_str, ib_bool_tuple, ib_bool_list, ib_bool_dict, ib_int_int, ib_int_bool, ib_int_str, ib_int_tuple, ib_int_list, ib_int_dict, ib_str_int, ib_str_bool, ib_str_str, ib_str_tuple, ib_str_list, ib_str_dict, ib_tuple_int, ib_tuple_bool, ib_tuple_str, ib_tuple_tuple, ib_tuple_list, ib_tuple_dict, ib_list_int, ib_list_bool, ib_list_str, ib_list_tuple, ib_list_list, ib_list_dict, ib_dict_int, ib_dict_bool, ib_dict_str, ib_dict_tuple, ib_dict_list, ib_dict_dict, Bool.not_true, Bool.not_false, true_and, and_true, decide_true, decide_false])
  rw [nl_len, decide_eq_true hn.symm]
  refine ⟨by omega, ?_⟩
  refine lcL_map _ (fun _ => .non) (fun _ => false) (fun a ha nx hn => ?_) ?_
  · (try simp only [mSeq, mIfS, mOr, mAnd, mNot, mTest, mOp, mUn, mVar, mOwn, mC, mRet, mRetN, mNext, mAsg, mAsgO, mName, mGTup, mGCons, mGNil, mFor, mRng1, mRng2, mRng3, mCons, mNil, mPar, mParO, mParP, mDrop, mFz, mApp, mExt, mSetL, mLc, mYes, mSeqI, mOwnI, mOrI, mEnumL, mEnumT, mZip, mZipM, mOr2, mRevL, mRevT, mSl, mNoP, mP, mTup, mLst, mCb, mIf, mAndV, mOrV, mNotV, mChain, mBrk, mCnt, mNever, mAug, mCall0, mCallK0, hAdd, hSub, hInt, hIntC, hAnd, hDiv, hMod, hPow, hMul, hNeg, hCmp, hLt, hLe, hGt, hGe, hIx, hIxX, hLen, hIsi, hTuple, hList, hInt1, hAbs, D.isN, hIs, hNis, D.items, D.plain, D.kind, hEq_int, hNe_int, hEq_str, hNe_str, hEq_tups, hNe_tups, hEq_lsts, hNe_lsts, wipeE, List.map_cons, List.map_nil, List.replicate_succ, List.replicate_zero, List.cons_append, List.nil_append, List.getElem?_cons_zero, List.getElem?_cons_succ, List.set_cons_zero, List.set_cons_succ, List.length_cons, List.length_nil, Nat.reduceAdd, Nat.reduceSub, inT_int, inT_bool, inT_str, inT_tuple, inT_list, inT_dict, ib_NoneType_int, ib_NoneType_bool, ib_NoneType_str, ib_NoneType_tuple, ib_NoneType_list, ib_NoneType_dict, ib_bool_int, ib_bool_bool, ib_bool_str, ib_bool_tuple, ib_bool_list, ib_bool_dict, ib_int_int, ib_int_bool, ib_int_str, ib_int_tuple, ib_int_list, ib_int_dict, ib_str_int, ib_str_bool, ib_str_str, ib_str_tuple, ib_str_list, ib_str_dict, ib_tuple_int, ib_tuple_bool, ib_tuple_str, ib_tuple_tuple, ib_tuple_list, ib_tuple_dict, ib_list_int, ib_list_bool, ib_list_str, ib_list_tuple, ib_list_list, ib_list_dict, ib_dict_int, ib_dict_bool, ib_dict_str, ib_dict_tuple, ib_dict_list, ib_dict_dict, Bool.not_true, Bool.not_false, true_and, and_true, decide_true, decide_false])
    refine hn _ (fun Qb hq => ?_) (fun z => by cases z)
    (try simp only [mSeq, mIfS, mOr, mAnd, mNot, mTest, mOp, mUn, mVar, mOwn, mC, mRet, mRetN, mNext, mAsg, mAsgO, mName, mGTup, mGCons, mGNil, mFor, mRng1, mRng2, mRng3, mCons, mNil, mPar, mParO, mParP, mDrop, mFz, mApp, mExt, mSetL, mLc, mYes, mSeqI, mOwnI, mOrI, mEnumL, mEnumT, mZip, mZipM, mOr2, mRevL, mRevT, mSl, mNoP, mP, mTup, mLst, mCb, mIf, mAndV, mOrV, mNotV, mChain, mBrk, mCnt, mNever, mAug, mCall0, mCallK0, hAdd, hSub, hInt, hIntC, hAnd, hDiv, hMod, hPow, hMul, hNeg, hCmp, hLt, hLe, hGt, hGe, hIx, hIxX, hLen, hIsi, hTuple, hList, hInt1, hAbs, D.isN, hIs, hNis, D.items, D.plain, D.kind, hEq_int, hNe_int, hEq_str, hNe_str, hEq_tups, hNe_tups, hEq_lsts, hNe_lsts, wipeE, List.map_cons, List.map_nil, List.replicate_succ, List.replicate_zero, List.cons_append, List.nil_append, List.getElem?_cons_zero, List.getElem?_cons_succ, List.set_cons_zero, List.set_cons_succ, List.length_cons, List.length_nil, Nat.reduceAdd, Nat.reduceSub, inT_int, inT_bool, inT_str, inT_tuple, inT_list, inT_dict, ib_NoneType_int, ib_NoneType_bool, ib_NoneType_str, ib_NoneType_tuple, ib_NoneType_list, ib_NoneType_dict, ib_bool_int, ib_bool_bool, ib_bool_str, ib_bool_tuple, ib_bool_list, ib_bool_dict, ib_int_int, ib_int_bool, ib_int_str, ib_int_tuple, ib_int_list, ib_int_dict, ib_str_int, ib_str_bool, ib_str_str, ib_str_tuple, ib_str_list, ib_str_dict, ib_tuple_int, ib_tuple_bool, ib_tuple_str, ib_tuple_tuple, ib_tuple_list, ib_tuple_dict, ib_list_int, ib_list_bool, ib_list_str, ib_list_tuple, ib_list_list, ib_list_dict, ib_dict_int, ib_dict_bool, ib_dict_str, ib_dict_tuple, ib_dict_list, ib_dict_dict, Bool.not_true, Bool.not_false, true_and, and_true, decide_true, decide_false])
    exact s_law_is_integer hq
  · rw [show c.filter (fun _ => false) = [] from List.filter_eq_nil_iff.mpr (by simp)]
    refine ⟨by decide, ?_⟩
    rw [show (List.map (fun _ => D.non) ([] : List Nat)) = il [] from rfl, show ([] : List D) = il [] from rfl, hEq_lsts]
    exact q
theorem s_law_choose {m s : Int} (M S : Nat) (em : m = (M : Int)) (es : s = (S : Int)) (hs : S ≤ 64) (hm : M < 2 ^ big) (q : Q (.int (ch M S : Nat))) : m_law_choose [.int m, .int s] Q E := by
  subst em es
  unfold m_law_choose mFn
  refine ⟨rfl, ?_⟩
  (try simp only [mSeq, mIfS, mOr, mAnd, mNot, mTest, mOp, mUn, mVar, mOwn, mC, mRet, mRetN, mNext, mAsg, mAsgO, mName, mGTup, mGCons, mGNil, mFor, mRng1, mRng2, mRng3, mCons, mNil, mPar, mParO, mParP, mDrop, mFz, mApp, mExt, mSetL, mLc, mYes, mSeqI, mOwnI, mOrI, mEnumL, mEnumT, mZip, mZipM, mOr2, mRevL, mRevT, mSl, mNoP, mP, mTup, mLst, mCb, mIf, mAndV, mOrV, mNotV, mChain, mBrk, mCnt, mNever, mAug, mCall0, mCallK0, hAdd, hSub, hInt, hIntC, hAnd, hDiv, hMod, hPow, hMul, hNeg, hCmp, hLt, hLe, hGt, hGe, hIx, hIxX, hLen, hIsi, hTuple, hList, hInt1, hAbs, D.isN, hIs, hNis, D.items, D.plain, D.kind, hEq_int, hNe_int, hEq_str, hNe_str, hEq_tups, hNe_tups, hEq_lsts, hNe_lsts, wipeE, List.map_cons, List.map_nil, List.replicate_succ, List.replicate_zero, List.cons_append, List.nil_append, List.getElem?_cons_zero, List.getElem?_cons_succ, List.set_cons_zero, List.set_cons_succ, List.length_cons, List.length_nil, Nat.reduceAdd, Nat.reduceSub, inT_int, inT_bool, inT_str, inT_tuple, inT_list, inT_dict, ib_NoneType_int, ib_NoneType_bool, ib_NoneType_str, ib_NoneType_tuple, ib_NoneType_list, ib_NoneType_dict, ib_bool_int, ib_bool_bool, ib_bool_str, ib_bool_tuple, ib_bool_list, ib_bool_dict, ib_int_int, ib_int_bool, ib_int_str, ib_int_tuple, ib_int_list, ib_int_dict, ib_str_int, ib_str_bool, ib_str_str, ib_str_tuple, ib_str_list, ib_str_dict, ib_tuple_int, ib_tuple_bool, ib_tuple_str, ib_tuple_tuple, ib_tuple_list, ib_tuple_dict, ib_list_int, ib_list_bool, ib_list_str, ib_list_tuple, ib_list_list, ib_list_dict, ib_dict_int, ib_dict_bool, ib_dict_str, ib_dict_tuple, ib_dict_list, ib_dict_dict, Bool.not_true, Bool.not_false, true_and, and_true, decide_true, decide_false])
  by_cases h : (M : Int) < (S : Int)
  · rw [decide_eq_true h]
    rw [ch_lt (by omega)] at q
    exact q
  rw [decide_eq_false h]
  refine ⟨by omega, by omega, forL_rng (fun i env => ∃ c, env = [.fz (.int (M : Int)), .fz (.int (S : Int)), .fz (.int (ch M i : Int)), c]) ⟨.un, by rw [ch_zero]; rfl⟩ ?_ ?_⟩
  · rintro i env nx hi ⟨c, rfl⟩ hn
    (try simp only [mSeq, mIfS, mOr, mAnd, mNot, mTest, mOp, mUn, mVar, mOwn, mC, mRet, mRetN, mNext, mAsg, mAsgO, mName, mGTup, mGCons, mGNil, mFor, mRng1, mRng2, mRng3, mCons, mNil, mPar, mParO, mParP, mDrop, mFz, mApp, mExt, mSetL, mLc, mYes, mSeqI, mOwnI, mOrI, mEnumL, mEnumT, mZip, mZipM, mOr2, mRevL, mRevT, mSl, mNoP, mP, mTup, mLst, mCb, mIf, mAndV, mOrV, mNotV, mChain, mBrk, mCnt, mNever, mAug, mCall0, mCallK0, hAdd, hSub, hInt, hIntC, hAnd, hDiv, hMod, hPow, hMul, hNeg, hCmp, hLt, hLe, hGt, hGe, hIx, hIxX, hLen, hIsi, hTuple, hList, hInt1, hAbs, D.isN, hIs, hNis, D.items, D.plain, D.kind, hEq_int, hNe_int, hEq_str, hNe_str, hEq_tups, hNe_tups, hEq_lsts, hNe_lsts, wipeE, List.map_cons, List.map_nil, List.replicate_succ, List.replicate_zero, List.cons_append, List.nil_append, List.getElem?_cons_zero, List.getElem?_cons_succ, List.set_cons_zero, List.set_cons_succ, List.length_cons, List.length_nil, Nat.reduceAdd, Nat.reduceSub, inT_int, inT_bool, inT_str, inT_tuple, inT_list, inT_dict, ib_NoneType_int, ib_NoneType_bool, ib_NoneType_str, ib_NoneType_tuple, ib_NoneType_list, ib_NoneType_dict, ib_bool_int, ib_bool_bool, ib_bool_str, ib_bool_tuple, ib_bool_list, ib_bool_dict, ib_int_int, ib_int_bool, ib_int_str, ib_int_tuple, ib_int_list, ib_int_dict, ib_str_int, ib_str_bool, ib_str_str, ib_str_tuple, ib_str_list, ib_str_dict, ib_tuple_int, ib_tuple_bool, ib_tuple_str, ib_tuple_tuple, ib_tuple_list, ib_tuple_dict, ib_list_int, ib_list_bool, ib_list_str, ib_list_tuple, ib_list_list, ib_list_dict, ib_dict_int, ib_dict_bool, ib_dict_str, ib_dict_tuple, ib_dict_list, ib_dict_dict, Bool.not_true, Bool.not_false, true_and, and_true, decide_true, decide_false])
    have e : (0 : Int) + (i : Int) * 1 = (i : Int) := by omega
    rw [e]
    refine ⟨ch_mulok hm (by omega) (by omega), ch_divok (by omega), ?_⟩
    rw [ch_loop (by omega)]
    exact hn _ ⟨_, rfl⟩
  · rintro env ⟨c, rfl⟩
    (try simp only [mSeq, mIfS, mOr, mAnd, mNot, mTest, mOp, mUn, mVar, mOwn, mC, mRet, mRetN, mNext, mAsg, mAsgO, mName, mGTup, mGCons, mGNil, mFor, mRng1, mRng2, mRng3, mCons, mNil, mPar, mParO, mParP, mDrop, mFz, mApp, mExt, mSetL, mLc, mYes, mSeqI, mOwnI, mOrI, mEnumL, mEnumT, mZip, mZipM, mOr2, mRevL, mRevT, mSl, mNoP, mP, mTup, mLst, mCb, mIf, mAndV, mOrV, mNotV, mChain, mBrk, mCnt, mNever, mAug, mCall0, mCallK0, hAdd, hSub, hInt, hIntC, hAnd, hDiv, hMod, hPow, hMul, hNeg, hCmp, hLt, hLe, hGt, hGe, hIx, hIxX, hLen, hIsi, hTuple, hList, hInt1, hAbs, D.isN, hIs, hNis, D.items, D.plain, D.kind, hEq_int, hNe_int, hEq_str, hNe_str, hEq_tups, hNe_tups, hEq_lsts, hNe_lsts, wipeE, List.map_cons, List.map_nil, List.replicate_succ, List.replicate_zero, List.cons_append, List.nil_append, List.getElem?_cons_zero, List.getElem?_cons_succ, List.set_cons_zero, List.set_cons_succ, List.length_cons, List.length_nil, Nat.reduceAdd, Nat.reduceSub, inT_int, inT_bool, inT_str, inT_tuple, inT_list, inT_dict, ib_NoneType_int, ib_NoneType_bool, ib_NoneType_str, ib_NoneType_tuple, ib_NoneType_list, ib_NoneType_dict, ib_bool_int, ib_bool_bool, ib_bool_str, ib_bool_tuple, ib_bool_list, ib_bool_dict, ib_int_int, ib_int_bool, ib_int_str, ib_int_tuple, ib_int_list, ib_int_dict, ib_str_int, ib_str_bool, ib_str_str, ib_str_tuple, ib_str_list, ib_str_dict, ib_tuple_int, ib_tuple_bool, ib_tuple_str, ib_tuple_tuple, ib_tuple_list, ib_tuple_dict, ib_list_int, ib_list_bool, ib_list_str, ib_list_tuple, ib_list_list, ib_list_dict, ib_dict_int, ib_dict_bool, ib_dict_str, ib_dict_tuple, ib_dict_list, ib_dict_dict, Bool.not_true, Bool.not_false, true_and, and_true, decide_true, decide_false])
    exact q
theorem s_law_top {n s : Nat} (h1 : 1 ≤ n) (h2 : 1 ≤ s) (h3 : s ≤ 60) (h4 : n < 2 ^ 2000) (q : Q (.int (great s n : Nat))) : m_law_top [.int n, .int s] Q E := by
  unfold m_law_top mFn
  refine ⟨rfl, ?_⟩
  (try simp only [mSeq, mIfS, mOr, mAnd, mNot, mTest, mOp, mUn, mVar, mOwn, mC, mRet, mRetN, mNext, mAsg, mAsgO, mName, mGTup, mGCons, mGNil, mFor, mRng1, mRng2, mRng3, mCons, mNil, mPar, mParO, mParP, mDrop, mFz, mApp, mExt, mSetL, mLc, mYes, mSeqI, mOwnI, mOrI, mEnumL, mEnumT, mZip, mZipM, mOr2, mRevL, mRevT, mSl, mNoP, mP, mTup, mLst, mCb, mIf, mAndV, mOrV, mNotV, mChain, mBrk, mCnt, mNever, mAug, mCall0, mCallK0, hAdd, hSub, hInt, hIntC, hAnd, hDiv, hMod, hPow, hMul, hNeg, hCmp, hLt, hLe, hGt, hGe, hIx, hIxX, hLen, hIsi, hTuple, hList, hInt1, hAbs, D.isN, hIs, hNis, D.items, D.plain, D.kind, hEq_int, hNe_int, hEq_str, hNe_str, hEq_tups, hNe_tups, hEq_lsts, hNe_lsts, wipeE, List.map_cons, List.map_nil, List.replicate_succ, List.replicate_zero, List.cons_append, List.nil_append, List.getElem?_cons_zero, List.getElem?_cons_succ, List.set_cons_zero, List.set_cons_succ, List.length_cons, List.length_nil, Nat.reduceAdd, Nat.reduceSub, inT_int, inT_bool, inT_str, inT_tuple, inT_list, inT_dict, ib_NoneType_int, ib_NoneType_bool, ib_NoneType_str, ib_NoneType_tuple, ib_NoneType_list, ib_NoneType_dict, ib_bool_int, ib_bool_bool, ib_bool_str, ib_bool_tuple, ib_bool_list, ib_bool_dict, ib_int_int, ib_int_bool, ib_int_str, ib_int_tuple, ib_int_list, ib_int_dict, ib_str_int, ib_str_bool, ib_str_str, ib_str_tuple, ib_str_list, ib_str_dict, ib_tuple_int, ib_tuple_bool, ib_tuple_str, ib_tuple_tuple, ib_tuple_list, ib_tuple_dict, ib_list_int, ib_list_bool, ib_list_str, ib_list_tuple, ib_list_list, ib_list_dict, ib_dict_int, ib_dict_bool, ib_dict_str, ib_dict_tuple, ib_dict_list, ib_dict_dict, Bool.not_true, Bool.not_false, true_and, and_true, decide_true, decide_false])
  unfold mWhile
  refine ⟨fun m env => ∃ lo hi : Nat, ∃ c, env = [.fz (.int (n : Int)), .fz (.int (s : Int)), .fz (.int (lo : Int)), .fz (.int (hi : Int)), c] ∧ ch lo s ≤ n ∧ s ≤ lo ∧ lo < hi ∧ hi ≤ 2 * (n + s) + 2 ∧ m = 2 * (n + s) + 2 - hi,
    ⟨_, s, s + 1, .un, rfl, by rw [ch_self]; exact h1, Nat.le_refl _, by omega, by omega, rfl⟩, ?_⟩
  rintro m env ⟨lo, hi, c, rfl, hlo, hsl, hlh, hhi, rfl⟩
  have bh : hi < 2 ^ big := by have := pow_small h4 2; omega
  (try simp only [mSeq, mIfS, mOr, mAnd, mNot, mTest, mOp, mUn, mVar, mOwn, mC, mRet, mRetN, mNext, mAsg, mAsgO, mName, mGTup, mGCons, mGNil, mFor, mRng1, mRng2, mRng3, mCons, mNil, mPar, mParO, mParP, mDrop, mFz, mApp, mExt, mSetL, mLc, mYes, mSeqI, mOwnI, mOrI, mEnumL, mEnumT, mZip, mZipM, mOr2, mRevL, mRevT, mSl, mNoP, mP, mTup, mLst, mCb, mIf, mAndV, mOrV, mNotV, mChain, mBrk, mCnt, mNever, mAug, mCall0, mCallK0, hAdd, hSub, hInt, hIntC, hAnd, hDiv, hMod, hPow, hMul, hNeg, hCmp, hLt, hLe, hGt, hGe, hIx, hIxX, hLen, hIsi, hTuple, hList, hInt1, hAbs, D.isN, hIs, hNis, D.items, D.plain, D.kind, hEq_int, hNe_int, hEq_str, hNe_str, hEq_tups, hNe_tups, hEq_lsts, hNe_lsts, wipeE, List.map_cons, List.map_nil, List.replicate_succ, List.replicate_zero, List.cons_append, List.nil_append, List.getElem?_cons_zero, List.getElem?_cons_succ, List.set_cons_zero, List.set_cons_succ, List.length_cons, List.length_nil, Nat.reduceAdd, Nat.reduceSub, inT_int, inT_bool, inT_str, inT_tuple, inT_list, inT_dict, ib_NoneType_int, ib_NoneType_bool, ib_NoneType_str, ib_NoneType_tuple, ib_NoneType_list, ib_NoneType_dict, ib_bool_int, ib_bool_bool, ib_bool_str, ib_bool_tuple, ib_bool_list, ib_bool_dict, ib_int_int, ib_int_bool, ib_int_str, ib_int_tuple, ib_int_list, ib_int_dict, ib_str_int, ib_str_bool, ib_str_str, ib_str_tuple, ib_str_list, ib_str_dict, ib_tuple_int, ib_tuple_bool, ib_tuple_str, ib_tuple_tuple, ib_tuple_list, ib_tuple_dict, ib_list_int, ib_list_bool, ib_list_str, ib_list_tuple, ib_list_list, ib_list_dict, ib_dict_int, ib_dict_bool, ib_dict_str, ib_dict_tuple, ib_dict_list, ib_dict_dict, Bool.not_true, Bool.not_false, true_and, and_true, decide_true, decide_false])
  refine s_law_choose hi s rfl rfl (by omega) bh ?_
  (try simp only [mSeq, mIfS, mOr, mAnd, mNot, mTest, mOp, mUn, mVar, mOwn, mC, mRet, mRetN, mNext, mAsg, mAsgO, mName, mGTup, mGCons, mGNil, mFor, mRng1, mRng2, mRng3, mCons, mNil, mPar, mParO, mParP, mDrop, mFz, mApp, mExt, mSetL, mLc, mYes, mSeqI, mOwnI, mOrI, mEnumL, mEnumT, mZip, mZipM, mOr2, mRevL, mRevT, mSl, mNoP, mP, mTup, mLst, mCb, mIf, mAndV, mOrV, mNotV, mChain, mBrk, mCnt, mNever, mAug, mCall0, mCallK0, hAdd, hSub, hInt, hIntC, hAnd, hDiv, hMod, hPow, hMul, hNeg, hCmp, hLt, hLe, hGt, hGe, hIx, hIxX, hLen, hIsi, hTuple, hList, hInt1, hAbs, D.isN, hIs, hNis, D.items, D.plain, D.kind, hEq_int, hNe_int, hEq_str, hNe_str, hEq_tups, hNe_tups, hEq_lsts, hNe_lsts, wipeE, List.map_cons, List.map_nil, List.replicate_succ, List.replicate_zero, List.cons_append, List.nil_append, List.getElem?_cons_zero, List.getElem?_cons_succ, List.set_cons_zero, List.set_cons_succ, List.length_cons, List.length_nil, Nat.reduceAdd, Nat.reduceSub, inT_int, inT_bool, inT_str, inT_tuple, inT_list, inT_dict, ib_NoneType_int, ib_NoneType_bool, ib_NoneType_str, ib_NoneType_tuple, ib_NoneType_list, ib_NoneType_dict, ib_bool_int, ib_bool_bool, ib_bool_str, ib_bool_tuple, ib_bool_list, ib_bool_dict, ib_int_int, ib_int_bool, ib_int_str, ib_int_tuple, ib_int_list, ib_int_dict, ib_str_int, ib_str_bool, ib_str_str, ib_str_tuple, ib_str_list, ib_str_dict, ib_tuple_int, ib_tuple_bool, ib_tuple_str, ib_tuple_tuple, ib_tuple_list, ib_tuple_dict, ib_list_int, ib_list_bool, ib_list_str, ib_list_tuple, ib_list_list, ib_list_dict, ib_dict_int, ib_dict_bool, ib_dict_str, ib_dict_tuple, ib_dict_list, ib_dict_dict, Bool.not_true, Bool.not_false, true_and, and_true, decide_true, decide_false])
  by_cases hb : (ch hi s : Int) ≤ (n : Int)
  · rw [decide_eq_true hb]
    have hge := ch_ge (n := hi) (k := s) h2 (by omega)
    refine ⟨fun env2 => env2 = [.fz (.int (n : Int)), .fz (.int (s : Int)), .fz (.int (hi : Int)), .fz (.int ((2 * hi + 2 : Nat) : Int)), c], ?_, ?_⟩
    · rintro env2 rfl
      exact ⟨2 * (n + s) + 2 - (2 * hi + 2), by omega, hi, 2 * hi + 2, c, rfl, by omega, by omega, by omega, by omega, rfl⟩
    · (try simp only [mSeq, mIfS, mOr, mAnd, mNot, mTest, mOp, mUn, mVar, mOwn, mC, mRet, mRetN, mNext, mAsg, mAsgO, mName, mGTup, mGCons, mGNil, mFor, mRng1, mRng2, mRng3, mCons, mNil, mPar, mParO, mParP, mDrop, mFz, mApp, mExt, mSetL, mLc, mYes, mSeqI, mOwnI, mOrI, mEnumL, mEnumT, mZip, mZipM, mOr2, mRevL, mRevT, mSl, mNoP, mP, mTup, mLst, mCb, mIf, mAndV, mOrV, mNotV, mChain, mBrk, mCnt, mNever, mAug, mCall0, mCallK0, hAdd, hSub, hInt, hIntC, hAnd, hDiv, hMod, hPow, hMul, hNeg, hCmp, hLt, hLe, hGt, hGe, hIx, hIxX, hLen, hIsi, hTuple, hList, hInt1, hAbs, D.isN, hIs, hNis, D.items, D.plain, D.kind, hEq_int, hNe_int, hEq_str, hNe_str, hEq_tups, hNe_tups, hEq_lsts, hNe_lsts, wipeE, List.map_cons, List.map_nil, List.replicate_succ, List.replicate_zero, List.cons_append, List.nil_append, List.getElem?_cons_zero, List.getElem?_cons_succ, List.set_cons_zero, List.set_cons_succ, List.length_cons, List.length_nil, Nat.reduceAdd, Nat.reduceSub, inT_int, inT_bool, inT_str, inT_tuple, inT_list, inT_dict, ib_NoneType_int, ib_NoneType_bool, ib_NoneType_str, ib_NoneType_tuple, ib_NoneType_list, ib_NoneType_dict, ib_bool_int, ib_bool_bool, ib_bool_str, ib_bool_tuple, ib_bool_list, ib_bool_dict, ib_int_int, ib_int_bool, ib_int_str, ib_int_tuple, ib_int_list, ib_int_dict, ib_str_int, ib_str_bool, ib_str_str, ib_str_tuple, ib_str_list, ib_str_dict, ib_tuple_int, ib_tuple_bool, ib_tuple_str, ib_tuple_tuple, ib_tuple_list, ib_tuple_dict, ib_list_int, ib_list_bool, ib_list_str, ib_list_tuple, ib_list_list, ib_list_dict, ib_dict_int, ib_dict_bool, ib_dict_str, ib_dict_tuple, ib_dict_list, ib_dict_dict, Bool.not_true, Bool.not_false, true_and, and_true, decide_true, decide_false])
      refine ⟨b2 bh, ?_⟩
      have : (2 : Int) * (hi : Int) + 2 = ((2 * hi + 2 : Nat) : Int) := by omega
      rw [this]
  · rw [decide_eq_false hb]
    (try simp only [mSeq, mIfS, mOr, mAnd, mNot, mTest, mOp, mUn, mVar, mOwn, mC, mRet, mRetN, mNext, mAsg, mAsgO, mName, mGTup, mGCons, mGNil, mFor, mRng1, mRng2, mRng3, mCons, mNil, mPar, mParO, mParP, mDrop, mFz, mApp, mExt, mSetL, mLc, mYes, mSeqI, mOwnI, mOrI, mEnumL, mEnumT, mZip, mZipM, mOr2, mRevL, mRevT, mSl, mNoP, mP, mTup, mLst, mCb, mIf, mAndV, mOrV, mNotV, mChain, mBrk, mCnt, mNever, mAug, mCall0, mCallK0, hAdd, hSub, hInt, hIntC, hAnd, hDiv, hMod, hPow, hMul, hNeg, hCmp, hLt, hLe, hGt, hGe, hIx, hIxX, hLen, hIsi, hTuple, hList, hInt1, hAbs, D.isN, hIs, hNis, D.items, D.plain, D.kind, hEq_int, hNe_int, hEq_str, hNe_str, hEq_tups, hNe_tups, hEq_lsts, hNe_lsts, wipeE, List.map_cons, List.map_nil, List.replicate_succ, List.replicate_zero, List.cons_append, List.nil_append, List.getElem?_cons_zero, List.getElem?_cons_succ, List.set_cons_zero, List.set_cons_succ, List.length_cons, List.length_nil, Nat.reduceAdd, Nat.reduceSub, inT_int, inT_bool, inT_str, inT_tuple, inT_list, inT_dict, ib_NoneType_int, ib_NoneType_bool, ib_NoneType_str, ib_NoneType_tuple, ib_NoneType_list, ib_NoneType_dict, ib_bool_int, ib_bool_bool, ib_bool_str, ib_bool_tuple, ib_bool_list, ib_bool_dict, ib_int_int, ib_int_bool, ib_int_str, ib_int_tuple, ib_int_list, ib_int_dict, ib_str_int, ib_str_bool, ib_str_str, ib_str_tuple, ib_str_list, ib_str_dict, ib_tuple_int, ib_tuple_bool, ib_tuple_str, ib_tuple_tuple, ib_tuple_list, ib_tuple_dict, ib_list_int, ib_list_bool, ib_list_str, ib_list_tuple, ib_list_list, ib_list_dict, ib_dict_int, ib_dict_bool, ib_dict_str, ib_dict_tuple, ib_dict_list, ib_dict_dict, Bool.not_true, Bool.not_false, true_and, and_true, decide_true, decide_false])
    refine ⟨fun m env => ∃ lo hi : Nat, ∃ c, env = [.fz (.int (n : Int)), .fz (.int (s : Int)), .fz (.int (lo : Int)), .fz (.int (hi : Int)), c] ∧ ch lo s ≤ n ∧ n < ch hi s ∧ s ≤ lo ∧ lo < hi ∧ hi ≤ 2 * (n + s) + 2 ∧ m = hi - lo,
      ⟨_, lo, hi, c, rfl, hlo, by omega, hsl, hlh, hhi, rfl⟩, ?_⟩
    clear hb
    clear hlo hsl hlh hhi bh
    clear c
    rintro m env ⟨lo, hi, c, rfl, hlo, hhn, hsl, hlh, hhi, rfl⟩
    (try simp only [mSeq, mIfS, mOr, mAnd, mNot, mTest, mOp, mUn, mVar, mOwn, mC, mRet, mRetN, mNext, mAsg, mAsgO, mName, mGTup, mGCons, mGNil, mFor, mRng1, mRng2, mRng3, mCons, mNil, mPar, mParO, mParP, mDrop, mFz, mApp, mExt, mSetL, mLc, mYes, mSeqI, mOwnI, mOrI, mEnumL, mEnumT, mZip, mZipM, mOr2, mRevL, mRevT, mSl, mNoP, mP, mTup, mLst, mCb, mIf, mAndV, mOrV, mNotV, mChain, mBrk, mCnt, mNever, mAug, mCall0, mCallK0, hAdd, hSub, hInt, hIntC, hAnd, hDiv, hMod, hPow, hMul, hNeg, hCmp, hLt, hLe, hGt, hGe, hIx, hIxX, hLen, hIsi, hTuple, hList, hInt1, hAbs, D.isN, hIs, hNis, D.items, D.plain, D.kind, hEq_int, hNe_int, hEq_str, hNe_str, hEq_tups, hNe_tups, hEq_lsts, hNe_lsts, wipeE, List.map_cons, List.map_nil, List.replicate_succ, List.replicate_zero, List.cons_append, List.nil_append, List.getElem?_cons_zero, List.getElem?_cons_succ, List.set_cons_zero, List.set_cons_succ, List.length_cons, List.length_nil, Nat.reduceAdd, Nat.reduceSub, inT_int, inT_bool, inT_str, inT_tuple, inT_list, inT_dict, ib_NoneType_int, ib_NoneType_bool, ib_NoneType_str, ib_NoneType_tuple, ib_NoneType_list, ib_NoneType_dict, ib_bool_int, ib_bool_bool, ib_bool_str, ib_bool_tuple, ib_bool_list, ib_bool_dict, ib_int_int, ib_int_bool, ib_int_str, ib_int_tuple, ib_int_list, ib_int_dict, ib_str_int, ib_str_bool, ib_str_str, ib_str_tuple, ib_str_list, ib_str_dict, ib_tuple_int, ib_tuple_bool, ib_tuple_str, ib_tuple_tuple, ib_tuple_list, ib_tuple_dict, ib_list_int, ib_list_bool, ib_list_str, ib_list_tuple, ib_list_list, ib_list_dict, ib_dict_int, ib_dict_bool, ib_dict_str, ib_dict_tuple, ib_dict_list, ib_dict_dict, Bool.not_true, Bool.not_false, true_and, and_true, decide_true, decide_false])
    by_cases hg : 1 < (hi : Int) - (lo : Int)
    · rw [decide_eq_true hg]
      have em : ((lo : Int) + (hi : Int)) / 2 = (((lo + hi) / 2 : Nat) : Int) := by omega
      generalize hmid : (lo + hi) / 2 = mid at em
      have m1 : lo < mid := by omega
      have m2 : mid < hi := by omega
      refine ⟨fun env2 => (∃ c, env2 = [.fz (.int (n : Int)), .fz (.int (s : Int)), .fz (.int (mid : Int)), .fz (.int (hi : Int)), c] ∧ ch mid s ≤ n) ∨ ∃ c, env2 = [.fz (.int (n : Int)), .fz (.int (s : Int)), .fz (.int (lo : Int)), .fz (.int (mid : Int)), c] ∧ n < ch mid s, ?_, ?_⟩
      · rintro env2 (⟨c, rfl, q⟩ | ⟨c, rfl, q⟩)
        · exact ⟨hi - mid, by omega, mid, hi, c, rfl, q, hhn, by omega, m2, hhi, rfl⟩
        · exact ⟨mid - lo, by omega, lo, mid, c, rfl, hlo, q, hsl, m1, by omega, rfl⟩
      · (try simp only [mSeq, mIfS, mOr, mAnd, mNot, mTest, mOp, mUn, mVar, mOwn, mC, mRet, mRetN, mNext, mAsg, mAsgO, mName, mGTup, mGCons, mGNil, mFor, mRng1, mRng2, mRng3, mCons, mNil, mPar, mParO, mParP, mDrop, mFz, mApp, mExt, mSetL, mLc, mYes, mSeqI, mOwnI, mOrI, mEnumL, mEnumT, mZip, mZipM, mOr2, mRevL, mRevT, mSl, mNoP, mP, mTup, mLst, mCb, mIf, mAndV, mOrV, mNotV, mChain, mBrk, mCnt, mNever, mAug, mCall0, mCallK0, hAdd, hSub, hInt, hIntC, hAnd, hDiv, hMod, hPow, hMul, hNeg, hCmp, hLt, hLe, hGt, hGe, hIx, hIxX, hLen, hIsi, hTuple, hList, hInt1, hAbs, D.isN, hIs, hNis, D.items, D.plain, D.kind, hEq_int, hNe_int, hEq_str, hNe_str, hEq_tups, hNe_tups, hEq_lsts, hNe_lsts, wipeE, List.map_cons, List.map_nil, List.replicate_succ, List.replicate_zero, List.cons_append, List.nil_append, List.getElem?_cons_zero, List.getElem?_cons_succ, List.set_cons_zero, List.set_cons_succ, List.length_cons, List.length_nil, Nat.reduceAdd, Nat.reduceSub, inT_int, inT_bool, inT_str, inT_tuple, inT_list, inT_dict, ib_NoneType_int, ib_NoneType_bool, ib_NoneType_str, ib_NoneType_tuple, ib_NoneType_list, ib_NoneType_dict, ib_bool_int, ib_bool_bool, ib_bool_str, ib_bool_tuple, ib_bool_list, ib_bool_dict, ib_int_int, ib_int_bool, ib_int_str, ib_int_tuple, ib_int_list, ib_int_dict, ib_str_int, ib_str_bool, ib_str_str, ib_str_tuple, ib_str_list, ib_str_dict, ib_tuple_int, ib_tuple_bool, ib_tuple_str, ib_tuple_tuple, ib_tuple_list, ib_tuple_dict, ib_list_int, ib_list_bool, ib_list_str, ib_list_tuple, ib_list_list, ib_list_dict, ib_dict_int, ib_dict_bool, ib_dict_str, ib_dict_tuple, ib_dict_list, ib_dict_dict, Bool.not_true, Bool.not_false, true_and, and_true, decide_true, decide_false])
        refine ⟨divW (m := 2) (b := 2) (by decide) (by decide), ?_⟩
        rw [em]
        refine s_law_choose mid s rfl rfl (by omega) (by have := pow_small h4 2; omega) ?_
        (try simp only [mSeq, mIfS, mOr, mAnd, mNot, mTest, mOp, mUn, mVar, mOwn, mC, mRet, mRetN, mNext, mAsg, mAsgO, mName, mGTup, mGCons, mGNil, mFor, mRng1, mRng2, mRng3, mCons, mNil, mPar, mParO, mParP, mDrop, mFz, mApp, mExt, mSetL, mLc, mYes, mSeqI, mOwnI, mOrI, mEnumL, mEnumT, mZip, mZipM, mOr2, mRevL, mRevT, mSl, mNoP, mP, mTup, mLst, mCb, mIf, mAndV, mOrV, mNotV, mChain, mBrk, mCnt, mNever, mAug, mCall0, mCallK0, hAdd, hSub, hInt, hIntC, hAnd, hDiv, hMod, hPow, hMul, hNeg, hCmp, hLt, hLe, hGt, hGe, hIx, hIxX, hLen, hIsi, hTuple, hList, hInt1, hAbs, D.isN, hIs, hNis, D.items, D.plain, D.kind, hEq_int, hNe_int, hEq_str, hNe_str, hEq_tups, hNe_tups, hEq_lsts, hNe_lsts, wipeE, List.map_cons, List.map_nil, List.replicate_succ, List.replicate_zero, List.cons_append, List.nil_append, List.getElem?_cons_zero, List.getElem?_cons_succ, List.set_cons_zero, List.set_cons_succ, List.length_cons, List.length_nil, Nat.reduceAdd, Nat.reduceSub, inT_int, inT_bool, inT_str, inT_tuple, inT_list, inT_dict, ib_NoneType_int, ib_NoneType_bool, ib_NoneType_str, ib_NoneType_tuple, ib_NoneType_list, ib_NoneType_dict, ib_bool_int, ib_bool_bool, ib_bool_str, ib_bool_tuple, ib_bool_list, ib_bool_dict, ib_int_int, ib_int_bool, ib_int_str, ib_int_tuple, ib_int_list, ib_int_dict, ib_str_int, ib_str_bool, ib_str_str, ib_str_tuple, ib_str_list, ib_str_dict, ib_tuple_int, ib_tuple_bool, ib_tuple_str, ib_tuple_tuple, ib_tuple_list, ib_tuple_dict, ib_list_int, ib_list_bool, ib_list_str, ib_list_tuple, ib_list_list, ib_list_dict, ib_dict_int, ib_dict_bool, ib_dict_str, ib_dict_tuple, ib_dict_list, ib_dict_dict, Bool.not_true, Bool.not_false, true_and, and_true, decide_true, decide_false])
        by_cases hb : (ch mid s : Int) ≤ (n : Int)
        · rw [decide_eq_true hb]
          exact .inl ⟨_, rfl, by omega⟩
        · rw [decide_eq_false hb]
          exact .inr ⟨_, rfl, by omega⟩
    · rw [decide_eq_false hg]
      have hgap : hi = lo + 1 := by omega
      subst hgap
      rw [great_uniq h2 hsl hlo hhn] at q
      exact q
theorem s_law_cascade {n s : Nat} (h2 : 1 ≤ s) (h3 : s ≤ 60) (h4 : n < 2 ^ 2000) (q : Q (.tup (nl (cas s n)))) : m_law_cascade [.int n, .int s] Q E := by
  unfold m_law_cascade mFn
  refine ⟨rfl, ?_⟩
  (try simp only [mSeq, mIfS, mOr, mAnd, mNot, mTest, mOp, mUn, mVar, mOwn, mC, mRet, mRetN, mNext, mAsg, mAsgO, mName, mGTup, mGCons, mGNil, mFor, mRng1, mRng2, mRng3, mCons, mNil, mPar, mParO, mParP, mDrop, mFz, mApp, mExt, mSetL, mLc, mYes, mSeqI, mOwnI, mOrI, mEnumL, mEnumT, mZip, mZipM, mOr2, mRevL, mRevT, mSl, mNoP, mP, mTup, mLst, mCb, mIf, mAndV, mOrV, mNotV, mChain, mBrk, mCnt, mNever, mAug, mCall0, mCallK0, hAdd, hSub, hInt, hIntC, hAnd, hDiv, hMod, hPow, hMul, hNeg, hCmp, hLt, hLe, hGt, hGe, hIx, hIxX, hLen, hIsi, hTuple, hList, hInt1, hAbs, D.isN, hIs, hNis, D.items, D.plain, D.kind, hEq_int, hNe_int, hEq_str, hNe_str, hEq_tups, hNe_tups, hEq_lsts, hNe_lsts, wipeE, List.map_cons, List.map_nil, List.replicate_succ, List.replicate_zero, List.cons_append, List.nil_append, List.getElem?_cons_zero, List.getElem?_cons_succ, List.set_cons_zero, List.set_cons_succ, List.length_cons, List.length_nil, Nat.reduceAdd, Nat.reduceSub, inT_int, inT_bool, inT_str, inT_tuple, inT_list, inT_dict, ib_NoneType_int, ib_NoneType_bool, ib_NoneType_str, ib_NoneType_tuple, ib_NoneType_list, ib_NoneType_dict, ib_bool_int, ib_bool_bool, ib_bool_str, ib_bool_tuple, ib_bool_list, ib_bool_dict, ib_int_int, ib_int_bool, ib_int_str, ib_int_tuple, ib_int_list, ib_int_dict, ib_str_int, ib_str_bool, ib_str_str, ib_str_tuple, ib_str_list, ib_str_dict, ib_tuple_int, ib_tuple_bool, ib_tuple_str, ib_tuple_tuple, ib_tuple_list, ib_tuple_dict, ib_list_int, ib_list_bool, ib_list_str, ib_list_tuple, ib_list_list, ib_list_dict, ib_dict_int, ib_dict_bool, ib_dict_str, ib_dict_tuple, ib_dict_list, ib_dict_dict, Bool.not_true, Bool.not_false, true_and, and_true, decide_true, decide_false])
  refine ⟨by decide, by omega, by omega, by omega, by omega, by omega, ?_⟩
  have e : ((s : Int) - 0).toNat = s := by omega
  rw [e]
  refine forL_rng (fun i env => i ≤ s ∧ ∃ (n1 : Nat) (done : List Nat) (a b : Cell), env = [.fz (.int (n : Int)), .fz (.int (s : Int)), .ow (.lst (nl done)), .fz (.int (n1 : Int)), a, b] ∧ done ++ cas (s - i) n1 = cas s n ∧ (s - i = 0 → n1 = 0) ∧ n1 ≤ n ∧ done.length ≤ i)
    ⟨Nat.zero_le _, n, [], .un, .un, rfl, rfl, by omega, Nat.le_refl _, Nat.le_refl _⟩ ?_ ?_
  · rintro i env nx hi ⟨_, n1, done, a, b, rfl, hc, hz, hn1, hl⟩ hn
    have es : (s : Int) + (i : Int) * (-1) = ((s - i : Nat) : Int) := by omega
    rw [es]
    (try simp only [mSeq, mIfS, mOr, mAnd, mNot, mTest, mOp, mUn, mVar, mOwn, mC, mRet, mRetN, mNext, mAsg, mAsgO, mName, mGTup, mGCons, mGNil, mFor, mRng1, mRng2, mRng3, mCons, mNil, mPar, mParO, mParP, mDrop, mFz, mApp, mExt, mSetL, mLc, mYes, mSeqI, mOwnI, mOrI, mEnumL, mEnumT, mZip, mZipM, mOr2, mRevL, mRevT, mSl, mNoP, mP, mTup, mLst, mCb, mIf, mAndV, mOrV, mNotV, mChain, mBrk, mCnt, mNever, mAug, mCall0, mCallK0, hAdd, hSub, hInt, hIntC, hAnd, hDiv, hMod, hPow, hMul, hNeg, hCmp, hLt, hLe, hGt, hGe, hIx, hIxX, hLen, hIsi, hTuple, hList, hInt1, hAbs, D.isN, hIs, hNis, D.items, D.plain, D.kind, hEq_int, hNe_int, hEq_str, hNe_str, hEq_tups, hNe_tups, hEq_lsts, hNe_lsts, wipeE, List.map_cons, List.map_nil, List.replicate_succ, List.replicate_zero, List.cons_append, List.nil_append, List.getElem?_cons_zero, List.getElem?_cons_succ, List.set_cons_zero, List.set_cons_succ, List.length_cons, List.length_nil, Nat.reduceAdd, Nat.reduceSub, inT_int, inT_bool, inT_str, inT_tuple, inT_list, inT_dict, ib_NoneType_int, ib_NoneType_bool, ib_NoneType_str, ib_NoneType_tuple, ib_NoneType_list, ib_NoneType_dict, ib_bool_int, ib_bool_bool, ib_bool_str, ib_bool_tuple, ib_bool_list, ib_bool_dict, ib_int_int, ib_int_bool, ib_int_str, ib_int_tuple, ib_int_list, ib_int_dict, ib_str_int, ib_str_bool, ib_str_str, ib_str_tuple, ib_str_list, ib_str_dict, ib_tuple_int, ib_tuple_bool, ib_tuple_str, ib_tuple_tuple, ib_tuple_list, ib_tuple_dict, ib_list_int, ib_list_bool, ib_list_str, ib_list_tuple, ib_list_list, ib_list_dict, ib_dict_int, ib_dict_bool, ib_dict_str, ib_dict_tuple, ib_dict_list, ib_dict_dict, Bool.not_true, Bool.not_false, true_and, and_true, decide_true, decide_false])
    by_cases hp : (0 : Int) < (n1 : Int)
    · rw [decide_eq_true hp]
      have hp : 1 ≤ n1 := by omega
      have hs : 1 ≤ s - i := by omega
      obtain ⟨c1, c2, c3⟩ := cas_head_le hs hp
      have gl := great_le hp hs
      refine s_law_top hp hs (by omega) (by omega) ?_
      (try simp only [mSeq, mIfS, mOr, mAnd, mNot, mTest, mOp, mUn, mVar, mOwn, mC, mRet, mRetN, mNext, mAsg, mAsgO, mName, mGTup, mGCons, mGNil, mFor, mRng1, mRng2, mRng3, mCons, mNil, mPar, mParO, mParP, mDrop, mFz, mApp, mExt, mSetL, mLc, mYes, mSeqI, mOwnI, mOrI, mEnumL, mEnumT, mZip, mZipM, mOr2, mRevL, mRevT, mSl, mNoP, mP, mTup, mLst, mCb, mIf, mAndV, mOrV, mNotV, mChain, mBrk, mCnt, mNever, mAug, mCall0, mCallK0, hAdd, hSub, hInt, hIntC, hAnd, hDiv, hMod, hPow, hMul, hNeg, hCmp, hLt, hLe, hGt, hGe, hIx, hIxX, hLen, hIsi, hTuple, hList, hInt1, hAbs, D.isN, hIs, hNis, D.items, D.plain, D.kind, hEq_int, hNe_int, hEq_str, hNe_str, hEq_tups, hNe_tups, hEq_lsts, hNe_lsts, wipeE, List.map_cons, List.map_nil, List.replicate_succ, List.replicate_zero, List.cons_append, List.nil_append, List.getElem?_cons_zero, List.getElem?_cons_succ, List.set_cons_zero, List.set_cons_succ, List.length_cons, List.length_nil, Nat.reduceAdd, Nat.reduceSub, inT_int, inT_bool, inT_str, inT_tuple, inT_list, inT_dict, ib_NoneType_int, ib_NoneType_bool, ib_NoneType_str, ib_NoneType_tuple, ib_NoneType_list, ib_NoneType_dict, ib_bool_int, ib_bool_bool, ib_bool_str, ib_bool_tuple, ib_bool_list, ib_bool_dict, ib_int_int, ib_int_bool, ib_int_str, ib_int_tuple, ib_int_list, ib_int_dict, ib_str_int, ib_str_bool, ib_str_str, ib_str_tuple, ib_str_list, ib_str_dict, ib_tuple_int, ib_tuple_bool, ib_tuple_str, ib_tuple_tuple, ib_tuple_list, ib_tuple_dict, ib_list_int, ib_list_bool, ib_list_str, ib_list_tuple, ib_list_list, ib_list_dict, ib_dict_int, ib_dict_bool, ib_dict_str, ib_dict_tuple, ib_dict_list, ib_dict_dict, Bool.not_true, Bool.not_false, true_and, and_true, decide_true, decide_false])
      refine ⟨by rw [nl_len]; omega, ?_⟩
      refine s_law_choose (great (s - i) n1) (s - i) rfl rfl (by omega) (by have := pow_small h4 1; omega) ?_
      (try simp only [mSeq, mIfS, mOr, mAnd, mNot, mTest, mOp, mUn, mVar, mOwn, mC, mRet, mRetN, mNext, mAsg, mAsgO, mName, mGTup, mGCons, mGNil, mFor, mRng1, mRng2, mRng3, mCons, mNil, mPar, mParO, mParP, mDrop, mFz, mApp, mExt, mSetL, mLc, mYes, mSeqI, mOwnI, mOrI, mEnumL, mEnumT, mZip, mZipM, mOr2, mRevL, mRevT, mSl, mNoP, mP, mTup, mLst, mCb, mIf, mAndV, mOrV, mNotV, mChain, mBrk, mCnt, mNever, mAug, mCall0, mCallK0, hAdd, hSub, hInt, hIntC, hAnd, hDiv, hMod, hPow, hMul, hNeg, hCmp, hLt, hLe, hGt, hGe, hIx, hIxX, hLen, hIsi, hTuple, hList, hInt1, hAbs, D.isN, hIs, hNis, D.items, D.plain, D.kind, hEq_int, hNe_int, hEq_str, hNe_str, hEq_tups, hNe_tups, hEq_lsts, hNe_lsts, wipeE, List.map_cons, List.map_nil, List.replicate_succ, List.replicate_zero, List.cons_append, List.nil_append, List.getElem?_cons_zero, List.getElem?_cons_succ, List.set_cons_zero, List.set_cons_succ, List.length_cons, List.length_nil, Nat.reduceAdd, Nat.reduceSub, inT_int, inT_bool, inT_str, inT_tuple, inT_list, inT_dict, ib_NoneType_int, ib_NoneType_bool, ib_NoneType_str, ib_NoneType_tuple, ib_NoneType_list, ib_NoneType_dict, ib_bool_int, ib_bool_bool, ib_bool_str, ib_bool_tuple, ib_bool_list, ib_bool_dict, ib_int_int, ib_int_bool, ib_int_str, ib_int_tuple, ib_int_list, ib_int_dict, ib_str_int, ib_str_bool, ib_str_str, ib_str_tuple, ib_str_list, ib_str_dict, ib_tuple_int, ib_tuple_bool, ib_tuple_str, ib_tuple_tuple, ib_tuple_list, ib_tuple_dict, ib_list_int, ib_list_bool, ib_list_str, ib_list_tuple, ib_list_list, ib_list_dict, ib_dict_int, ib_dict_bool, ib_dict_str, ib_dict_tuple, ib_dict_list, ib_dict_dict, Bool.not_true, Bool.not_false, true_and, and_true, decide_true, decide_false])
      have i1 : (n1 : Int) - ((ch (great (s - i) n1) (s - i) : Nat) : Int) = ((n1 - ch (great (s - i) n1) (s - i) : Nat) : Int) := by omega
      rw [i1]
      refine hn _ ⟨hi, _, done ++ [great (s - i) n1], _, _, by rw [nl_app]; rfl, ?_, ?_, by omega, by rw [List.length_append]; show done.length + 1 ≤ i + 1; omega⟩
      · rw [cas_pos hs hp] at hc
        rw [List.append_assoc, show s - (i + 1) = s - i - 1 by omega]
        exact hc
      · intro q
        rw [show s - i - 1 = 0 by omega, ch_zero] at c2
        omega
    · rw [decide_eq_false hp]
      have hp : n1 = 0 := by omega
      subst hp
      refine hn _ ⟨hi, 0, done, _, _, rfl, ?_, fun _ => rfl, by omega, by omega⟩
      rw [cas_zero] at hc ⊢
      exact hc
  · rintro env ⟨_, n1, done, a, b, rfl, hc, hz, hn1, hl⟩
    (try simp only [mSeq, mIfS, mOr, mAnd, mNot, mTest, mOp, mUn, mVar, mOwn, mC, mRet, mRetN, mNext, mAsg, mAsgO, mName, mGTup, mGCons, mGNil, mFor, mRng1, mRng2, mRng3, mCons, mNil, mPar, mParO, mParP, mDrop, mFz, mApp, mExt, mSetL, mLc, mYes, mSeqI, mOwnI, mOrI, mEnumL, mEnumT, mZip, mZipM, mOr2, mRevL, mRevT, mSl, mNoP, mP, mTup, mLst, mCb, mIf, mAndV, mOrV, mNotV, mChain, mBrk, mCnt, mNever, mAug, mCall0, mCallK0, hAdd, hSub, hInt, hIntC, hAnd, hDiv, hMod, hPow, hMul, hNeg, hCmp, hLt, hLe, hGt, hGe, hIx, hIxX, hLen, hIsi, hTuple, hList, hInt1, hAbs, D.isN, hIs, hNis, D.items, D.plain, D.kind, hEq_int, hNe_int, hEq_str, hNe_str, hEq_tups, hNe_tups, hEq_lsts, hNe_lsts, wipeE, List.map_cons, List.map_nil, List.replicate_succ, List.replicate_zero, List.cons_append, List.nil_append, List.getElem?_cons_zero, List.getElem?_cons_succ, List.set_cons_zero, List.set_cons_succ, List.length_cons, List.length_nil, Nat.reduceAdd, Nat.reduceSub, inT_int, inT_bool, inT_str, inT_tuple, inT_list, inT_dict, ib_NoneType_int, ib_NoneType_bool, ib_NoneType_str, ib_NoneType_tuple, ib_NoneType_list, ib_NoneType_dict, ib_bool_int, ib_bool_bool, ib_bool_str, ib_bool_tuple, ib_bool_list, ib_bool_dict, ib_int_int, ib_int_bool, ib_int_str, ib_int_tuple, ib_int_list, ib_int_dict, ib_str_int, ib_str_bool, ib_str_str, ib_str_tuple, ib_str_list, ib_str_dict, ib_tuple_int, ib_tuple_bool, ib_tuple_str, ib_tuple_tuple, ib_tuple_list, ib_tuple_dict, ib_list_int, ib_list_bool, ib_list_str, ib_list_tuple, ib_list_list, ib_list_dict, ib_dict_int, ib_dict_bool, ib_dict_str, ib_dict_tuple, ib_dict_list, ib_dict_dict, Bool.not_true, Bool.not_false, true_and, and_true, decide_true, decide_false])
    have h0 := hz (Nat.sub_self s)
    subst h0
    rw [Nat.sub_self, cas_zero, List.append_nil] at hc
    subst hc
    exact q
theorem s_law_lower_sets {n s : Nat} (h2 : 1 ≤ s) (h3 : s ≤ 60) (h4 : n < 2 ^ 2000) (q : Q (.int (LS n s : Nat))) : m_law_lower_sets [.int n, .int s] Q E := by
  unfold m_law_lower_sets mFn
  refine ⟨rfl, ?_⟩
  (try simp only [mSeq, mIfS, mOr, mAnd, mNot, mTest, mOp, mUn, mVar, mOwn, mC, mRet, mRetN, mNext, mAsg, mAsgO, mName, mGTup, mGCons, mGNil, mFor, mRng1, mRng2, mRng3, mCons, mNil, mPar, mParO, mParP, mDrop, mFz, mApp, mExt, mSetL, mLc, mYes, mSeqI, mOwnI, mOrI, mEnumL, mEnumT, mZip, mZipM, mOr2, mRevL, mRevT, mSl, mNoP, mP, mTup, mLst, mCb, mIf, mAndV, mOrV, mNotV, mChain, mBrk, mCnt, mNever, mAug, mCall0, mCallK0, hAdd, hSub, hInt, hIntC, hAnd, hDiv, hMod, hPow, hMul, hNeg, hCmp, hLt, hLe, hGt, hGe, hIx, hIxX, hLen, hIsi, hTuple, hList, hInt1, hAbs, D.isN, hIs, hNis, D.items, D.plain, D.kind, hEq_int, hNe_int, hEq_str, hNe_str, hEq_tups, hNe_tups, hEq_lsts, hNe_lsts, wipeE, List.map_cons, List.map_nil, List.replicate_succ, List.replicate_zero, List.cons_append, List.nil_append, List.getElem?_cons_zero, List.getElem?_cons_succ, List.set_cons_zero, List.set_cons_succ, List.length_cons, List.length_nil, Nat.reduceAdd, Nat.reduceSub, inT_int, inT_bool, inT_str, inT_tuple, inT_list, inT_dict, ib_NoneType_int, ib_NoneType_bool, ib_NoneType_str, ib_NoneType_tuple, ib_NoneType_list, ib_NoneType_dict, ib_bool_int, ib_bool_bool, ib_bool_str, ib_bool_tuple, ib_bool_list, ib_bool_dict, ib_int_int, ib_int_bool, ib_int_str, ib_int_tuple, ib_int_list, ib_int_dict, ib_str_int, ib_str_bool, ib_str_str, ib_str_tuple, ib_str_list, ib_str_dict, ib_tuple_int, ib_tuple_bool, ib_tuple_str, ib_tuple_tuple, ib_tuple_list, ib_tuple_dict, ib_list_int, ib_list_bool, ib_list_str, ib_list_tuple, ib_list_list, ib_list_dict, ib_dict_int, ib_dict_bool, ib_dict_str, ib_dict_tuple, ib_dict_list, ib_dict_dict, Bool.not_true, Bool.not_false, true_and, and_true, decide_true, decide_false])
  refine .inr (s_law_cascade h2 h3 h4 ?_)
  have hl := (cas_is s n).len
  (try simp only [mSeq, mIfS, mOr, mAnd, mNot, mTest, mOp, mUn, mVar, mOwn, mC, mRet, mRetN, mNext, mAsg, mAsgO, mName, mGTup, mGCons, mGNil, mFor, mRng1, mRng2, mRng3, mCons, mNil, mPar, mParO, mParP, mDrop, mFz, mApp, mExt, mSetL, mLc, mYes, mSeqI, mOwnI, mOrI, mEnumL, mEnumT, mZip, mZipM, mOr2, mRevL, mRevT, mSl, mNoP, mP, mTup, mLst, mCb, mIf, mAndV, mOrV, mNotV, mChain, mBrk, mCnt, mNever, mAug, mCall0, mCallK0, hAdd, hSub, hInt, hIntC, hAnd, hDiv, hMod, hPow, hMul, hNeg, hCmp, hLt, hLe, hGt, hGe, hIx, hIxX, hLen, hIsi, hTuple, hList, hInt1, hAbs, D.isN, hIs, hNis, D.items, D.plain, D.kind, hEq_int, hNe_int, hEq_str, hNe_str, hEq_tups, hNe_tups, hEq_lsts, hNe_lsts, wipeE, List.map_cons, List.map_nil, List.replicate_succ, List.replicate_zero, List.cons_append, List.nil_append, List.getElem?_cons_zero, List.getElem?_cons_succ, List.set_cons_zero, List.set_cons_succ, List.length_cons, List.length_nil, Nat.reduceAdd, Nat.reduceSub, inT_int, inT_bool, inT_str, inT_tuple, inT_list, inT_dict, ib_NoneType_int, ib_NoneType_bool, ib_NoneType_str, ib_NoneType_tuple, ib_NoneType_list, ib_NoneType_dict, ib_bool_int, ib_bool_bool, ib_bool_str, ib_bool_tuple, ib_bool_list, ib_bool_dict, ib_int_int, ib_int_bool, ib_int_str, ib_int_tuple, ib_int_list, ib_int_dict, ib_str_int, ib_str_bool, ib_str_str, ib_str_tuple, ib_str_list, ib_str_dict, ib_tuple_int, ib_tuple_bool, ib_tuple_str, ib_tuple_tuple, ib_tuple_list, ib_tuple_dict, ib_list_int, ib_list_bool, ib_list_str, ib_list_tuple, ib_list_list, ib_list_dict, ib_dict_int, ib_dict_bool, ib_dict_str, ib_dict_tuple, ib_dict_list, ib_dict_dict, Bool.not_true, Bool.not_false, true_and, and_true, decide_true, decide_false])
  refine ⟨by rw [enum_len, List.length_map]; omega, ?_⟩
  refine w_four fLS (cas_is s n) (fun p a hp ha hm Qd hd => ?_) q
  (try simp only [mSeq, mIfS, mOr, mAnd, mNot, mTest, mOp, mUn, mVar, mOwn, mC, mRet, mRetN, mNext, mAsg, mAsgO, mName, mGTup, mGCons, mGNil, mFor, mRng1, mRng2, mRng3, mCons, mNil, mPar, mParO, mParP, mDrop, mFz, mApp, mExt, mSetL, mLc, mYes, mSeqI, mOwnI, mOrI, mEnumL, mEnumT, mZip, mZipM, mOr2, mRevL, mRevT, mSl, mNoP, mP, mTup, mLst, mCb, mIf, mAndV, mOrV, mNotV, mChain, mBrk, mCnt, mNever, mAug, mCall0, mCallK0, hAdd, hSub, hInt, hIntC, hAnd, hDiv, hMod, hPow, hMul, hNeg, hCmp, hLt, hLe, hGt, hGe, hIx, hIxX, hLen, hIsi, hTuple, hList, hInt1, hAbs, D.isN, hIs, hNis, D.items, D.plain, D.kind, hEq_int, hNe_int, hEq_str, hNe_str, hEq_tups, hNe_tups, hEq_lsts, hNe_lsts, wipeE, List.map_cons, List.map_nil, List.replicate_succ, List.replicate_zero, List.cons_append, List.nil_append, List.getElem?_cons_zero, List.getElem?_cons_succ, List.set_cons_zero, List.set_cons_succ, List.length_cons, List.length_nil, Nat.reduceAdd, Nat.reduceSub, inT_int, inT_bool, inT_str, inT_tuple, inT_list, inT_dict, ib_NoneType_int, ib_NoneType_bool, ib_NoneType_str, ib_NoneType_tuple, ib_NoneType_list, ib_NoneType_dict, ib_bool_int, ib_bool_bool, ib_bool_str, ib_bool_tuple, ib_bool_list, ib_bool_dict, ib_int_int, ib_int_bool, ib_int_str, ib_int_tuple, ib_int_list, ib_int_dict, ib_str_int, ib_str_bool, ib_str_str, ib_str_tuple, ib_str_list, ib_str_dict, ib_tuple_int, ib_tuple_bool, ib_tuple_str, ib_tuple_tuple, ib_tuple_list, ib_tuple_dict, ib_list_int, ib_list_bool, ib_list_str, ib_list_tuple, ib_list_list, ib_list_dict, ib_dict_int, ib_dict_bool, ib_dict_str, ib_dict_tuple, ib_dict_list, ib_dict_dict, Bool.not_true, Bool.not_false, true_and, and_true, decide_true, decide_false])
  refine s_law_choose a (s - p - 1) rfl (by omega) (by omega) ?_ hd
  have := cas_item a hm
  have := pow_small h4 1
  omega
theorem s_law_rests {c h : List Int} (hl : c.length = h.length) (h16 : c.length ≤ 16) (q : Q (.tup (il (rst c h)))) : m_law_rests [.tup (il c), .tup (il h)] Q E := by
  unfold m_law_rests mFn
  refine ⟨rfl, ?_⟩
  (try simp only [mSeq, mIfS, mOr, mAnd, mNot, mTest, mOp, mUn, mVar, mOwn, mC, mRet, mRetN, mNext, mAsg, mAsgO, mName, mGTup, mGCons, mGNil, mFor, mRng1, mRng2, mRng3, mCons, mNil, mPar, mParO, mParP, mDrop, mFz, mApp, mExt, mSetL, mLc, mYes, mSeqI, mOwnI, mOrI, mEnumL, mEnumT, mZip, mZipM, mOr2, mRevL, mRevT, mSl, mNoP, mP, mTup, mLst, mCb, mIf, mAndV, mOrV, mNotV, mChain, mBrk, mCnt, mNever, mAug, mCall0, mCallK0, hAdd, hSub, hInt, hIntC, hAnd, hDiv, hMod, hPow, hMul, hNeg, hCmp, hLt, hLe, hGt, hGe, hIx, hIxX, hLen, hIsi, hTuple, hList, hInt1, hAbs, D.isN, hIs, hNis, D.items, D.plain, D.kind, hEq_int, hNe_int, hEq_str, hNe_str, hEq_tups, hNe_tups, hEq_lsts, hNe_lsts, wipeE, List.map_cons, List.map_nil, List.replicate_succ, List.replicate_zero, List.cons_append, List.nil_append, List.getElem?_cons_zero, List.getElem?_cons_succ, List.set_cons_zero, List.set_cons_succ, List.length_cons, List.length_nil, Nat.reduceAdd, Nat.reduceSub, inT_int, inT_bool, inT_str, inT_tuple, inT_list, inT_dict, ib_NoneType_int, ib_NoneType_bool, ib_NoneType_str, ib_NoneType_tuple, ib_NoneType_list, ib_NoneType_dict, ib_bool_int, ib_bool_bool, ib_bool_str, ib_bool_tuple, ib_bool_list, ib_bool_dict, ib_int_int, ib_int_bool, ib_int_str, ib_int_tuple, ib_int_list, ib_int_dict, ib_str_int, ib_str_bool, ib_str_str, ib_str_tuple, ib_str_list, ib_str_dict, ib_tuple_int, ib_tuple_bool, ib_tuple_str, ib_tuple_tuple, ib_tuple_list, ib_tuple_dict, ib_list_int, ib_list_bool, ib_list_str, ib_list_tuple, ib_list_list, ib_list_dict, ib_dict_int, ib_dict_bool, ib_dict_str, ib_dict_tuple, ib_dict_list, ib_dict_dict, Bool.not_true, Bool.not_false, true_and, and_true, decide_true, decide_false])
  refine ⟨by omega, .inr (.inr ?_)⟩
  rw [il_rev, il_rev]
  refine w_rests hl h16 fun a b => ?_
  (try simp only [mSeq, mIfS, mOr, mAnd, mNot, mTest, mOp, mUn, mVar, mOwn, mC, mRet, mRetN, mNext, mAsg, mAsgO, mName, mGTup, mGCons, mGNil, mFor, mRng1, mRng2, mRng3, mCons, mNil, mPar, mParO, mParP, mDrop, mFz, mApp, mExt, mSetL, mLc, mYes, mSeqI, mOwnI, mOrI, mEnumL, mEnumT, mZip, mZipM, mOr2, mRevL, mRevT, mSl, mNoP, mP, mTup, mLst, mCb, mIf, mAndV, mOrV, mNotV, mChain, mBrk, mCnt, mNever, mAug, mCall0, mCallK0, hAdd, hSub, hInt, hIntC, hAnd, hDiv, hMod, hPow, hMul, hNeg, hCmp, hLt, hLe, hGt, hGe, hIx, hIxX, hLen, hIsi, hTuple, hList, hInt1, hAbs, D.isN, hIs, hNis, D.items, D.plain, D.kind, hEq_int, hNe_int, hEq_str, hNe_str, hEq_tups, hNe_tups, hEq_lsts, hNe_lsts, wipeE, List.map_cons, List.map_nil, List.replicate_succ, List.replicate_zero, List.cons_append, List.nil_append, List.getElem?_cons_zero, List.getElem?_cons_succ, List.set_cons_zero, List.set_cons_succ, List.length_cons, List.length_nil, Nat.reduceAdd, Nat.reduceSub, inT_int, inT_bool, inT_str, inT_tuple, inT_list, inT_dict, ib_NoneType_int, ib_NoneType_bool, ib_NoneType_str, ib_NoneType_tuple, ib_NoneType_list, ib_NoneType_dict, ib_bool_int, ib_bool_bool, ib_bool_str, ib_bool_tuple, ib_bool_list, ib_bool_dict, ib_int_int, ib_int_bool, ib_int_str, ib_int_tuple, ib_int_list, ib_int_dict, ib_str_int, ib_str_bool, ib_str_str, ib_str_tuple, ib_str_list, ib_str_dict, ib_tuple_int, ib_tuple_bool, ib_tuple_str, ib_tuple_tuple, ib_tuple_list, ib_tuple_dict, ib_list_int, ib_list_bool, ib_list_str, ib_list_tuple, ib_list_list, ib_list_dict, ib_dict_int, ib_dict_bool, ib_dict_str, ib_dict_tuple, ib_dict_list, ib_dict_dict, Bool.not_true, Bool.not_false, true_and, and_true, decide_true, decide_false])
  refine .inl ?_
  rw [il_rev, List.reverse_reverse]
  exact q
theorem s_law_least_holes {c : List Nat} (F : CF c) (q : Q (.tup (il (few c)))) : m_law_least_holes [.tup (nl c), .tup (nl (lst c))] Q E := by
  unfold m_law_least_holes mFn
  refine ⟨rfl, ?_⟩
  have hlen := F.len
  (try simp only [mSeq, mIfS, mOr, mAnd, mNot, mTest, mOp, mUn, mVar, mOwn, mC, mRet, mRetN, mNext, mAsg, mAsgO, mName, mGTup, mGCons, mGNil, mFor, mRng1, mRng2, mRng3, mCons, mNil, mPar, mParO, mParP, mDrop, mFz, mApp, mExt, mSetL, mLc, mYes, mSeqI, mOwnI, mOrI, mEnumL, mEnumT, mZip, mZipM, mOr2, mRevL, mRevT, mSl, mNoP, mP, mTup, mLst, mCb, mIf, mAndV, mOrV, mNotV, mChain, mBrk, mCnt, mNever, mAug, mCall0, mCallK0, hAdd, hSub, hInt, hIntC, hAnd, hDiv, hMod, hPow, hMul, hNeg, hCmp, hLt, hLe, hGt, hGe, hIx, hIxX, hLen, hIsi, hTuple, hList, hInt1, hAbs, D.isN, hIs, hNis, D.items, D.plain, D.kind, hEq_int, hNe_int, hEq_str, hNe_str, hEq_tups, hNe_tups, hEq_lsts, hNe_lsts, wipeE, List.map_cons, List.map_nil, List.replicate_succ, List.replicate_zero, List.cons_append, List.nil_append, List.getElem?_cons_zero, List.getElem?_cons_succ, List.set_cons_zero, List.set_cons_succ, List.length_cons, List.length_nil, Nat.reduceAdd, Nat.reduceSub, inT_int, inT_bool, inT_str, inT_tuple, inT_list, inT_dict, ib_NoneType_int, ib_NoneType_bool, ib_NoneType_str, ib_NoneType_tuple, ib_NoneType_list, ib_NoneType_dict, ib_bool_int, ib_bool_bool, ib_bool_str, ib_bool_tuple, ib_bool_list, ib_bool_dict, ib_int_int, ib_int_bool, ib_int_str, ib_int_tuple, ib_int_list, ib_int_dict, ib_str_int, ib_str_bool, ib_str_str, ib_str_tuple, ib_str_list, ib_str_dict, ib_tuple_int, ib_tuple_bool, ib_tuple_str, ib_tuple_tuple, ib_tuple_list, ib_tuple_dict, ib_list_int, ib_list_bool, ib_list_str, ib_list_tuple, ib_list_list, ib_list_dict, ib_dict_int, ib_dict_bool, ib_dict_str, ib_dict_tuple, ib_dict_list, ib_dict_dict, Bool.not_true, Bool.not_false, true_and, and_true, decide_true, decide_false])
  rw [nl_len]
  refine ⟨by decide, by decide, by omega, by omega, ?_⟩
  refine forL_rng (fun i env => ∃ a b d, env = [.fz (.tup (nl c)), .fz (.tup (nl (lst c))), .ow (.lst (il ((List.range i).map (fewI c)))), .fz (.int (c.length : Nat)), a, b, d]) ⟨_, _, _, rfl⟩ ?_ ?_
  · rintro k env nx hl ⟨u, v, w, rfl⟩ hn
    have e : (0 : Int) + (k : Int) * 1 = (k : Int) := by omega
    rw [e]
    have hl : k < c.length := by omega
    have step : il ((List.range (k + 1)).map (fewI c)) = il ((List.range k).map (fewI c)) ++ [D.int (max 0 (((c.getD k 0 : Nat) : Int) - aI c k - bI c k))] := by
      rw [List.range_succ, List.map_append, il_app, ← few_ab]
      rfl
    (try simp only [mGTup, mGCons, mGNil, mName, List.set_cons_zero, List.set_cons_succ, List.length_cons, List.length_nil, Nat.reduceAdd, true_and, and_true, List.map_cons, List.map_nil, List.replicate_succ, List.replicate_zero, List.cons_append, List.nil_append, Nat.reduceSub])
    refine w_asg (.int (aI c k)) (fun Q E q => ?_) ?_
    · (try simp only [mSeq, mIfS, mOr, mAnd, mNot, mTest, mOp, mUn, mVar, mOwn, mC, mRet, mRetN, mNext, mAsg, mAsgO, mName, mGTup, mGCons, mGNil, mFor, mRng1, mRng2, mRng3, mCons, mNil, mPar, mParO, mParP, mDrop, mFz, mApp, mExt, mSetL, mLc, mYes, mSeqI, mOwnI, mOrI, mEnumL, mEnumT, mZip, mZipM, mOr2, mRevL, mRevT, mSl, mNoP, mP, mTup, mLst, mCb, mIf, mAndV, mOrV, mNotV, mChain, mBrk, mCnt, mNever, mAug, mCall0, mCallK0, hAdd, hSub, hInt, hIntC, hAnd, hDiv, hMod, hPow, hMul, hNeg, hCmp, hLt, hLe, hGt, hGe, hIx, hIxX, hLen, hIsi, hTuple, hList, hInt1, hAbs, D.isN, hIs, hNis, D.items, D.plain, D.kind, hEq_int, hNe_int, hEq_str, hNe_str, hEq_tups, hNe_tups, hEq_lsts, hNe_lsts, wipeE, List.map_cons, List.map_nil, List.replicate_succ, List.replicate_zero, List.cons_append, List.nil_append, List.getElem?_cons_zero, List.getElem?_cons_succ, List.set_cons_zero, List.set_cons_succ, List.length_cons, List.length_nil, Nat.reduceAdd, Nat.reduceSub, inT_int, inT_bool, inT_str, inT_tuple, inT_list, inT_dict, ib_NoneType_int, ib_NoneType_bool, ib_NoneType_str, ib_NoneType_tuple, ib_NoneType_list, ib_NoneType_dict, ib_bool_int, ib_bool_bool, ib_bool_str, ib_bool_tuple, ib_bool_list, ib_bool_dict, ib_int_int, ib_int_bool, ib_int_str, ib_int_tuple, ib_int_list, ib_int_dict, ib_str_int, ib_str_bool, ib_str_str, ib_str_tuple, ib_str_list, ib_str_dict, ib_tuple_int, ib_tuple_bool, ib_tuple_str, ib_tuple_tuple, ib_tuple_list, ib_tuple_dict, ib_list_int, ib_list_bool, ib_list_str, ib_list_tuple, ib_list_list, ib_list_dict, ib_dict_int, ib_dict_bool, ib_dict_str, ib_dict_tuple, ib_dict_list, ib_dict_dict, Bool.not_true, Bool.not_false, true_and, and_true, decide_true, decide_false])
      unfold aI at q
      by_cases h0 : k = 0
      · rw [if_pos h0] at q
        rw [decide_eq_true (show (k : Int) = 0 by omega)]
        exact q
      · rw [if_neg h0] at q
        rw [decide_eq_false (show ¬ (k : Int) = 0 by omega)]
        refine ⟨_, at_nl (k := k - 1) (by omega) (by omega), _, at_lst (k := k - 1) (by omega) (by omega), q⟩
    (try simp only [mGTup, mGCons, mGNil, mName, List.set_cons_zero, List.set_cons_succ, List.length_cons, List.length_nil, Nat.reduceAdd, true_and, and_true, List.map_cons, List.map_nil, List.replicate_succ, List.replicate_zero, List.cons_append, List.nil_append, Nat.reduceSub])
    refine w_asg (.int (bI c k)) (fun Q E q => ?_) ?_
    · (try simp only [mSeq, mIfS, mOr, mAnd, mNot, mTest, mOp, mUn, mVar, mOwn, mC, mRet, mRetN, mNext, mAsg, mAsgO, mName, mGTup, mGCons, mGNil, mFor, mRng1, mRng2, mRng3, mCons, mNil, mPar, mParO, mParP, mDrop, mFz, mApp, mExt, mSetL, mLc, mYes, mSeqI, mOwnI, mOrI, mEnumL, mEnumT, mZip, mZipM, mOr2, mRevL, mRevT, mSl, mNoP, mP, mTup, mLst, mCb, mIf, mAndV, mOrV, mNotV, mChain, mBrk, mCnt, mNever, mAug, mCall0, mCallK0, hAdd, hSub, hInt, hIntC, hAnd, hDiv, hMod, hPow, hMul, hNeg, hCmp, hLt, hLe, hGt, hGe, hIx, hIxX, hLen, hIsi, hTuple, hList, hInt1, hAbs, D.isN, hIs, hNis, D.items, D.plain, D.kind, hEq_int, hNe_int, hEq_str, hNe_str, hEq_tups, hNe_tups, hEq_lsts, hNe_lsts, wipeE, List.map_cons, List.map_nil, List.replicate_succ, List.replicate_zero, List.cons_append, List.nil_append, List.getElem?_cons_zero, List.getElem?_cons_succ, List.set_cons_zero, List.set_cons_succ, List.length_cons, List.length_nil, Nat.reduceAdd, Nat.reduceSub, inT_int, inT_bool, inT_str, inT_tuple, inT_list, inT_dict, ib_NoneType_int, ib_NoneType_bool, ib_NoneType_str, ib_NoneType_tuple, ib_NoneType_list, ib_NoneType_dict, ib_bool_int, ib_bool_bool, ib_bool_str, ib_bool_tuple, ib_bool_list, ib_bool_dict, ib_int_int, ib_int_bool, ib_int_str, ib_int_tuple, ib_int_list, ib_int_dict, ib_str_int, ib_str_bool, ib_str_str, ib_str_tuple, ib_str_list, ib_str_dict, ib_tuple_int, ib_tuple_bool, ib_tuple_str, ib_tuple_tuple, ib_tuple_list, ib_tuple_dict, ib_list_int, ib_list_bool, ib_list_str, ib_list_tuple, ib_list_list, ib_list_dict, ib_dict_int, ib_dict_bool, ib_dict_str, ib_dict_tuple, ib_dict_list, ib_dict_dict, Bool.not_true, Bool.not_false, true_and, and_true, decide_true, decide_false])
      unfold bI at q
      by_cases h0 : k + 1 = c.length
      · rw [if_pos h0] at q
        rw [decide_eq_true (by omega)]
        exact q
      · rw [if_neg h0] at q
        rw [decide_eq_false (by omega)]
        refine ⟨_, at_nl (k := k + 1) (by omega) (by omega), _, at_lst (k := k + 2) (by omega) (by omega), q⟩
    (try simp only [mGTup, mGCons, mGNil, mName, List.set_cons_zero, List.set_cons_succ, List.length_cons, List.length_nil, Nat.reduceAdd, true_and, and_true, List.map_cons, List.map_nil, List.replicate_succ, List.replicate_zero, List.cons_append, List.nil_append, Nat.reduceSub])
    refine w_app (.int (max 0 (((c.getD k 0 : Nat) : Int) - aI c k - bI c k))) rfl (fun Q E q => ?_) (by rw [il_len, List.length_map, List.length_range]; omega) ?_
    · (try simp only [mSeq, mIfS, mOr, mAnd, mNot, mTest, mOp, mUn, mVar, mOwn, mC, mRet, mRetN, mNext, mAsg, mAsgO, mName, mGTup, mGCons, mGNil, mFor, mRng1, mRng2, mRng3, mCons, mNil, mPar, mParO, mParP, mDrop, mFz, mApp, mExt, mSetL, mLc, mYes, mSeqI, mOwnI, mOrI, mEnumL, mEnumT, mZip, mZipM, mOr2, mRevL, mRevT, mSl, mNoP, mP, mTup, mLst, mCb, mIf, mAndV, mOrV, mNotV, mChain, mBrk, mCnt, mNever, mAug, mCall0, mCallK0, hAdd, hSub, hInt, hIntC, hAnd, hDiv, hMod, hPow, hMul, hNeg, hCmp, hLt, hLe, hGt, hGe, hIx, hIxX, hLen, hIsi, hTuple, hList, hInt1, hAbs, D.isN, hIs, hNis, D.items, D.plain, D.kind, hEq_int, hNe_int, hEq_str, hNe_str, hEq_tups, hNe_tups, hEq_lsts, hNe_lsts, wipeE, List.map_cons, List.map_nil, List.replicate_succ, List.replicate_zero, List.cons_append, List.nil_append, List.getElem?_cons_zero, List.getElem?_cons_succ, List.set_cons_zero, List.set_cons_succ, List.length_cons, List.length_nil, Nat.reduceAdd, Nat.reduceSub, inT_int, inT_bool, inT_str, inT_tuple, inT_list, inT_dict, ib_NoneType_int, ib_NoneType_bool, ib_NoneType_str, ib_NoneType_tuple, ib_NoneType_list, ib_NoneType_dict, ib_bool_int, ib_bool_bool, ib_bool_str, ib_bool_tuple, ib_bool_list, ib_bool_dict, ib_int_int, ib_int_bool, ib_int_str, ib_int_tuple, ib_int_list, ib_int_dict, ib_str_int, ib_str_bool, ib_str_str, ib_str_tuple, ib_str_list, ib_str_dict, ib_tuple_int, ib_tuple_bool, ib_tuple_str, ib_tuple_tuple, ib_tuple_list, ib_tuple_dict, ib_list_int, ib_list_bool, ib_list_str, ib_list_tuple, ib_list_list, ib_list_dict, ib_dict_int, ib_dict_bool, ib_dict_str, ib_dict_tuple, ib_dict_list, ib_dict_dict, Bool.not_true, Bool.not_false, true_and, and_true, decide_true, decide_false])
      exact ⟨_, at_nl (k := k) rfl hl, q⟩
    · rw [← step]
      exact hn _ ⟨_, _, _, rfl⟩
  · rintro env ⟨u, v, w, rfl⟩
    rw [show ((c.length : Nat) : Int).toNat = c.length by omega]
    (try simp only [mSeq, mIfS, mOr, mAnd, mNot, mTest, mOp, mUn, mVar, mOwn, mC, mRet, mRetN, mNext, mAsg, mAsgO, mName, mGTup, mGCons, mGNil, mFor, mRng1, mRng2, mRng3, mCons, mNil, mPar, mParO, mParP, mDrop, mFz, mApp, mExt, mSetL, mLc, mYes, mSeqI, mOwnI, mOrI, mEnumL, mEnumT, mZip, mZipM, mOr2, mRevL, mRevT, mSl, mNoP, mP, mTup, mLst, mCb, mIf, mAndV, mOrV, mNotV, mChain, mBrk, mCnt, mNever, mAug, mCall0, mCallK0, hAdd, hSub, hInt, hIntC, hAnd, hDiv, hMod, hPow, hMul, hNeg, hCmp, hLt, hLe, hGt, hGe, hIx, hIxX, hLen, hIsi, hTuple, hList, hInt1, hAbs, D.isN, hIs, hNis, D.items, D.plain, D.kind, hEq_int, hNe_int, hEq_str, hNe_str, hEq_tups, hNe_tups, hEq_lsts, hNe_lsts, wipeE, List.map_cons, List.map_nil, List.replicate_succ, List.replicate_zero, List.cons_append, List.nil_append, List.getElem?_cons_zero, List.getElem?_cons_succ, List.set_cons_zero, List.set_cons_succ, List.length_cons, List.length_nil, Nat.reduceAdd, Nat.reduceSub, inT_int, inT_bool, inT_str, inT_tuple, inT_list, inT_dict, ib_NoneType_int, ib_NoneType_bool, ib_NoneType_str, ib_NoneType_tuple, ib_NoneType_list, ib_NoneType_dict, ib_bool_int, ib_bool_bool, ib_bool_str, ib_bool_tuple, ib_bool_list, ib_bool_dict, ib_int_int, ib_int_bool, ib_int_str, ib_int_tuple, ib_int_list, ib_int_dict, ib_str_int, ib_str_bool, ib_str_str, ib_str_tuple, ib_str_list, ib_str_dict, ib_tuple_int, ib_tuple_bool, ib_tuple_str, ib_tuple_tuple, ib_tuple_list, ib_tuple_dict, ib_list_int, ib_list_bool, ib_list_str, ib_list_tuple, ib_list_list, ib_list_dict, ib_dict_int, ib_dict_bool, ib_dict_str, ib_dict_tuple, ib_dict_list, ib_dict_dict, Bool.not_true, Bool.not_false, true_and, and_true, decide_true, decide_false])
    exact q
theorem s_law_is_least {c : List Nat} (F : CF c) {k : Nat} (hk : k < c.length) (q : Q (.bl true)) : m_law_is_least [.tup (nl c), .int k, .int (mm c k : Nat)] Q E := by
  unfold m_law_is_least mFn
  refine ⟨rfl, ?_⟩
  have hle : mm c k ≤ c.getD k 0 := by have := mm_add F.fit hk; omega
  have hb := cf_big F k
  have h16 := F.len
  (try simp only [mSeq, mIfS, mOr, mAnd, mNot, mTest, mOp, mUn, mVar, mOwn, mC, mRet, mRetN, mNext, mAsg, mAsgO, mName, mGTup, mGCons, mGNil, mFor, mRng1, mRng2, mRng3, mCons, mNil, mPar, mParO, mParP, mDrop, mFz, mApp, mExt, mSetL, mLc, mYes, mSeqI, mOwnI, mOrI, mEnumL, mEnumT, mZip, mZipM, mOr2, mRevL, mRevT, mSl, mNoP, mP, mTup, mLst, mCb, mIf, mAndV, mOrV, mNotV, mChain, mBrk, mCnt, mNever, mAug, mCall0, mCallK0, hAdd, hSub, hInt, hIntC, hAnd, hDiv, hMod, hPow, hMul, hNeg, hCmp, hLt, hLe, hGt, hGe, hIx, hIxX, hLen, hIsi, hTuple, hList, hInt1, hAbs, D.isN, hIs, hNis, D.items, D.plain, D.kind, hEq_int, hNe_int, hEq_str, hNe_str, hEq_tups, hNe_tups, hEq_lsts, hNe_lsts, wipeE, List.map_cons, List.map_nil, List.replicate_succ, List.replicate_zero, List.cons_append, List.nil_append, List.getElem?_cons_zero, List.getElem?_cons_succ, List.set_cons_zero, List.set_cons_succ, List.length_cons, List.length_nil, Nat.reduceAdd, Nat.reduceSub, inT_int, inT_bool, inT_str, inT_tuple, inT_list, inT_dict, ib_NoneType_int, ib_NoneType_bool, ib_NoneType_str, ib_NoneType_tuple, ib_NoneType_list, ib_NoneType_dict, ib_bool_int, ib_bool_bool, ib_bool_str, ib_bool_tuple, ib_bool_list, ib_bool_dict, ib_int_int, ib_int_bool, ib_int_str, ib_int_tuple, ib_int_list, ib_int_dict, ib_str_int, ib_str_bool, ib_str_str, ib_str_tuple, ib_str_list, ib_str_dict, ib_tuple_int, ib_tuple_bool, ib_tuple_str, ib_tuple_tuple, ib_tuple_list, ib_tuple_dict, ib_list_int, ib_list_bool, ib_list_str, ib_list_tuple, ib_list_list, ib_list_dict, ib_dict_int, ib_dict_bool, ib_dict_str, ib_dict_tuple, ib_dict_list, ib_dict_dict, Bool.not_true, Bool.not_false, true_and, and_true, decide_true, decide_false])
  rw [decide_eq_false (by omega)]
  refine ⟨_, at_nl (k := k) rfl hk, ?_⟩
  (try simp only [mSeq, mIfS, mOr, mAnd, mNot, mTest, mOp, mUn, mVar, mOwn, mC, mRet, mRetN, mNext, mAsg, mAsgO, mName, mGTup, mGCons, mGNil, mFor, mRng1, mRng2, mRng3, mCons, mNil, mPar, mParO, mParP, mDrop, mFz, mApp, mExt, mSetL, mLc, mYes, mSeqI, mOwnI, mOrI, mEnumL, mEnumT, mZip, mZipM, mOr2, mRevL, mRevT, mSl, mNoP, mP, mTup, mLst, mCb, mIf, mAndV, mOrV, mNotV, mChain, mBrk, mCnt, mNever, mAug, mCall0, mCallK0, hAdd, hSub, hInt, hIntC, hAnd, hDiv, hMod, hPow, hMul, hNeg, hCmp, hLt, hLe, hGt, hGe, hIx, hIxX, hLen, hIsi, hTuple, hList, hInt1, hAbs, D.isN, hIs, hNis, D.items, D.plain, D.kind, hEq_int, hNe_int, hEq_str, hNe_str, hEq_tups, hNe_tups, hEq_lsts, hNe_lsts, wipeE, List.map_cons, List.map_nil, List.replicate_succ, List.replicate_zero, List.cons_append, List.nil_append, List.getElem?_cons_zero, List.getElem?_cons_succ, List.set_cons_zero, List.set_cons_succ, List.length_cons, List.length_nil, Nat.reduceAdd, Nat.reduceSub, inT_int, inT_bool, inT_str, inT_tuple, inT_list, inT_dict, ib_NoneType_int, ib_NoneType_bool, ib_NoneType_str, ib_NoneType_tuple, ib_NoneType_list, ib_NoneType_dict, ib_bool_int, ib_bool_bool, ib_bool_str, ib_bool_tuple, ib_bool_list, ib_bool_dict, ib_int_int, ib_int_bool, ib_int_str, ib_int_tuple, ib_int_list, ib_int_dict, ib_str_int, ib_str_bool, ib_str_str, ib_str_tuple, ib_str_list, ib_str_dict, ib_tuple_int, ib_tuple_bool, ib_tuple_str, ib_tuple_tuple, ib_tuple_list, ib_tuple_dict, ib_list_int, ib_list_bool, ib_list_str, ib_list_tuple, ib_list_list, ib_list_dict, ib_dict_int, ib_dict_bool, ib_dict_str, ib_dict_tuple, ib_dict_list, ib_dict_dict, Bool.not_true, Bool.not_false, true_and, and_true, decide_true, decide_false])
  have e1 : ((c.getD k 0 : Nat) : Int) - ((mm c k : Nat) : Int) = ((c.getD k 0 - mm c k : Nat) : Int) := by omega
  have e2 : (k : Int) + 1 = ((k + 1 : Nat) : Int) := by omega
  rw [e1, e2]
  have key := (mm_iff F.fit (r := mm c k) hk).mpr (Nat.le_refl _)
  refine s_law_lower_sets (by omega) (by omega) (by omega) ?_
  (try simp only [mSeq, mIfS, mOr, mAnd, mNot, mTest, mOp, mUn, mVar, mOwn, mC, mRet, mRetN, mNext, mAsg, mAsgO, mName, mGTup, mGCons, mGNil, mFor, mRng1, mRng2, mRng3, mCons, mNil, mPar, mParO, mParP, mDrop, mFz, mApp, mExt, mSetL, mLc, mYes, mSeqI, mOwnI, mOrI, mEnumL, mEnumT, mZip, mZipM, mOr2, mRevL, mRevT, mSl, mNoP, mP, mTup, mLst, mCb, mIf, mAndV, mOrV, mNotV, mChain, mBrk, mCnt, mNever, mAug, mCall0, mCallK0, hAdd, hSub, hInt, hIntC, hAnd, hDiv, hMod, hPow, hMul, hNeg, hCmp, hLt, hLe, hGt, hGe, hIx, hIxX, hLen, hIsi, hTuple, hList, hInt1, hAbs, D.isN, hIs, hNis, D.items, D.plain, D.kind, hEq_int, hNe_int, hEq_str, hNe_str, hEq_tups, hNe_tups, hEq_lsts, hNe_lsts, wipeE, List.map_cons, List.map_nil, List.replicate_succ, List.replicate_zero, List.cons_append, List.nil_append, List.getElem?_cons_zero, List.getElem?_cons_succ, List.set_cons_zero, List.set_cons_succ, List.length_cons, List.length_nil, Nat.reduceAdd, Nat.reduceSub, inT_int, inT_bool, inT_str, inT_tuple, inT_list, inT_dict, ib_NoneType_int, ib_NoneType_bool, ib_NoneType_str, ib_NoneType_tuple, ib_NoneType_list, ib_NoneType_dict, ib_bool_int, ib_bool_bool, ib_bool_str, ib_bool_tuple, ib_bool_list, ib_bool_dict, ib_int_int, ib_int_bool, ib_int_str, ib_int_tuple, ib_int_list, ib_int_dict, ib_str_int, ib_str_bool, ib_str_str, ib_str_tuple, ib_str_list, ib_str_dict, ib_tuple_int, ib_tuple_bool, ib_tuple_str, ib_tuple_tuple, ib_tuple_list, ib_tuple_dict, ib_list_int, ib_list_bool, ib_list_str, ib_list_tuple, ib_list_list, ib_list_dict, ib_dict_int, ib_dict_bool, ib_dict_str, ib_dict_tuple, ib_dict_list, ib_dict_dict, Bool.not_true, Bool.not_false, true_and, and_true, decide_true, decide_false])
  rw [decide_eq_false (show ¬ ((mm c k : Nat) : Int) < ((LS (c.getD k 0 - mm c k) (k + 1) : Nat) : Int) by omega)]
  by_cases h0 : mm c k = 0
  · rw [decide_eq_true (show ((mm c k : Nat) : Int) = 0 by omega)]
    exact q
  · rw [decide_eq_false (show ¬ ((mm c k : Nat) : Int) = 0 by omega)]
    refine ⟨_, at_nl (k := k) rfl hk, ?_⟩
    (try simp only [mSeq, mIfS, mOr, mAnd, mNot, mTest, mOp, mUn, mVar, mOwn, mC, mRet, mRetN, mNext, mAsg, mAsgO, mName, mGTup, mGCons, mGNil, mFor, mRng1, mRng2, mRng3, mCons, mNil, mPar, mParO, mParP, mDrop, mFz, mApp, mExt, mSetL, mLc, mYes, mSeqI, mOwnI, mOrI, mEnumL, mEnumT, mZip, mZipM, mOr2, mRevL, mRevT, mSl, mNoP, mP, mTup, mLst, mCb, mIf, mAndV, mOrV, mNotV, mChain, mBrk, mCnt, mNever, mAug, mCall0, mCallK0, hAdd, hSub, hInt, hIntC, hAnd, hDiv, hMod, hPow, hMul, hNeg, hCmp, hLt, hLe, hGt, hGe, hIx, hIxX, hLen, hIsi, hTuple, hList, hInt1, hAbs, D.isN, hIs, hNis, D.items, D.plain, D.kind, hEq_int, hNe_int, hEq_str, hNe_str, hEq_tups, hNe_tups, hEq_lsts, hNe_lsts, wipeE, List.map_cons, List.map_nil, List.replicate_succ, List.replicate_zero, List.cons_append, List.nil_append, List.getElem?_cons_zero, List.getElem?_cons_succ, List.set_cons_zero, List.set_cons_succ, List.length_cons, List.length_nil, Nat.reduceAdd, Nat.reduceSub, inT_int, inT_bool, inT_str, inT_tuple, inT_list, inT_dict, ib_NoneType_int, ib_NoneType_bool, ib_NoneType_str, ib_NoneType_tuple, ib_NoneType_list, ib_NoneType_dict, ib_bool_int, ib_bool_bool, ib_bool_str, ib_bool_tuple, ib_bool_list, ib_bool_dict, ib_int_int, ib_int_bool, ib_int_str, ib_int_tuple, ib_int_list, ib_int_dict, ib_str_int, ib_str_bool, ib_str_str, ib_str_tuple, ib_str_list, ib_str_dict, ib_tuple_int, ib_tuple_bool, ib_tuple_str, ib_tuple_tuple, ib_tuple_list, ib_tuple_dict, ib_list_int, ib_list_bool, ib_list_str, ib_list_tuple, ib_list_list, ib_list_dict, ib_dict_int, ib_dict_bool, ib_dict_str, ib_dict_tuple, ib_dict_list, ib_dict_dict, Bool.not_true, Bool.not_false, true_and, and_true, decide_true, decide_false])
    have e3 : ((c.getD k 0 : Nat) : Int) - ((mm c k : Nat) : Int) + 1 = ((c.getD k 0 - (mm c k - 1) : Nat) : Int) := by omega
    rw [e3]
    refine s_law_lower_sets (by omega) (by omega) (by omega) ?_
    (try simp only [mSeq, mIfS, mOr, mAnd, mNot, mTest, mOp, mUn, mVar, mOwn, mC, mRet, mRetN, mNext, mAsg, mAsgO, mName, mGTup, mGCons, mGNil, mFor, mRng1, mRng2, mRng3, mCons, mNil, mPar, mParO, mParP, mDrop, mFz, mApp, mExt, mSetL, mLc, mYes, mSeqI, mOwnI, mOrI, mEnumL, mEnumT, mZip, mZipM, mOr2, mRevL, mRevT, mSl, mNoP, mP, mTup, mLst, mCb, mIf, mAndV, mOrV, mNotV, mChain, mBrk, mCnt, mNever, mAug, mCall0, mCallK0, hAdd, hSub, hInt, hIntC, hAnd, hDiv, hMod, hPow, hMul, hNeg, hCmp, hLt, hLe, hGt, hGe, hIx, hIxX, hLen, hIsi, hTuple, hList, hInt1, hAbs, D.isN, hIs, hNis, D.items, D.plain, D.kind, hEq_int, hNe_int, hEq_str, hNe_str, hEq_tups, hNe_tups, hEq_lsts, hNe_lsts, wipeE, List.map_cons, List.map_nil, List.replicate_succ, List.replicate_zero, List.cons_append, List.nil_append, List.getElem?_cons_zero, List.getElem?_cons_succ, List.set_cons_zero, List.set_cons_succ, List.length_cons, List.length_nil, Nat.reduceAdd, Nat.reduceSub, inT_int, inT_bool, inT_str, inT_tuple, inT_list, inT_dict, ib_NoneType_int, ib_NoneType_bool, ib_NoneType_str, ib_NoneType_tuple, ib_NoneType_list, ib_NoneType_dict, ib_bool_int, ib_bool_bool, ib_bool_str, ib_bool_tuple, ib_bool_list, ib_bool_dict, ib_int_int, ib_int_bool, ib_int_str, ib_int_tuple, ib_int_list, ib_int_dict, ib_str_int, ib_str_bool, ib_str_str, ib_str_tuple, ib_str_list, ib_str_dict, ib_tuple_int, ib_tuple_bool, ib_tuple_str, ib_tuple_tuple, ib_tuple_list, ib_tuple_dict, ib_list_int, ib_list_bool, ib_list_str, ib_list_tuple, ib_list_list, ib_list_dict, ib_dict_int, ib_dict_bool, ib_dict_str, ib_dict_tuple, ib_dict_list, ib_dict_dict, Bool.not_true, Bool.not_false, true_and, and_true, decide_true, decide_false])
    have k2 : ¬ LS (c.getD k 0 - (mm c k - 1)) (k + 1) ≤ mm c k - 1 := fun z => by
      have := (mm_iff F.fit (r := mm c k - 1) hk).mp z
      omega
    rw [decide_eq_true (by omega)]
    exact q
theorem min_of : ∀ (x : Int) (r : List Int), ∃ m ∈ x :: r, ∀ y ∈ x :: r, m ≤ y
  | x, [] => ⟨x, List.mem_singleton.mpr rfl, fun y hy => by rw [List.mem_singleton.mp hy]; exact Int.le_refl _⟩
  | x, z :: r => by
    obtain ⟨m, h1, h2⟩ := min_of z r
    by_cases h : x ≤ m
    · exact ⟨x, List.mem_cons_self .., fun y hy => by
        rcases List.mem_cons.mp hy with q | q
        · rw [q]; exact Int.le_refl _
        · have := h2 y q; omega⟩
    · exact ⟨m, List.mem_cons_of_mem _ h1, fun y hy => by
        rcases List.mem_cons.mp hy with q | q
        · rw [q]; omega
        · exact h2 y q⟩
theorem b40 : 10 ^ 40 < 2 ^ 2000 := by decide +kernel
theorem s_law_does_fit {c h : List Nat} (hl : h.length = c.length) (h1 : 1 ≤ c.length) (h16 : c.length ≤ 16) (hs : ∀ k, c.getD k 0 < 10 ^ 40) (q : Q (.bl (df c h))) : m_law_does_fit [.tup (nl c), .tup (nl h)] Q E := by
  unfold m_law_does_fit mFn
  refine ⟨rfl, ?_⟩
  have li : (izs c).length = c.length := List.length_map ..
  have lh : (izs h).length = c.length := by rw [List.length_map, hl]
  have e : (izs c).length = (izs h).length := by rw [li, lh]
  have rl : (rst (izs c) (izs h)).length = c.length + 1 := by rw [rst_len e, li]
  have step : ∀ k, k < c.length → (rst (izs c) (izs h)).getD k 0 = ((c.getD k 0 : Nat) : Int) - ((h.getD k 0 : Nat) : Int) - (rst (izs c) (izs h)).getD (k + 1) 0 := fun k hk => by
    rw [rst_at e (by rw [li]; exact hk), ints_at, ints_at]
  (try simp only [mGTup, mGCons, mGNil, mName, List.set_cons_zero, List.set_cons_succ, List.length_cons, List.length_nil, Nat.reduceAdd, true_and, and_true, List.map_cons, List.map_nil, List.replicate_succ, List.replicate_zero, List.cons_append, List.nil_append, Nat.reduceSub])
  refine w_asg (.tup (il (rst (izs c) (izs h)))) (fun Q E q => ?_) ?_
  · (try simp only [mSeq, mIfS, mOr, mAnd, mNot, mTest, mOp, mUn, mVar, mOwn, mC, mRet, mRetN, mNext, mAsg, mAsgO, mName, mGTup, mGCons, mGNil, mFor, mRng1, mRng2, mRng3, mCons, mNil, mPar, mParO, mParP, mDrop, mFz, mApp, mExt, mSetL, mLc, mYes, mSeqI, mOwnI, mOrI, mEnumL, mEnumT, mZip, mZipM, mOr2, mRevL, mRevT, mSl, mNoP, mP, mTup, mLst, mCb, mIf, mAndV, mOrV, mNotV, mChain, mBrk, mCnt, mNever, mAug, mCall0, mCallK0, hAdd, hSub, hInt, hIntC, hAnd, hDiv, hMod, hPow, hMul, hNeg, hCmp, hLt, hLe, hGt, hGe, hIx, hIxX, hLen, hIsi, hTuple, hList, hInt1, hAbs, D.isN, hIs, hNis, D.items, D.plain, D.kind, hEq_int, hNe_int, hEq_str, hNe_str, hEq_tups, hNe_tups, hEq_lsts, hNe_lsts, wipeE, List.map_cons, List.map_nil, List.replicate_succ, List.replicate_zero, List.cons_append, List.nil_append, List.getElem?_cons_zero, List.getElem?_cons_succ, List.set_cons_zero, List.set_cons_succ, List.length_cons, List.length_nil, Nat.reduceAdd, Nat.reduceSub, inT_int, inT_bool, inT_str, inT_tuple, inT_list, inT_dict, ib_NoneType_int, ib_NoneType_bool, ib_NoneType_str, ib_NoneType_tuple, ib_NoneType_list, ib_NoneType_dict, ib_bool_int, ib_bool_bool, ib_bool_str, ib_bool_tuple, ib_bool_list, ib_bool_dict, ib_int_int, ib_int_bool, ib_int_str, ib_int_tuple, ib_int_list, ib_int_dict, ib_str_int, ib_str_bool, ib_str_str, ib_str_tuple, ib_str_list, ib_str_dict, ib_tuple_int, ib_tuple_bool, ib_tuple_str, ib_tuple_tuple, ib_tuple_list, ib_tuple_dict, ib_list_int, ib_list_bool, ib_list_str, ib_list_tuple, ib_list_list, ib_list_dict, ib_dict_int, ib_dict_bool, ib_dict_str, ib_dict_tuple, ib_dict_list, ib_dict_dict, Bool.not_true, Bool.not_false, true_and, and_true, decide_true, decide_false])
    rw [nl_il, nl_il]
    exact s_law_rests e (by rw [li]; exact h16) q
  unfold df at q
  by_cases h0 : (rst (izs c) (izs h)).getD 0 0 = 1
  rotate_left
  · rw [decide_eq_false h0, Bool.false_and, Bool.false_and] at q
    refine w_ifT (fun Q E q => ?_) ?_
    · (try simp only [mSeq, mIfS, mOr, mAnd, mNot, mTest, mOp, mUn, mVar, mOwn, mC, mRet, mRetN, mNext, mAsg, mAsgO, mName, mGTup, mGCons, mGNil, mFor, mRng1, mRng2, mRng3, mCons, mNil, mPar, mParO, mParP, mDrop, mFz, mApp, mExt, mSetL, mLc, mYes, mSeqI, mOwnI, mOrI, mEnumL, mEnumT, mZip, mZipM, mOr2, mRevL, mRevT, mSl, mNoP, mP, mTup, mLst, mCb, mIf, mAndV, mOrV, mNotV, mChain, mBrk, mCnt, mNever, mAug, mCall0, mCallK0, hAdd, hSub, hInt, hIntC, hAnd, hDiv, hMod, hPow, hMul, hNeg, hCmp, hLt, hLe, hGt, hGe, hIx, hIxX, hLen, hIsi, hTuple, hList, hInt1, hAbs, D.isN, hIs, hNis, D.items, D.plain, D.kind, hEq_int, hNe_int, hEq_str, hNe_str, hEq_tups, hNe_tups, hEq_lsts, hNe_lsts, wipeE, List.map_cons, List.map_nil, List.replicate_succ, List.replicate_zero, List.cons_append, List.nil_append, List.getElem?_cons_zero, List.getElem?_cons_succ, List.set_cons_zero, List.set_cons_succ, List.length_cons, List.length_nil, Nat.reduceAdd, Nat.reduceSub, inT_int, inT_bool, inT_str, inT_tuple, inT_list, inT_dict, ib_NoneType_int, ib_NoneType_bool, ib_NoneType_str, ib_NoneType_tuple, ib_NoneType_list, ib_NoneType_dict, ib_bool_int, ib_bool_bool, ib_bool_str, ib_bool_tuple, ib_bool_list, ib_bool_dict, ib_int_int, ib_int_bool, ib_int_str, ib_int_tuple, ib_int_list, ib_int_dict, ib_str_int, ib_str_bool, ib_str_str, ib_str_tuple, ib_str_list, ib_str_dict, ib_tuple_int, ib_tuple_bool, ib_tuple_str, ib_tuple_tuple, ib_tuple_list, ib_tuple_dict, ib_list_int, ib_list_bool, ib_list_str, ib_list_tuple, ib_list_list, ib_list_dict, ib_dict_int, ib_dict_bool, ib_dict_str, ib_dict_tuple, ib_dict_list, ib_dict_dict, Bool.not_true, Bool.not_false, true_and, and_true, decide_true, decide_false])
      refine ⟨_, at_il (k := 0) rfl (by omega), ?_⟩
      (try simp only [mSeq, mIfS, mOr, mAnd, mNot, mTest, mOp, mUn, mVar, mOwn, mC, mRet, mRetN, mNext, mAsg, mAsgO, mName, mGTup, mGCons, mGNil, mFor, mRng1, mRng2, mRng3, mCons, mNil, mPar, mParO, mParP, mDrop, mFz, mApp, mExt, mSetL, mLc, mYes, mSeqI, mOwnI, mOrI, mEnumL, mEnumT, mZip, mZipM, mOr2, mRevL, mRevT, mSl, mNoP, mP, mTup, mLst, mCb, mIf, mAndV, mOrV, mNotV, mChain, mBrk, mCnt, mNever, mAug, mCall0, mCallK0, hAdd, hSub, hInt, hIntC, hAnd, hDiv, hMod, hPow, hMul, hNeg, hCmp, hLt, hLe, hGt, hGe, hIx, hIxX, hLen, hIsi, hTuple, hList, hInt1, hAbs, D.isN, hIs, hNis, D.items, D.plain, D.kind, hEq_int, hNe_int, hEq_str, hNe_str, hEq_tups, hNe_tups, hEq_lsts, hNe_lsts, wipeE, List.map_cons, List.map_nil, List.replicate_succ, List.replicate_zero, List.cons_append, List.nil_append, List.getElem?_cons_zero, List.getElem?_cons_succ, List.set_cons_zero, List.set_cons_succ, List.length_cons, List.length_nil, Nat.reduceAdd, Nat.reduceSub, inT_int, inT_bool, inT_str, inT_tuple, inT_list, inT_dict, ib_NoneType_int, ib_NoneType_bool, ib_NoneType_str, ib_NoneType_tuple, ib_NoneType_list, ib_NoneType_dict, ib_bool_int, ib_bool_bool, ib_bool_str, ib_bool_tuple, ib_bool_list, ib_bool_dict, ib_int_int, ib_int_bool, ib_int_str, ib_int_tuple, ib_int_list, ib_int_dict, ib_str_int, ib_str_bool, ib_str_str, ib_str_tuple, ib_str_list, ib_str_dict, ib_tuple_int, ib_tuple_bool, ib_tuple_str, ib_tuple_tuple, ib_tuple_list, ib_tuple_dict, ib_list_int, ib_list_bool, ib_list_str, ib_list_tuple, ib_list_list, ib_list_dict, ib_dict_int, ib_dict_bool, ib_dict_str, ib_dict_tuple, ib_dict_list, ib_dict_dict, Bool.not_true, Bool.not_false, true_and, and_true, decide_true, decide_false])
      rw [decide_eq_false h0]
      exact q
    · (try simp only [mSeq, mIfS, mOr, mAnd, mNot, mTest, mOp, mUn, mVar, mOwn, mC, mRet, mRetN, mNext, mAsg, mAsgO, mName, mGTup, mGCons, mGNil, mFor, mRng1, mRng2, mRng3, mCons, mNil, mPar, mParO, mParP, mDrop, mFz, mApp, mExt, mSetL, mLc, mYes, mSeqI, mOwnI, mOrI, mEnumL, mEnumT, mZip, mZipM, mOr2, mRevL, mRevT, mSl, mNoP, mP, mTup, mLst, mCb, mIf, mAndV, mOrV, mNotV, mChain, mBrk, mCnt, mNever, mAug, mCall0, mCallK0, hAdd, hSub, hInt, hIntC, hAnd, hDiv, hMod, hPow, hMul, hNeg, hCmp, hLt, hLe, hGt, hGe, hIx, hIxX, hLen, hIsi, hTuple, hList, hInt1, hAbs, D.isN, hIs, hNis, D.items, D.plain, D.kind, hEq_int, hNe_int, hEq_str, hNe_str, hEq_tups, hNe_tups, hEq_lsts, hNe_lsts, wipeE, List.map_cons, List.map_nil, List.replicate_succ, List.replicate_zero, List.cons_append, List.nil_append, List.getElem?_cons_zero, List.getElem?_cons_succ, List.set_cons_zero, List.set_cons_succ, List.length_cons, List.length_nil, Nat.reduceAdd, Nat.reduceSub, inT_int, inT_bool, inT_str, inT_tuple, inT_list, inT_dict, ib_NoneType_int, ib_NoneType_bool, ib_NoneType_str, ib_NoneType_tuple, ib_NoneType_list, ib_NoneType_dict, ib_bool_int, ib_bool_bool, ib_bool_str, ib_bool_tuple, ib_bool_list, ib_bool_dict, ib_int_int, ib_int_bool, ib_int_str, ib_int_tuple, ib_int_list, ib_int_dict, ib_str_int, ib_str_bool, ib_str_str, ib_str_tuple, ib_str_list, ib_str_dict, ib_tuple_int, ib_tuple_bool, ib_tuple_str, ib_tuple_tuple, ib_tuple_list, ib_tuple_dict, ib_list_int, ib_list_bool, ib_list_str, ib_list_tuple, ib_list_list, ib_list_dict, ib_dict_int, ib_dict_bool, ib_dict_str, ib_dict_tuple, ib_dict_list, ib_dict_dict, Bool.not_true, Bool.not_false, true_and, and_true, decide_true, decide_false])
      exact q
  rw [decide_eq_true h0, Bool.true_and] at q
  obtain ⟨x0, r0, hr0⟩ := rst_ne (izs c) (izs h)
  obtain ⟨m, hm1, hm2⟩ := min_of x0 r0
  rw [← hr0] at hm1 hm2
  have hall : decide (m < 0) = !((List.range (c.length + 1)).all fun k => decide (0 ≤ (rst (izs c) (izs h)).getD k 0)) := by
    rw [Bool.eq_iff_iff, Bool.not_eq_true']
    constructor
    · intro q
      have q' := of_decide_eq_true q
      apply Bool.eq_false_iff.mpr
      intro z
      rw [List.all_eq_true] at z
      obtain ⟨i, hi, hi2⟩ := List.getElem_of_mem hm1
      rw [rl] at hi
      have := of_decide_eq_true (z i (List.mem_range.mpr hi))
      rw [List.getD_eq_getElem?_getD, List.getElem?_eq_getElem (by rw [rl]; exact hi), hi2] at this
      have : 0 ≤ m := this
      omega
    · intro q
      apply decide_eq_true
      apply Classical.byContradiction
      intro z
      apply Bool.eq_false_iff.mp q
      rw [List.all_eq_true]
      intro i hi
      have hi' := List.mem_range.mp hi
      apply decide_eq_true
      have hmem : (rst (izs c) (izs h)).getD i 0 ∈ rst (izs c) (izs h) := by
        rw [List.getD_eq_getElem?_getD, List.getElem?_eq_getElem (by rw [rl]; exact hi')]
        exact List.getElem_mem _
      have := hm2 _ hmem
      omega
  have mins : ∀ b : Bool, decide (m < 0) = b → ∀ (Q : Bool → Prop) (E : XV → Prop), Q b → (mOr (mTest (mOp hNe (mOp hIx (mVar 2) (mC (.int 0))) (mC (.int 1)))) (mTest (mOp hLt (mCb hMin (mCons (mVar 2) mNil)) (mC (.int 0))))) [.fz (.tup (nl c)), .fz (.tup (nl h)), .fz (.tup (il (rst (izs c) (izs h)))), .un] Q E := fun b hb Q E q => by
    (try simp only [mSeq, mIfS, mOr, mAnd, mNot, mTest, mOp, mUn, mVar, mOwn, mC, mRet, mRetN, mNext, mAsg, mAsgO, mName, mGTup, mGCons, mGNil, mFor, mRng1, mRng2, mRng3, mCons, mNil, mPar, mParO, mParP, mDrop, mFz, mApp, mExt, mSetL, mLc, mYes, mSeqI, mOwnI, mOrI, mEnumL, mEnumT, mZip, mZipM, mOr2, mRevL, mRevT, mSl, mNoP, mP, mTup, mLst, mCb, mIf, mAndV, mOrV, mNotV, mChain, mBrk, mCnt, mNever, mAug, mCall0, mCallK0, hAdd, hSub, hInt, hIntC, hAnd, hDiv, hMod, hPow, hMul, hNeg, hCmp, hLt, hLe, hGt, hGe, hIx, hIxX, hLen, hIsi, hTuple, hList, hInt1, hAbs, D.isN, hIs, hNis, D.items, D.plain, D.kind, hEq_int, hNe_int, hEq_str, hNe_str, hEq_tups, hNe_tups, hEq_lsts, hNe_lsts, wipeE, List.map_cons, List.map_nil, List.replicate_succ, List.replicate_zero, List.cons_append, List.nil_append, List.getElem?_cons_zero, List.getElem?_cons_succ, List.set_cons_zero, List.set_cons_succ, List.length_cons, List.length_nil, Nat.reduceAdd, Nat.reduceSub, inT_int, inT_bool, inT_str, inT_tuple, inT_list, inT_dict, ib_NoneType_int, ib_NoneType_bool, ib_NoneType_str, ib_NoneType_tuple, ib_NoneType_list, ib_NoneType_dict, ib_bool_int, ib_bool_bool, ib_bool_str, ib_bool_tuple, ib_bool_list, ib_bool_dict, ib_int_int, ib_int_bool, ib_int_str, ib_int_tuple, ib_int_list, ib_int_dict, ib_str_int, ib_str_bool, ib_str_str, ib_str_tuple, ib_str_list, ib_str_dict, ib_tuple_int, ib_tuple_bool, ib_tuple_str, ib_tuple_tuple, ib_tuple_list, ib_tuple_dict, ib_list_int, ib_list_bool, ib_list_str, ib_list_tuple, ib_list_list, ib_list_dict, ib_dict_int, ib_dict_bool, ib_dict_str, ib_dict_tuple, ib_dict_list, ib_dict_dict, Bool.not_true, Bool.not_false, true_and, and_true, decide_true, decide_false])
    refine ⟨_, at_il (k := 0) rfl (by omega), ?_⟩
    (try simp only [mSeq, mIfS, mOr, mAnd, mNot, mTest, mOp, mUn, mVar, mOwn, mC, mRet, mRetN, mNext, mAsg, mAsgO, mName, mGTup, mGCons, mGNil, mFor, mRng1, mRng2, mRng3, mCons, mNil, mPar, mParO, mParP, mDrop, mFz, mApp, mExt, mSetL, mLc, mYes, mSeqI, mOwnI, mOrI, mEnumL, mEnumT, mZip, mZipM, mOr2, mRevL, mRevT, mSl, mNoP, mP, mTup, mLst, mCb, mIf, mAndV, mOrV, mNotV, mChain, mBrk, mCnt, mNever, mAug, mCall0, mCallK0, hAdd, hSub, hInt, hIntC, hAnd, hDiv, hMod, hPow, hMul, hNeg, hCmp, hLt, hLe, hGt, hGe, hIx, hIxX, hLen, hIsi, hTuple, hList, hInt1, hAbs, D.isN, hIs, hNis, D.items, D.plain, D.kind, hEq_int, hNe_int, hEq_str, hNe_str, hEq_tups, hNe_tups, hEq_lsts, hNe_lsts, wipeE, List.map_cons, List.map_nil, List.replicate_succ, List.replicate_zero, List.cons_append, List.nil_append, List.getElem?_cons_zero, List.getElem?_cons_succ, List.set_cons_zero, List.set_cons_succ, List.length_cons, List.length_nil, Nat.reduceAdd, Nat.reduceSub, inT_int, inT_bool, inT_str, inT_tuple, inT_list, inT_dict, ib_NoneType_int, ib_NoneType_bool, ib_NoneType_str, ib_NoneType_tuple, ib_NoneType_list, ib_NoneType_dict, ib_bool_int, ib_bool_bool, ib_bool_str, ib_bool_tuple, ib_bool_list, ib_bool_dict, ib_int_int, ib_int_bool, ib_int_str, ib_int_tuple, ib_int_list, ib_int_dict, ib_str_int, ib_str_bool, ib_str_str, ib_str_tuple, ib_str_list, ib_str_dict, ib_tuple_int, ib_tuple_bool, ib_tuple_str, ib_tuple_tuple, ib_tuple_list, ib_tuple_dict, ib_list_int, ib_list_bool, ib_list_str, ib_list_tuple, ib_list_list, ib_list_dict, ib_dict_int, ib_dict_bool, ib_dict_str, ib_dict_tuple, ib_dict_list, ib_dict_dict, Bool.not_true, Bool.not_false, true_and, and_true, decide_true, decide_false])
    rw [decide_eq_true h0]
    (try simp only [mSeq, mIfS, mOr, mAnd, mNot, mTest, mOp, mUn, mVar, mOwn, mC, mRet, mRetN, mNext, mAsg, mAsgO, mName, mGTup, mGCons, mGNil, mFor, mRng1, mRng2, mRng3, mCons, mNil, mPar, mParO, mParP, mDrop, mFz, mApp, mExt, mSetL, mLc, mYes, mSeqI, mOwnI, mOrI, mEnumL, mEnumT, mZip, mZipM, mOr2, mRevL, mRevT, mSl, mNoP, mP, mTup, mLst, mCb, mIf, mAndV, mOrV, mNotV, mChain, mBrk, mCnt, mNever, mAug, mCall0, mCallK0, hAdd, hSub, hInt, hIntC, hAnd, hDiv, hMod, hPow, hMul, hNeg, hCmp, hLt, hLe, hGt, hGe, hIx, hIxX, hLen, hIsi, hTuple, hList, hInt1, hAbs, D.isN, hIs, hNis, D.items, D.plain, D.kind, hEq_int, hNe_int, hEq_str, hNe_str, hEq_tups, hNe_tups, hEq_lsts, hNe_lsts, wipeE, List.map_cons, List.map_nil, List.replicate_succ, List.replicate_zero, List.cons_append, List.nil_append, List.getElem?_cons_zero, List.getElem?_cons_succ, List.set_cons_zero, List.set_cons_succ, List.length_cons, List.length_nil, Nat.reduceAdd, Nat.reduceSub, inT_int, inT_bool, inT_str, inT_tuple, inT_list, inT_dict, ib_NoneType_int, ib_NoneType_bool, ib_NoneType_str, ib_NoneType_tuple, ib_NoneType_list, ib_NoneType_dict, ib_bool_int, ib_bool_bool, ib_bool_str, ib_bool_tuple, ib_bool_list, ib_bool_dict, ib_int_int, ib_int_bool, ib_int_str, ib_int_tuple, ib_int_list, ib_int_dict, ib_str_int, ib_str_bool, ib_str_str, ib_str_tuple, ib_str_list, ib_str_dict, ib_tuple_int, ib_tuple_bool, ib_tuple_str, ib_tuple_tuple, ib_tuple_list, ib_tuple_dict, ib_list_int, ib_list_bool, ib_list_str, ib_list_tuple, ib_list_list, ib_list_dict, ib_dict_int, ib_dict_bool, ib_dict_str, ib_dict_tuple, ib_dict_list, ib_dict_dict, Bool.not_true, Bool.not_false, true_and, and_true, decide_true, decide_false])
    refine ⟨rst (izs c) (izs h), rfl, by omega, fun k hk hk2 => ?_⟩
    have : k = m := by have := hk2 m hm1; have := hm2 k hk; omega
    subst this
    (try simp only [mSeq, mIfS, mOr, mAnd, mNot, mTest, mOp, mUn, mVar, mOwn, mC, mRet, mRetN, mNext, mAsg, mAsgO, mName, mGTup, mGCons, mGNil, mFor, mRng1, mRng2, mRng3, mCons, mNil, mPar, mParO, mParP, mDrop, mFz, mApp, mExt, mSetL, mLc, mYes, mSeqI, mOwnI, mOrI, mEnumL, mEnumT, mZip, mZipM, mOr2, mRevL, mRevT, mSl, mNoP, mP, mTup, mLst, mCb, mIf, mAndV, mOrV, mNotV, mChain, mBrk, mCnt, mNever, mAug, mCall0, mCallK0, hAdd, hSub, hInt, hIntC, hAnd, hDiv, hMod, hPow, hMul, hNeg, hCmp, hLt, hLe, hGt, hGe, hIx, hIxX, hLen, hIsi, hTuple, hList, hInt1, hAbs, D.isN, hIs, hNis, D.items, D.plain, D.kind, hEq_int, hNe_int, hEq_str, hNe_str, hEq_tups, hNe_tups, hEq_lsts, hNe_lsts, wipeE, List.map_cons, List.map_nil, List.replicate_succ, List.replicate_zero, List.cons_append, List.nil_append, List.getElem?_cons_zero, List.getElem?_cons_succ, List.set_cons_zero, List.set_cons_succ, List.length_cons, List.length_nil, Nat.reduceAdd, Nat.reduceSub, inT_int, inT_bool, inT_str, inT_tuple, inT_list, inT_dict, ib_NoneType_int, ib_NoneType_bool, ib_NoneType_str, ib_NoneType_tuple, ib_NoneType_list, ib_NoneType_dict, ib_bool_int, ib_bool_bool, ib_bool_str, ib_bool_tuple, ib_bool_list, ib_bool_dict, ib_int_int, ib_int_bool, ib_int_str, ib_int_tuple, ib_int_list, ib_int_dict, ib_str_int, ib_str_bool, ib_str_str, ib_str_tuple, ib_str_list, ib_str_dict, ib_tuple_int, ib_tuple_bool, ib_tuple_str, ib_tuple_tuple, ib_tuple_list, ib_tuple_dict, ib_list_int, ib_list_bool, ib_list_str, ib_list_tuple, ib_list_list, ib_list_dict, ib_dict_int, ib_dict_bool, ib_dict_str, ib_dict_tuple, ib_dict_list, ib_dict_dict, Bool.not_true, Bool.not_false, true_and, and_true, decide_true, decide_false])
    rw [hb]
    cases b <;> exact q
  cases z2 : ((List.range (c.length + 1)).all fun k => decide (0 ≤ (rst (izs c) (izs h)).getD k 0)) with
  | false =>
    rw [z2, Bool.false_and] at q
    refine w_ifT (mins true (by rw [hall, z2]; rfl)) ?_
    (try simp only [mSeq, mIfS, mOr, mAnd, mNot, mTest, mOp, mUn, mVar, mOwn, mC, mRet, mRetN, mNext, mAsg, mAsgO, mName, mGTup, mGCons, mGNil, mFor, mRng1, mRng2, mRng3, mCons, mNil, mPar, mParO, mParP, mDrop, mFz, mApp, mExt, mSetL, mLc, mYes, mSeqI, mOwnI, mOrI, mEnumL, mEnumT, mZip, mZipM, mOr2, mRevL, mRevT, mSl, mNoP, mP, mTup, mLst, mCb, mIf, mAndV, mOrV, mNotV, mChain, mBrk, mCnt, mNever, mAug, mCall0, mCallK0, hAdd, hSub, hInt, hIntC, hAnd, hDiv, hMod, hPow, hMul, hNeg, hCmp, hLt, hLe, hGt, hGe, hIx, hIxX, hLen, hIsi, hTuple, hList, hInt1, hAbs, D.isN, hIs, hNis, D.items, D.plain, D.kind, hEq_int, hNe_int, hEq_str, hNe_str, hEq_tups, hNe_tups, hEq_lsts, hNe_lsts, wipeE, List.map_cons, List.map_nil, List.replicate_succ, List.replicate_zero, List.cons_append, List.nil_append, List.getElem?_cons_zero, List.getElem?_cons_succ, List.set_cons_zero, List.set_cons_succ, List.length_cons, List.length_nil, Nat.reduceAdd, Nat.reduceSub, inT_int, inT_bool, inT_str, inT_tuple, inT_list, inT_dict, ib_NoneType_int, ib_NoneType_bool, ib_NoneType_str, ib_NoneType_tuple, ib_NoneType_list, ib_NoneType_dict, ib_bool_int, ib_bool_bool, ib_bool_str, ib_bool_tuple, ib_bool_list, ib_bool_dict, ib_int_int, ib_int_bool, ib_int_str, ib_int_tuple, ib_int_list, ib_int_dict, ib_str_int, ib_str_bool, ib_str_str, ib_str_tuple, ib_str_list, ib_str_dict, ib_tuple_int, ib_tuple_bool, ib_tuple_str, ib_tuple_tuple, ib_tuple_list, ib_tuple_dict, ib_list_int, ib_list_bool, ib_list_str, ib_list_tuple, ib_list_list, ib_list_dict, ib_dict_int, ib_dict_bool, ib_dict_str, ib_dict_tuple, ib_dict_list, ib_dict_dict, Bool.not_true, Bool.not_false, true_and, and_true, decide_true, decide_false])
    exact q
  | true =>
    rw [z2, Bool.true_and] at q
    refine w_check (mins false (by rw [hall, z2]; rfl)) ?_
    have pos : ∀ k, k ≤ c.length → 0 ≤ (rst (izs c) (izs h)).getD k 0 := fun k hk => of_decide_eq_true (List.all_eq_true.mp z2 k (List.mem_range.mpr (by omega)))
    (try simp only [mSeq, mIfS, mOr, mAnd, mNot, mTest, mOp, mUn, mVar, mOwn, mC, mRet, mRetN, mNext, mAsg, mAsgO, mName, mGTup, mGCons, mGNil, mFor, mRng1, mRng2, mRng3, mCons, mNil, mPar, mParO, mParP, mDrop, mFz, mApp, mExt, mSetL, mLc, mYes, mSeqI, mOwnI, mOrI, mEnumL, mEnumT, mZip, mZipM, mOr2, mRevL, mRevT, mSl, mNoP, mP, mTup, mLst, mCb, mIf, mAndV, mOrV, mNotV, mChain, mBrk, mCnt, mNever, mAug, mCall0, mCallK0, hAdd, hSub, hInt, hIntC, hAnd, hDiv, hMod, hPow, hMul, hNeg, hCmp, hLt, hLe, hGt, hGe, hIx, hIxX, hLen, hIsi, hTuple, hList, hInt1, hAbs, D.isN, hIs, hNis, D.items, D.plain, D.kind, hEq_int, hNe_int, hEq_str, hNe_str, hEq_tups, hNe_tups, hEq_lsts, hNe_lsts, wipeE, List.map_cons, List.map_nil, List.replicate_succ, List.replicate_zero, List.cons_append, List.nil_append, List.getElem?_cons_zero, List.getElem?_cons_succ, List.set_cons_zero, List.set_cons_succ, List.length_cons, List.length_nil, Nat.reduceAdd, Nat.reduceSub, inT_int, inT_bool, inT_str, inT_tuple, inT_list, inT_dict, ib_NoneType_int, ib_NoneType_bool, ib_NoneType_str, ib_NoneType_tuple, ib_NoneType_list, ib_NoneType_dict, ib_bool_int, ib_bool_bool, ib_bool_str, ib_bool_tuple, ib_bool_list, ib_bool_dict, ib_int_int, ib_int_bool, ib_int_str, ib_int_tuple, ib_int_list, ib_int_dict, ib_str_int, ib_str_bool, ib_str_str, ib_str_tuple, ib_str_list, ib_str_dict, ib_tuple_int, ib_tuple_bool, ib_tuple_str, ib_tuple_tuple, ib_tuple_list, ib_tuple_dict, ib_list_int, ib_list_bool, ib_list_str, ib_list_tuple, ib_list_list, ib_list_dict, ib_dict_int, ib_dict_bool, ib_dict_str, ib_dict_tuple, ib_dict_list, ib_dict_dict, Bool.not_true, Bool.not_false, true_and, and_true, decide_true, decide_false])
    rw [nl_len]
    refine ⟨by omega, by omega, by omega, by omega, ?_⟩
    refine forL_rng (fun i env => (∃ x, env = [.fz (.tup (nl c)), .fz (.tup (nl h)), .fz (.tup (il (rst (izs c) (izs h)))), x]) ∧ ∀ j, 1 ≤ j → j < 1 + i → j < c.length → ((LS ((rst (izs c) (izs h)).getD (j + 1) 0 + (h.getD j 0 : Nat)).toNat (j + 1) : Nat) : Int) ≤ (rst (izs c) (izs h)).getD j 0) ⟨⟨_, rfl⟩, fun j _ _ _ => by omega⟩ ?_ ?_
    · rintro i env nx hi ⟨⟨x, rfl⟩, hj⟩ hn
      have ei : (1 : Int) + (i : Int) * 1 = ((1 + i : Nat) : Int) := by omega
      rw [ei]
      have hi' : 1 + i < c.length := by omega
      generalize ht : 1 + i = t at hi' hj
      have p1 := pos (t + 1) (by omega)
      have p2 := pos t (by omega)
      have st := step t hi'
      have bnd := hs t
      have nat1 : (rst (izs c) (izs h)).getD (t + 1) 0 + ((h.getD t 0 : Nat) : Int) = (((rst (izs c) (izs h)).getD (t + 1) 0 + ((h.getD t 0 : Nat) : Int)).toNat : Int) := by omega
      (try simp only [mSeq, mIfS, mOr, mAnd, mNot, mTest, mOp, mUn, mVar, mOwn, mC, mRet, mRetN, mNext, mAsg, mAsgO, mName, mGTup, mGCons, mGNil, mFor, mRng1, mRng2, mRng3, mCons, mNil, mPar, mParO, mParP, mDrop, mFz, mApp, mExt, mSetL, mLc, mYes, mSeqI, mOwnI, mOrI, mEnumL, mEnumT, mZip, mZipM, mOr2, mRevL, mRevT, mSl, mNoP, mP, mTup, mLst, mCb, mIf, mAndV, mOrV, mNotV, mChain, mBrk, mCnt, mNever, mAug, mCall0, mCallK0, hAdd, hSub, hInt, hIntC, hAnd, hDiv, hMod, hPow, hMul, hNeg, hCmp, hLt, hLe, hGt, hGe, hIx, hIxX, hLen, hIsi, hTuple, hList, hInt1, hAbs, D.isN, hIs, hNis, D.items, D.plain, D.kind, hEq_int, hNe_int, hEq_str, hNe_str, hEq_tups, hNe_tups, hEq_lsts, hNe_lsts, wipeE, List.map_cons, List.map_nil, List.replicate_succ, List.replicate_zero, List.cons_append, List.nil_append, List.getElem?_cons_zero, List.getElem?_cons_succ, List.set_cons_zero, List.set_cons_succ, List.length_cons, List.length_nil, Nat.reduceAdd, Nat.reduceSub, inT_int, inT_bool, inT_str, inT_tuple, inT_list, inT_dict, ib_NoneType_int, ib_NoneType_bool, ib_NoneType_str, ib_NoneType_tuple, ib_NoneType_list, ib_NoneType_dict, ib_bool_int, ib_bool_bool, ib_bool_str, ib_bool_tuple, ib_bool_list, ib_bool_dict, ib_int_int, ib_int_bool, ib_int_str, ib_int_tuple, ib_int_list, ib_int_dict, ib_str_int, ib_str_bool, ib_str_str, ib_str_tuple, ib_str_list, ib_str_dict, ib_tuple_int, ib_tuple_bool, ib_tuple_str, ib_tuple_tuple, ib_tuple_list, ib_tuple_dict, ib_list_int, ib_list_bool, ib_list_str, ib_list_tuple, ib_list_list, ib_list_dict, ib_dict_int, ib_dict_bool, ib_dict_str, ib_dict_tuple, ib_dict_list, ib_dict_dict, Bool.not_true, Bool.not_false, true_and, and_true, decide_true, decide_false])
      refine ⟨_, at_il (k := t + 1) (by omega) (by omega), ?_⟩
      (try simp only [mSeq, mIfS, mOr, mAnd, mNot, mTest, mOp, mUn, mVar, mOwn, mC, mRet, mRetN, mNext, mAsg, mAsgO, mName, mGTup, mGCons, mGNil, mFor, mRng1, mRng2, mRng3, mCons, mNil, mPar, mParO, mParP, mDrop, mFz, mApp, mExt, mSetL, mLc, mYes, mSeqI, mOwnI, mOrI, mEnumL, mEnumT, mZip, mZipM, mOr2, mRevL, mRevT, mSl, mNoP, mP, mTup, mLst, mCb, mIf, mAndV, mOrV, mNotV, mChain, mBrk, mCnt, mNever, mAug, mCall0, mCallK0, hAdd, hSub, hInt, hIntC, hAnd, hDiv, hMod, hPow, hMul, hNeg, hCmp, hLt, hLe, hGt, hGe, hIx, hIxX, hLen, hIsi, hTuple, hList, hInt1, hAbs, D.isN, hIs, hNis, D.items, D.plain, D.kind, hEq_int, hNe_int, hEq_str, hNe_str, hEq_tups, hNe_tups, hEq_lsts, hNe_lsts, wipeE, List.map_cons, List.map_nil, List.replicate_succ, List.replicate_zero, List.cons_append, List.nil_append, List.getElem?_cons_zero, List.getElem?_cons_succ, List.set_cons_zero, List.set_cons_succ, List.length_cons, List.length_nil, Nat.reduceAdd, Nat.reduceSub, inT_int, inT_bool, inT_str, inT_tuple, inT_list, inT_dict, ib_NoneType_int, ib_NoneType_bool, ib_NoneType_str, ib_NoneType_tuple, ib_NoneType_list, ib_NoneType_dict, ib_bool_int, ib_bool_bool, ib_bool_str, ib_bool_tuple, ib_bool_list, ib_bool_dict, ib_int_int, ib_int_bool, ib_int_str, ib_int_tuple, ib_int_list, ib_int_dict, ib_str_int, ib_str_bool, ib_str_str, ib_str_tuple, ib_str_list, ib_str_dict, ib_tuple_int, ib_tuple_bool, ib_tuple_str, ib_tuple_tuple, ib_tuple_list, ib_tuple_dict, ib_list_int, ib_list_bool, ib_list_str, ib_list_tuple, ib_list_list, ib_list_dict, ib_dict_int, ib_dict_bool, ib_dict_str, ib_dict_tuple, ib_dict_list, ib_dict_dict, Bool.not_true, Bool.not_false, true_and, and_true, decide_true, decide_false])
      refine ⟨_, at_nl (k := t) rfl (by omega), ?_⟩
      (try simp only [mSeq, mIfS, mOr, mAnd, mNot, mTest, mOp, mUn, mVar, mOwn, mC, mRet, mRetN, mNext, mAsg, mAsgO, mName, mGTup, mGCons, mGNil, mFor, mRng1, mRng2, mRng3, mCons, mNil, mPar, mParO, mParP, mDrop, mFz, mApp, mExt, mSetL, mLc, mYes, mSeqI, mOwnI, mOrI, mEnumL, mEnumT, mZip, mZipM, mOr2, mRevL, mRevT, mSl, mNoP, mP, mTup, mLst, mCb, mIf, mAndV, mOrV, mNotV, mChain, mBrk, mCnt, mNever, mAug, mCall0, mCallK0, hAdd, hSub, hInt, hIntC, hAnd, hDiv, hMod, hPow, hMul, hNeg, hCmp, hLt, hLe, hGt, hGe, hIx, hIxX, hLen, hIsi, hTuple, hList, hInt1, hAbs, D.isN, hIs, hNis, D.items, D.plain, D.kind, hEq_int, hNe_int, hEq_str, hNe_str, hEq_tups, hNe_tups, hEq_lsts, hNe_lsts, wipeE, List.map_cons, List.map_nil, List.replicate_succ, List.replicate_zero, List.cons_append, List.nil_append, List.getElem?_cons_zero, List.getElem?_cons_succ, List.set_cons_zero, List.set_cons_succ, List.length_cons, List.length_nil, Nat.reduceAdd, Nat.reduceSub, inT_int, inT_bool, inT_str, inT_tuple, inT_list, inT_dict, ib_NoneType_int, ib_NoneType_bool, ib_NoneType_str, ib_NoneType_tuple, ib_NoneType_list, ib_NoneType_dict, ib_bool_int, ib_bool_bool, ib_bool_str, ib_bool_tuple, ib_bool_list, ib_bool_dict, ib_int_int, ib_int_bool, ib_int_str, ib_int_tuple, ib_int_list, ib_int_dict, ib_str_int, ib_str_bool, ib_str_str, ib_str_tuple, ib_str_list, ib_str_dict, ib_tuple_int, ib_tuple_bool, ib_tuple_str, ib_tuple_tuple, ib_tuple_list, ib_tuple_dict, ib_list_int, ib_list_bool, ib_list_str, ib_list_tuple, ib_list_list, ib_list_dict, ib_dict_int, ib_dict_bool, ib_dict_str, ib_dict_tuple, ib_dict_list, ib_dict_dict, Bool.not_true, Bool.not_false, true_and, and_true, decide_true, decide_false])
      have et : (t : Int) + 1 = ((t + 1 : Nat) : Int) := by omega
      rw [et, nat1]
      refine s_law_lower_sets (by omega) (by omega) (by have := b40; omega) ?_
      refine ⟨_, at_il (k := t) rfl (by omega), ?_⟩
      (try simp only [mSeq, mIfS, mOr, mAnd, mNot, mTest, mOp, mUn, mVar, mOwn, mC, mRet, mRetN, mNext, mAsg, mAsgO, mName, mGTup, mGCons, mGNil, mFor, mRng1, mRng2, mRng3, mCons, mNil, mPar, mParO, mParP, mDrop, mFz, mApp, mExt, mSetL, mLc, mYes, mSeqI, mOwnI, mOrI, mEnumL, mEnumT, mZip, mZipM, mOr2, mRevL, mRevT, mSl, mNoP, mP, mTup, mLst, mCb, mIf, mAndV, mOrV, mNotV, mChain, mBrk, mCnt, mNever, mAug, mCall0, mCallK0, hAdd, hSub, hInt, hIntC, hAnd, hDiv, hMod, hPow, hMul, hNeg, hCmp, hLt, hLe, hGt, hGe, hIx, hIxX, hLen, hIsi, hTuple, hList, hInt1, hAbs, D.isN, hIs, hNis, D.items, D.plain, D.kind, hEq_int, hNe_int, hEq_str, hNe_str, hEq_tups, hNe_tups, hEq_lsts, hNe_lsts, wipeE, List.map_cons, List.map_nil, List.replicate_succ, List.replicate_zero, List.cons_append, List.nil_append, List.getElem?_cons_zero, List.getElem?_cons_succ, List.set_cons_zero, List.set_cons_succ, List.length_cons, List.length_nil, Nat.reduceAdd, Nat.reduceSub, inT_int, inT_bool, inT_str, inT_tuple, inT_list, inT_dict, ib_NoneType_int, ib_NoneType_bool, ib_NoneType_str, ib_NoneType_tuple, ib_NoneType_list, ib_NoneType_dict, ib_bool_int, ib_bool_bool, ib_bool_str, ib_bool_tuple, ib_bool_list, ib_bool_dict, ib_int_int, ib_int_bool, ib_int_str, ib_int_tuple, ib_int_list, ib_int_dict, ib_str_int, ib_str_bool, ib_str_str, ib_str_tuple, ib_str_list, ib_str_dict, ib_tuple_int, ib_tuple_bool, ib_tuple_str, ib_tuple_tuple, ib_tuple_list, ib_tuple_dict, ib_list_int, ib_list_bool, ib_list_str, ib_list_tuple, ib_list_list, ib_list_dict, ib_dict_int, ib_dict_bool, ib_dict_str, ib_dict_tuple, ib_dict_list, ib_dict_dict, Bool.not_true, Bool.not_false, true_and, and_true, decide_true, decide_false])
      by_cases hc : (rst (izs c) (izs h)).getD t 0 < ((LS ((rst (izs c) (izs h)).getD (t + 1) 0 + ((h.getD t 0 : Nat) : Int)).toNat (t + 1) : Nat) : Int)
      · rw [decide_eq_true hc]
        have : ((List.range c.length).all fun k => decide (k = 0 ∨ ((LS ((rst (izs c) (izs h)).getD (k + 1) 0 + (h.getD k 0 : Nat)).toNat (k + 1) : Nat) : Int) ≤ (rst (izs c) (izs h)).getD k 0)) = false := by
          apply Bool.eq_false_iff.mpr
          intro z
          have := of_decide_eq_true (List.all_eq_true.mp z t (List.mem_range.mpr hi'))
          rcases this with q | q
          · omega
          · omega
        rw [this] at q
        exact q
      · rw [decide_eq_false hc]
        refine hn _ ⟨⟨_, rfl⟩, fun j j1 j2 j3 => ?_⟩
        by_cases hjt : j = t
        · subst hjt
          omega
        · exact hj j j1 (by omega) j3
    · rintro env ⟨⟨x, rfl⟩, hj⟩
      (try simp only [mSeq, mIfS, mOr, mAnd, mNot, mTest, mOp, mUn, mVar, mOwn, mC, mRet, mRetN, mNext, mAsg, mAsgO, mName, mGTup, mGCons, mGNil, mFor, mRng1, mRng2, mRng3, mCons, mNil, mPar, mParO, mParP, mDrop, mFz, mApp, mExt, mSetL, mLc, mYes, mSeqI, mOwnI, mOrI, mEnumL, mEnumT, mZip, mZipM, mOr2, mRevL, mRevT, mSl, mNoP, mP, mTup, mLst, mCb, mIf, mAndV, mOrV, mNotV, mChain, mBrk, mCnt, mNever, mAug, mCall0, mCallK0, hAdd, hSub, hInt, hIntC, hAnd, hDiv, hMod, hPow, hMul, hNeg, hCmp, hLt, hLe, hGt, hGe, hIx, hIxX, hLen, hIsi, hTuple, hList, hInt1, hAbs, D.isN, hIs, hNis, D.items, D.plain, D.kind, hEq_int, hNe_int, hEq_str, hNe_str, hEq_tups, hNe_tups, hEq_lsts, hNe_lsts, wipeE, List.map_cons, List.map_nil, List.replicate_succ, List.replicate_zero, List.cons_append, List.nil_append, List.getElem?_cons_zero, List.getElem?_cons_succ, List.set_cons_zero, List.set_cons_succ, List.length_cons, List.length_nil, Nat.reduceAdd, Nat.reduceSub, inT_int, inT_bool, inT_str, inT_tuple, inT_list, inT_dict, ib_NoneType_int, ib_NoneType_bool, ib_NoneType_str, ib_NoneType_tuple, ib_NoneType_list, ib_NoneType_dict, ib_bool_int, ib_bool_bool, ib_bool_str, ib_bool_tuple, ib_bool_list, ib_bool_dict, ib_int_int, ib_int_bool, ib_int_str, ib_int_tuple, ib_int_list, ib_int_dict, ib_str_int, ib_str_bool, ib_str_str, ib_str_tuple, ib_str_list, ib_str_dict, ib_tuple_int, ib_tuple_bool, ib_tuple_str, ib_tuple_tuple, ib_tuple_list, ib_tuple_dict, ib_list_int, ib_list_bool, ib_list_str, ib_list_tuple, ib_list_list, ib_list_dict, ib_dict_int, ib_dict_bool, ib_dict_str, ib_dict_tuple, ib_dict_list, ib_dict_dict, Bool.not_true, Bool.not_false, true_and, and_true, decide_true, decide_false])
      have : ((List.range c.length).all fun k => decide (k = 0 ∨ ((LS ((rst (izs c) (izs h)).getD (k + 1) 0 + (h.getD k 0 : Nat)).toNat (k + 1) : Nat) : Int) ≤ (rst (izs c) (izs h)).getD k 0)) = true := by
        rw [List.all_eq_true]
        intro t ht
        have ht' := List.mem_range.mp ht
        apply decide_eq_true
        by_cases h0 : t = 0
        · exact .inl h0
        · exact .inr (hj t (by omega) (by omega) ht')
      rw [this] at q
      exact q
/-! ### the draws -/
theorem s_law_pick {xs : List D} (h1 : 1 ≤ xs.length) (h2 : xs.length ≤ 1000) (q : ∀ x ∈ xs, Q x) : m_law_pick [.deck, .lst xs] Q E := by
  unfold m_law_pick mFn
  refine ⟨rfl, ?_⟩
  (try simp only [mSeq, mIfS, mOr, mAnd, mNot, mTest, mOp, mUn, mVar, mOwn, mC, mRet, mRetN, mNext, mAsg, mAsgO, mName, mGTup, mGCons, mGNil, mFor, mRng1, mRng2, mRng3, mCons, mNil, mPar, mParO, mParP, mDrop, mFz, mApp, mExt, mSetL, mLc, mYes, mSeqI, mOwnI, mOrI, mEnumL, mEnumT, mZip, mZipM, mOr2, mRevL, mRevT, mSl, mNoP, mP, mTup, mLst, mCb, mIf, mAndV, mOrV, mNotV, mChain, mBrk, mCnt, mNever, mAug, mCall0, mCallK0, hAdd, hSub, hInt, hIntC, hAnd, hDiv, hMod, hPow, hMul, hNeg, hCmp, hLt, hLe, hGt, hGe, hIx, hIxX, hLen, hIsi, hTuple, hList, hInt1, hAbs, D.isN, hIs, hNis, D.items, D.plain, D.kind, hEq_int, hNe_int, hEq_str, hNe_str, hEq_tups, hNe_tups, hEq_lsts, hNe_lsts, wipeE, List.map_cons, List.map_nil, List.replicate_succ, List.replicate_zero, List.cons_append, List.nil_append, List.getElem?_cons_zero, List.getElem?_cons_succ, List.set_cons_zero, List.set_cons_succ, List.length_cons, List.length_nil, Nat.reduceAdd, Nat.reduceSub, inT_int, inT_bool, inT_str, inT_tuple, inT_list, inT_dict, ib_NoneType_int, ib_NoneType_bool, ib_NoneType_str, ib_NoneType_tuple, ib_NoneType_list, ib_NoneType_dict, ib_bool_int, ib_bool_bool, ib_bool_str, ib_bool_tuple, ib_bool_list, ib_bool_dict, ib_int_int, ib_int_bool, ib_int_str, ib_int_tuple, ib_int_list, ib_int_dict, ib_str_int, ib_str_bool, ib_str_str, ib_str_tuple, ib_str_list, ib_str_dict, ib_tuple_int, ib_tuple_bool, ib_tuple_str, ib_tuple_tuple, ib_tuple_list, ib_tuple_dict, ib_list_int, ib_list_bool, ib_list_str, ib_list_tuple, ib_list_list, ib_list_dict, ib_dict_int, ib_dict_bool, ib_dict_str, ib_dict_tuple, ib_dict_list, ib_dict_dict, Bool.not_true, Bool.not_false, true_and, and_true, decide_true, decide_false])
  exact w_pick rfl h1 h2 q
theorem s_law_below {g : Int} (h1 : 1 ≤ g) (h2 : g ≤ 10 ^ 40) (q : ∀ r : Int, 0 ≤ r → r < g → Q (.int r)) : m_law_below [.deck, .int g] Q E := by
  unfold m_law_below mFn
  refine ⟨rfl, ?_⟩
  (try simp only [mSeq, mIfS, mOr, mAnd, mNot, mTest, mOp, mUn, mVar, mOwn, mC, mRet, mRetN, mNext, mAsg, mAsgO, mName, mGTup, mGCons, mGNil, mFor, mRng1, mRng2, mRng3, mCons, mNil, mPar, mParO, mParP, mDrop, mFz, mApp, mExt, mSetL, mLc, mYes, mSeqI, mOwnI, mOrI, mEnumL, mEnumT, mZip, mZipM, mOr2, mRevL, mRevT, mSl, mNoP, mP, mTup, mLst, mCb, mIf, mAndV, mOrV, mNotV, mChain, mBrk, mCnt, mNever, mAug, mCall0, mCallK0, hAdd, hSub, hInt, hIntC, hAnd, hDiv, hMod, hPow, hMul, hNeg, hCmp, hLt, hLe, hGt, hGe, hIx, hIxX, hLen, hIsi, hTuple, hList, hInt1, hAbs, D.isN, hIs, hNis, D.items, D.plain, D.kind, hEq_int, hNe_int, hEq_str, hNe_str, hEq_tups, hNe_tups, hEq_lsts, hNe_lsts, wipeE, List.map_cons, List.map_nil, List.replicate_succ, List.replicate_zero, List.cons_append, List.nil_append, List.getElem?_cons_zero, List.getElem?_cons_succ, List.set_cons_zero, List.set_cons_succ, List.length_cons, List.length_nil, Nat.reduceAdd, Nat.reduceSub, inT_int, inT_bool, inT_str, inT_tuple, inT_list, inT_dict, ib_NoneType_int, ib_NoneType_bool, ib_NoneType_str, ib_NoneType_tuple, ib_NoneType_list, ib_NoneType_dict, ib_bool_int, ib_bool_bool, ib_bool_str, ib_bool_tuple, ib_bool_list, ib_bool_dict, ib_int_int, ib_int_bool, ib_int_str, ib_int_tuple, ib_int_list, ib_int_dict, ib_str_int, ib_str_bool, ib_str_str, ib_str_tuple, ib_str_list, ib_str_dict, ib_tuple_int, ib_tuple_bool, ib_tuple_str, ib_tuple_tuple, ib_tuple_list, ib_tuple_dict, ib_list_int, ib_list_bool, ib_list_str, ib_list_tuple, ib_list_list, ib_list_dict, ib_dict_int, ib_dict_bool, ib_dict_str, ib_dict_tuple, ib_dict_list, ib_dict_dict, Bool.not_true, Bool.not_false, true_and, and_true, decide_true, decide_false])
  refine ⟨by decide, ?_⟩
  unfold mWhile
  refine ⟨fun m env => ∃ f r : Int, env = [.fz .deck, .fz (.int g), .fz (.int f), .fz (.int r)] ∧ 1 ≤ r ∧ m = (g - r).toNat, ⟨_, 0, 1, rfl, by decide, rfl⟩, ?_⟩
  rintro m env ⟨f, r, rfl, hr, rfl⟩
  (try simp only [mSeq, mIfS, mOr, mAnd, mNot, mTest, mOp, mUn, mVar, mOwn, mC, mRet, mRetN, mNext, mAsg, mAsgO, mName, mGTup, mGCons, mGNil, mFor, mRng1, mRng2, mRng3, mCons, mNil, mPar, mParO, mParP, mDrop, mFz, mApp, mExt, mSetL, mLc, mYes, mSeqI, mOwnI, mOrI, mEnumL, mEnumT, mZip, mZipM, mOr2, mRevL, mRevT, mSl, mNoP, mP, mTup, mLst, mCb, mIf, mAndV, mOrV, mNotV, mChain, mBrk, mCnt, mNever, mAug, mCall0, mCallK0, hAdd, hSub, hInt, hIntC, hAnd, hDiv, hMod, hPow, hMul, hNeg, hCmp, hLt, hLe, hGt, hGe, hIx, hIxX, hLen, hIsi, hTuple, hList, hInt1, hAbs, D.isN, hIs, hNis, D.items, D.plain, D.kind, hEq_int, hNe_int, hEq_str, hNe_str, hEq_tups, hNe_tups, hEq_lsts, hNe_lsts, wipeE, List.map_cons, List.map_nil, List.replicate_succ, List.replicate_zero, List.cons_append, List.nil_append, List.getElem?_cons_zero, List.getElem?_cons_succ, List.set_cons_zero, List.set_cons_succ, List.length_cons, List.length_nil, Nat.reduceAdd, Nat.reduceSub, inT_int, inT_bool, inT_str, inT_tuple, inT_list, inT_dict, ib_NoneType_int, ib_NoneType_bool, ib_NoneType_str, ib_NoneType_tuple, ib_NoneType_list, ib_NoneType_dict, ib_bool_int, ib_bool_bool, ib_bool_str, ib_bool_tuple, ib_bool_list, ib_bool_dict, ib_int_int, ib_int_bool, ib_int_str, ib_int_tuple, ib_int_list, ib_int_dict, ib_str_int, ib_str_bool, ib_str_str, ib_str_tuple, ib_str_list, ib_str_dict, ib_tuple_int, ib_tuple_bool, ib_tuple_str, ib_tuple_tuple, ib_tuple_list, ib_tuple_dict, ib_list_int, ib_list_bool, ib_list_str, ib_list_tuple, ib_list_list, ib_list_dict, ib_dict_int, ib_dict_bool, ib_dict_str, ib_dict_tuple, ib_dict_list, ib_dict_dict, Bool.not_true, Bool.not_false, true_and, and_true, decide_true, decide_false])
  by_cases h : r < g
  · rw [decide_eq_true h]
    refine ⟨fun env2 => ∃ f r' : Int, env2 = [.fz .deck, .fz (.int g), .fz (.int f), .fz (.int r')] ∧ r + 1 ≤ r', ?_, ?_⟩
    · rintro env2 ⟨f, r', rfl, h'⟩
      exact ⟨_, by omega, f, r', rfl, by omega, rfl⟩
    · (try simp only [mSeq, mIfS, mOr, mAnd, mNot, mTest, mOp, mUn, mVar, mOwn, mC, mRet, mRetN, mNext, mAsg, mAsgO, mName, mGTup, mGCons, mGNil, mFor, mRng1, mRng2, mRng3, mCons, mNil, mPar, mParO, mParP, mDrop, mFz, mApp, mExt, mSetL, mLc, mYes, mSeqI, mOwnI, mOrI, mEnumL, mEnumT, mZip, mZipM, mOr2, mRevL, mRevT, mSl, mNoP, mP, mTup, mLst, mCb, mIf, mAndV, mOrV, mNotV, mChain, mBrk, mCnt, mNever, mAug, mCall0, mCallK0, hAdd, hSub, hInt, hIntC, hAnd, hDiv, hMod, hPow, hMul, hNeg, hCmp, hLt, hLe, hGt, hGe, hIx, hIxX, hLen, hIsi, hTuple, hList, hInt1, hAbs, D.isN, hIs, hNis, D.items, D.plain, D.kind, hEq_int, hNe_int, hEq_str, hNe_str, hEq_tups, hNe_tups, hEq_lsts, hNe_lsts, wipeE, List.map_cons, List.map_nil, List.replicate_succ, List.replicate_zero, List.cons_append, List.nil_append, List.getElem?_cons_zero, List.getElem?_cons_succ, List.set_cons_zero, List.set_cons_succ, List.length_cons, List.length_nil, Nat.reduceAdd, Nat.reduceSub, inT_int, inT_bool, inT_str, inT_tuple, inT_list, inT_dict, ib_NoneType_int, ib_NoneType_bool, ib_NoneType_str, ib_NoneType_tuple, ib_NoneType_list, ib_NoneType_dict, ib_bool_int, ib_bool_bool, ib_bool_str, ib_bool_tuple, ib_bool_list, ib_bool_dict, ib_int_int, ib_int_bool, ib_int_str, ib_int_tuple, ib_int_list, ib_int_dict, ib_str_int, ib_str_bool, ib_str_str, ib_str_tuple, ib_str_list, ib_str_dict, ib_tuple_int, ib_tuple_bool, ib_tuple_str, ib_tuple_tuple, ib_tuple_list, ib_tuple_dict, ib_list_int, ib_list_bool, ib_list_str, ib_list_tuple, ib_list_list, ib_list_dict, ib_dict_int, ib_dict_bool, ib_dict_str, ib_dict_tuple, ib_dict_list, ib_dict_dict, Bool.not_true, Bool.not_false, true_and, and_true, decide_true, decide_false])
      refine ⟨pow10 (by decide) (by decide), mulR, pow10 (by decide) (by decide), ?_⟩
      refine w_drawS (by decide) (by decide) fun x x0 x1 => ?_
      (try simp only [mSeq, mIfS, mOr, mAnd, mNot, mTest, mOp, mUn, mVar, mOwn, mC, mRet, mRetN, mNext, mAsg, mAsgO, mName, mGTup, mGCons, mGNil, mFor, mRng1, mRng2, mRng3, mCons, mNil, mPar, mParO, mParP, mDrop, mFz, mApp, mExt, mSetL, mLc, mYes, mSeqI, mOwnI, mOrI, mEnumL, mEnumT, mZip, mZipM, mOr2, mRevL, mRevT, mSl, mNoP, mP, mTup, mLst, mCb, mIf, mAndV, mOrV, mNotV, mChain, mBrk, mCnt, mNever, mAug, mCall0, mCallK0, hAdd, hSub, hInt, hIntC, hAnd, hDiv, hMod, hPow, hMul, hNeg, hCmp, hLt, hLe, hGt, hGe, hIx, hIxX, hLen, hIsi, hTuple, hList, hInt1, hAbs, D.isN, hIs, hNis, D.items, D.plain, D.kind, hEq_int, hNe_int, hEq_str, hNe_str, hEq_tups, hNe_tups, hEq_lsts, hNe_lsts, wipeE, List.map_cons, List.map_nil, List.replicate_succ, List.replicate_zero, List.cons_append, List.nil_append, List.getElem?_cons_zero, List.getElem?_cons_succ, List.set_cons_zero, List.set_cons_succ, List.length_cons, List.length_nil, Nat.reduceAdd, Nat.reduceSub, inT_int, inT_bool, inT_str, inT_tuple, inT_list, inT_dict, ib_NoneType_int, ib_NoneType_bool, ib_NoneType_str, ib_NoneType_tuple, ib_NoneType_list, ib_NoneType_dict, ib_bool_int, ib_bool_bool, ib_bool_str, ib_bool_tuple, ib_bool_list, ib_bool_dict, ib_int_int, ib_int_bool, ib_int_str, ib_int_tuple, ib_int_list, ib_int_dict, ib_str_int, ib_str_bool, ib_str_str, ib_str_tuple, ib_str_list, ib_str_dict, ib_tuple_int, ib_tuple_bool, ib_tuple_str, ib_tuple_tuple, ib_tuple_list, ib_tuple_dict, ib_list_int, ib_list_bool, ib_list_str, ib_list_tuple, ib_list_list, ib_list_dict, ib_dict_int, ib_dict_bool, ib_dict_str, ib_dict_tuple, ib_dict_list, ib_dict_dict, Bool.not_true, Bool.not_false, true_and, and_true, decide_true, decide_false])
      refine ⟨pow10 (by decide) (by decide), mulR, _, _, rfl, ?_⟩
      have : (10 : Int) ^ ((6 : Int).toNat) = 1000000 := by decide
      rw [this]
      omega
  · rw [decide_eq_false h]
    (try simp only [mSeq, mIfS, mOr, mAnd, mNot, mTest, mOp, mUn, mVar, mOwn, mC, mRet, mRetN, mNext, mAsg, mAsgO, mName, mGTup, mGCons, mGNil, mFor, mRng1, mRng2, mRng3, mCons, mNil, mPar, mParO, mParP, mDrop, mFz, mApp, mExt, mSetL, mLc, mYes, mSeqI, mOwnI, mOrI, mEnumL, mEnumT, mZip, mZipM, mOr2, mRevL, mRevT, mSl, mNoP, mP, mTup, mLst, mCb, mIf, mAndV, mOrV, mNotV, mChain, mBrk, mCnt, mNever, mAug, mCall0, mCallK0, hAdd, hSub, hInt, hIntC, hAnd, hDiv, hMod, hPow, hMul, hNeg, hCmp, hLt, hLe, hGt, hGe, hIx, hIxX, hLen, hIsi, hTuple, hList, hInt1, hAbs, D.isN, hIs, hNis, D.items, D.plain, D.kind, hEq_int, hNe_int, hEq_str, hNe_str, hEq_tups, hNe_tups, hEq_lsts, hNe_lsts, wipeE, List.map_cons, List.map_nil, List.replicate_succ, List.replicate_zero, List.cons_append, List.nil_append, List.getElem?_cons_zero, List.getElem?_cons_succ, List.set_cons_zero, List.set_cons_succ, List.length_cons, List.length_nil, Nat.reduceAdd, Nat.reduceSub, inT_int, inT_bool, inT_str, inT_tuple, inT_list, inT_dict, ib_NoneType_int, ib_NoneType_bool, ib_NoneType_str, ib_NoneType_tuple, ib_NoneType_list, ib_NoneType_dict, ib_bool_int, ib_bool_bool, ib_bool_str, ib_bool_tuple, ib_bool_list, ib_bool_dict, ib_int_int, ib_int_bool, ib_int_str, ib_int_tuple, ib_int_list, ib_int_dict, ib_str_int, ib_str_bool, ib_str_str, ib_str_tuple, ib_str_list, ib_str_dict, ib_tuple_int, ib_tuple_bool, ib_tuple_str, ib_tuple_tuple, ib_tuple_list, ib_tuple_dict, ib_list_int, ib_list_bool, ib_list_str, ib_list_tuple, ib_list_list, ib_list_dict, ib_dict_int, ib_dict_bool, ib_dict_str, ib_dict_tuple, ib_dict_list, ib_dict_dict, Bool.not_true, Bool.not_false, true_and, and_true, decide_true, decide_false])
    exact ⟨by omega, q _ (Int.emod_nonneg _ (by omega)) (Int.emod_lt_of_pos _ (by omega))⟩
structure FA (k0 i : Nat) (c : List Nat) : Prop where
  len : c.length = i + 1
  pos : ∀ j, j < c.length → 1 ≤ c.getD j 0
  low : ∀ j, j + 1 < c.length → LS (c.getD (j + 1) 0) (k0 + j + 2) ≤ c.getD j 0
  sml : ∀ j, c.getD j 0 ≤ 10 ^ (29 + i)
theorem FA.cons {k0 i : Nat} {c : List Nat} {r : Nat} (F : FA (k0 + 1) i c) (hr : r < 4) (hk : k0 ≤ 6) (hi : i ≤ 6) : FA k0 (i + 1) ((LS (c.getD 0 0) (k0 + 2) + r) :: c) where
  len := by rw [List.length_cons, F.len]
  pos := fun j hj => by
    cases j with
    | zero =>
      have h1 := F.pos 0 (by rw [F.len]; omega)
      have := LS_pos (n := c.getD 0 0) (s := k0 + 2) (by omega) h1
      show 1 ≤ LS (c.getD 0 0) (k0 + 2) + r
      omega
    | succ j => exact F.pos j (by rw [List.length_cons] at hj; omega)
  low := fun j hj => by
    cases j with
    | zero => show LS (c.getD 0 0) (k0 + 0 + 2) ≤ LS (c.getD 0 0) (k0 + 2) + r; rw [Nat.add_zero]; omega
    | succ j =>
      have := F.low j (by rw [List.length_cons] at hj; omega)
      rw [show k0 + (j + 1) + 2 = k0 + 1 + j + 2 by omega]
      exact this
  sml := fun j => by
    have e : 10 ^ (29 + (i + 1)) = 10 ^ (29 + i) * 10 := by rw [← Nat.add_assoc, Nat.pow_succ]
    have hp : 0 < 10 ^ (29 + i) := Nat.pow_pos (by decide)
    cases j with
    | zero =>
      have h1 := F.sml 0
      have h2 := LS_le (c.getD 0 0) (k0 + 2) (by omega)
      have h3 : c.getD 0 0 * (k0 + 2) ≤ 10 ^ (29 + i) * 8 := Nat.mul_le_mul h1 (by omega)
      have h4 : 10 ^ 1 ≤ 10 ^ (29 + i) := Nat.pow_le_pow_right (by decide) (by omega)
      show LS (c.getD 0 0) (k0 + 2) + r ≤ _
      omega
    | succ j => have := F.sml j; show c.getD j 0 ≤ _; omega
theorem s_law_some_counts {d : Nat} {g : Int} (h1 : 1 ≤ d) (h2 : d ≤ 4) (g1 : 1 ≤ g) (g2 : g ≤ 10 ^ 28) (q : ∀ c, CF c → c.length = d → Q (.tup (nl c))) : m_law_some_counts [.deck, .int d, .int g] Q E := by
  unfold m_law_some_counts mFn
  refine ⟨rfl, ?_⟩
  (try simp only [mGTup, mGCons, mGNil, mName, List.set_cons_zero, List.set_cons_succ, List.length_cons, List.length_nil, Nat.reduceAdd, true_and, and_true, List.map_cons, List.map_nil, List.replicate_succ, List.replicate_zero, List.cons_append, List.nil_append, Nat.reduceSub])
  refine w_asgP (fun x => ∃ n : Nat, x = .lst (nl [n]) ∧ 1 ≤ n ∧ n ≤ 10 ^ 29) (fun Q E q => ?_) ?_
  · (try simp only [mSeq, mIfS, mOr, mAnd, mNot, mTest, mOp, mUn, mVar, mOwn, mC, mRet, mRetN, mNext, mAsg, mAsgO, mName, mGTup, mGCons, mGNil, mFor, mRng1, mRng2, mRng3, mCons, mNil, mPar, mParO, mParP, mDrop, mFz, mApp, mExt, mSetL, mLc, mYes, mSeqI, mOwnI, mOrI, mEnumL, mEnumT, mZip, mZipM, mOr2, mRevL, mRevT, mSl, mNoP, mP, mTup, mLst, mCb, mIf, mAndV, mOrV, mNotV, mChain, mBrk, mCnt, mNever, mAug, mCall0, mCallK0, hAdd, hSub, hInt, hIntC, hAnd, hDiv, hMod, hPow, hMul, hNeg, hCmp, hLt, hLe, hGt, hGe, hIx, hIxX, hLen, hIsi, hTuple, hList, hInt1, hAbs, D.isN, hIs, hNis, D.items, D.plain, D.kind, hEq_int, hNe_int, hEq_str, hNe_str, hEq_tups, hNe_tups, hEq_lsts, hNe_lsts, wipeE, List.map_cons, List.map_nil, List.replicate_succ, List.replicate_zero, List.cons_append, List.nil_append, List.getElem?_cons_zero, List.getElem?_cons_succ, List.set_cons_zero, List.set_cons_succ, List.length_cons, List.length_nil, Nat.reduceAdd, Nat.reduceSub, inT_int, inT_bool, inT_str, inT_tuple, inT_list, inT_dict, ib_NoneType_int, ib_NoneType_bool, ib_NoneType_str, ib_NoneType_tuple, ib_NoneType_list, ib_NoneType_dict, ib_bool_int, ib_bool_bool, ib_bool_str, ib_bool_tuple, ib_bool_list, ib_bool_dict, ib_int_int, ib_int_bool, ib_int_str, ib_int_tuple, ib_int_list, ib_int_dict, ib_str_int, ib_str_bool, ib_str_str, ib_str_tuple, ib_str_list, ib_str_dict, ib_tuple_int, ib_tuple_bool, ib_tuple_str, ib_tuple_tuple, ib_tuple_list, ib_tuple_dict, ib_list_int, ib_list_bool, ib_list_str, ib_list_tuple, ib_list_list, ib_list_dict, ib_dict_int, ib_dict_bool, ib_dict_str, ib_dict_tuple, ib_dict_list, ib_dict_dict, Bool.not_true, Bool.not_false, true_and, and_true, decide_true, decide_false])
    refine s_law_below g1 (by omega) fun r r0 r1 => ?_
    (try simp only [mSeq, mIfS, mOr, mAnd, mNot, mTest, mOp, mUn, mVar, mOwn, mC, mRet, mRetN, mNext, mAsg, mAsgO, mName, mGTup, mGCons, mGNil, mFor, mRng1, mRng2, mRng3, mCons, mNil, mPar, mParO, mParP, mDrop, mFz, mApp, mExt, mSetL, mLc, mYes, mSeqI, mOwnI, mOrI, mEnumL, mEnumT, mZip, mZipM, mOr2, mRevL, mRevT, mSl, mNoP, mP, mTup, mLst, mCb, mIf, mAndV, mOrV, mNotV, mChain, mBrk, mCnt, mNever, mAug, mCall0, mCallK0, hAdd, hSub, hInt, hIntC, hAnd, hDiv, hMod, hPow, hMul, hNeg, hCmp, hLt, hLe, hGt, hGe, hIx, hIxX, hLen, hIsi, hTuple, hList, hInt1, hAbs, D.isN, hIs, hNis, D.items, D.plain, D.kind, hEq_int, hNe_int, hEq_str, hNe_str, hEq_tups, hNe_tups, hEq_lsts, hNe_lsts, wipeE, List.map_cons, List.map_nil, List.replicate_succ, List.replicate_zero, List.cons_append, List.nil_append, List.getElem?_cons_zero, List.getElem?_cons_succ, List.set_cons_zero, List.set_cons_succ, List.length_cons, List.length_nil, Nat.reduceAdd, Nat.reduceSub, inT_int, inT_bool, inT_str, inT_tuple, inT_list, inT_dict, ib_NoneType_int, ib_NoneType_bool, ib_NoneType_str, ib_NoneType_tuple, ib_NoneType_list, ib_NoneType_dict, ib_bool_int, ib_bool_bool, ib_bool_str, ib_bool_tuple, ib_bool_list, ib_bool_dict, ib_int_int, ib_int_bool, ib_int_str, ib_int_tuple, ib_int_list, ib_int_dict, ib_str_int, ib_str_bool, ib_str_str, ib_str_tuple, ib_str_list, ib_str_dict, ib_tuple_int, ib_tuple_bool, ib_tuple_str, ib_tuple_tuple, ib_tuple_list, ib_tuple_dict, ib_list_int, ib_list_bool, ib_list_str, ib_list_tuple, ib_list_list, ib_list_dict, ib_dict_int, ib_dict_bool, ib_dict_str, ib_dict_tuple, ib_dict_list, ib_dict_dict, Bool.not_true, Bool.not_false, true_and, and_true, decide_true, decide_false])
    refine ⟨by decide, q _ ⟨1 + r.toNat, ?_, by omega, by omega⟩⟩
    rw [show (1 : Int) + r = ((1 + r.toNat : Nat) : Int) by omega]
    rfl
  rintro x ⟨n, rfl, n1, n2⟩
  (try simp only [mSeq, mIfS, mOr, mAnd, mNot, mTest, mOp, mUn, mVar, mOwn, mC, mRet, mRetN, mNext, mAsg, mAsgO, mName, mGTup, mGCons, mGNil, mFor, mRng1, mRng2, mRng3, mCons, mNil, mPar, mParO, mParP, mDrop, mFz, mApp, mExt, mSetL, mLc, mYes, mSeqI, mOwnI, mOrI, mEnumL, mEnumT, mZip, mZipM, mOr2, mRevL, mRevT, mSl, mNoP, mP, mTup, mLst, mCb, mIf, mAndV, mOrV, mNotV, mChain, mBrk, mCnt, mNever, mAug, mCall0, mCallK0, hAdd, hSub, hInt, hIntC, hAnd, hDiv, hMod, hPow, hMul, hNeg, hCmp, hLt, hLe, hGt, hGe, hIx, hIxX, hLen, hIsi, hTuple, hList, hInt1, hAbs, D.isN, hIs, hNis, D.items, D.plain, D.kind, hEq_int, hNe_int, hEq_str, hNe_str, hEq_tups, hNe_tups, hEq_lsts, hNe_lsts, wipeE, List.map_cons, List.map_nil, List.replicate_succ, List.replicate_zero, List.cons_append, List.nil_append, List.getElem?_cons_zero, List.getElem?_cons_succ, List.set_cons_zero, List.set_cons_succ, List.length_cons, List.length_nil, Nat.reduceAdd, Nat.reduceSub, inT_int, inT_bool, inT_str, inT_tuple, inT_list, inT_dict, ib_NoneType_int, ib_NoneType_bool, ib_NoneType_str, ib_NoneType_tuple, ib_NoneType_list, ib_NoneType_dict, ib_bool_int, ib_bool_bool, ib_bool_str, ib_bool_tuple, ib_bool_list, ib_bool_dict, ib_int_int, ib_int_bool, ib_int_str, ib_int_tuple, ib_int_list, ib_int_dict, ib_str_int, ib_str_bool, ib_str_str, ib_str_tuple, ib_str_list, ib_str_dict, ib_tuple_int, ib_tuple_bool, ib_tuple_str, ib_tuple_tuple, ib_tuple_list, ib_tuple_dict, ib_list_int, ib_list_bool, ib_list_str, ib_list_tuple, ib_list_list, ib_list_dict, ib_dict_int, ib_dict_bool, ib_dict_str, ib_dict_tuple, ib_dict_list, ib_dict_dict, Bool.not_true, Bool.not_false, true_and, and_true, decide_true, decide_false])
  refine ⟨by omega, by omega, by omega, by omega, ?_⟩
  have e : ((d : Int) - 1 - 0).toNat = d - 1 := by omega
  rw [e]
  refine forL_rng (fun i env => ∃ c a b, env = [.fz .deck, .fz (.int d), .fz (.int g), .fz (.lst (nl c)), a, b] ∧ FA (d - 1 - i) i c) ⟨[n], _, _, rfl, ⟨rfl, fun j hj => ?_, fun j hj => ?_, fun j => ?_⟩⟩ ?_ ?_
  · have : j = 0 := by simp at hj; omega
    subst this
    exact n1
  · simp at hj
  · cases j with
    | zero => exact n2
    | succ j => exact Nat.zero_le _
  · rintro i env nx hi ⟨c, a, b, rfl, F⟩ hn
    have ek : (d : Int) - 1 + (i : Int) * (-1) = ((d - 1 - i : Nat) : Int) := by omega
    rw [ek]
    obtain ⟨k0, hk⟩ : ∃ k0, d - 1 - i = k0 + 1 := ⟨d - 1 - i - 1, by omega⟩
    rw [hk] at F ⊢
    have hs := F.sml 0
    have hp : 10 ^ (29 + i) ≤ 10 ^ 40 := Nat.pow_le_pow_right (by decide) (by omega)
    (try simp only [mGTup, mGCons, mGNil, mName, List.set_cons_zero, List.set_cons_succ, List.length_cons, List.length_nil, Nat.reduceAdd, true_and, and_true, List.map_cons, List.map_nil, List.replicate_succ, List.replicate_zero, List.cons_append, List.nil_append, Nat.reduceSub])
    refine w_asg (.int (LS (c.getD 0 0) (k0 + 2) : Nat)) (fun Q E q => ?_) ?_
    · (try simp only [mSeq, mIfS, mOr, mAnd, mNot, mTest, mOp, mUn, mVar, mOwn, mC, mRet, mRetN, mNext, mAsg, mAsgO, mName, mGTup, mGCons, mGNil, mFor, mRng1, mRng2, mRng3, mCons, mNil, mPar, mParO, mParP, mDrop, mFz, mApp, mExt, mSetL, mLc, mYes, mSeqI, mOwnI, mOrI, mEnumL, mEnumT, mZip, mZipM, mOr2, mRevL, mRevT, mSl, mNoP, mP, mTup, mLst, mCb, mIf, mAndV, mOrV, mNotV, mChain, mBrk, mCnt, mNever, mAug, mCall0, mCallK0, hAdd, hSub, hInt, hIntC, hAnd, hDiv, hMod, hPow, hMul, hNeg, hCmp, hLt, hLe, hGt, hGe, hIx, hIxX, hLen, hIsi, hTuple, hList, hInt1, hAbs, D.isN, hIs, hNis, D.items, D.plain, D.kind, hEq_int, hNe_int, hEq_str, hNe_str, hEq_tups, hNe_tups, hEq_lsts, hNe_lsts, wipeE, List.map_cons, List.map_nil, List.replicate_succ, List.replicate_zero, List.cons_append, List.nil_append, List.getElem?_cons_zero, List.getElem?_cons_succ, List.set_cons_zero, List.set_cons_succ, List.length_cons, List.length_nil, Nat.reduceAdd, Nat.reduceSub, inT_int, inT_bool, inT_str, inT_tuple, inT_list, inT_dict, ib_NoneType_int, ib_NoneType_bool, ib_NoneType_str, ib_NoneType_tuple, ib_NoneType_list, ib_NoneType_dict, ib_bool_int, ib_bool_bool, ib_bool_str, ib_bool_tuple, ib_bool_list, ib_bool_dict, ib_int_int, ib_int_bool, ib_int_str, ib_int_tuple, ib_int_list, ib_int_dict, ib_str_int, ib_str_bool, ib_str_str, ib_str_tuple, ib_str_list, ib_str_dict, ib_tuple_int, ib_tuple_bool, ib_tuple_str, ib_tuple_tuple, ib_tuple_list, ib_tuple_dict, ib_list_int, ib_list_bool, ib_list_str, ib_list_tuple, ib_list_list, ib_list_dict, ib_dict_int, ib_dict_bool, ib_dict_str, ib_dict_tuple, ib_dict_list, ib_dict_dict, Bool.not_true, Bool.not_false, true_and, and_true, decide_true, decide_false])
      refine ⟨_, at_nl (k := 0) rfl (by rw [F.len]; omega), ?_⟩
      have e : ((k0 + 1 : Nat) : Int) + 1 = ((k0 + 2 : Nat) : Int) := by omega
      rw [e]
      exact s_law_lower_sets (by omega) (by omega) (by have := b40; omega) q
    (try simp only [mGTup, mGCons, mGNil, mName, List.set_cons_zero, List.set_cons_succ, List.length_cons, List.length_nil, Nat.reduceAdd, true_and, and_true, List.map_cons, List.map_nil, List.replicate_succ, List.replicate_zero, List.cons_append, List.nil_append, Nat.reduceSub])
    have fin : ∀ r : Int, 0 ≤ r → r < 4 → nx [.fz .deck, .fz (.int d), .fz (.int g), .fz (.lst (D.int (((LS (c.getD 0 0) (k0 + 2) : Nat) : Int) + r) :: nl c)), .fz (.int ((k0 + 1 : Nat) : Int)), .fz (.int (LS (c.getD 0 0) (k0 + 2) : Nat))] := fun r r0 r1 => by
      refine hn _ ⟨(LS (c.getD 0 0) (k0 + 2) + r.toNat) :: c, .fz (.int ((k0 + 1 : Nat) : Int)), .fz (.int (LS (c.getD 0 0) (k0 + 2) : Nat)), ?_, ?_⟩
      · rw [show ((LS (c.getD 0 0) (k0 + 2) : Nat) : Int) + r = ((LS (c.getD 0 0) (k0 + 2) + r.toNat : Nat) : Int) by omega]
        rfl
      · rw [show d - 1 - (i + 1) = k0 by omega]
        exact F.cons (by omega) (by omega) (by omega)
    (try simp only [mSeq, mIfS, mOr, mAnd, mNot, mTest, mOp, mUn, mVar, mOwn, mC, mRet, mRetN, mNext, mAsg, mAsgO, mName, mGTup, mGCons, mGNil, mFor, mRng1, mRng2, mRng3, mCons, mNil, mPar, mParO, mParP, mDrop, mFz, mApp, mExt, mSetL, mLc, mYes, mSeqI, mOwnI, mOrI, mEnumL, mEnumT, mZip, mZipM, mOr2, mRevL, mRevT, mSl, mNoP, mP, mTup, mLst, mCb, mIf, mAndV, mOrV, mNotV, mChain, mBrk, mCnt, mNever, mAug, mCall0, mCallK0, hAdd, hSub, hInt, hIntC, hAnd, hDiv, hMod, hPow, hMul, hNeg, hCmp, hLt, hLe, hGt, hGe, hIx, hIxX, hLen, hIsi, hTuple, hList, hInt1, hAbs, D.isN, hIs, hNis, D.items, D.plain, D.kind, hEq_int, hNe_int, hEq_str, hNe_str, hEq_tups, hNe_tups, hEq_lsts, hNe_lsts, wipeE, List.map_cons, List.map_nil, List.replicate_succ, List.replicate_zero, List.cons_append, List.nil_append, List.getElem?_cons_zero, List.getElem?_cons_succ, List.set_cons_zero, List.set_cons_succ, List.length_cons, List.length_nil, Nat.reduceAdd, Nat.reduceSub, inT_int, inT_bool, inT_str, inT_tuple, inT_list, inT_dict, ib_NoneType_int, ib_NoneType_bool, ib_NoneType_str, ib_NoneType_tuple, ib_NoneType_list, ib_NoneType_dict, ib_bool_int, ib_bool_bool, ib_bool_str, ib_bool_tuple, ib_bool_list, ib_bool_dict, ib_int_int, ib_int_bool, ib_int_str, ib_int_tuple, ib_int_list, ib_int_dict, ib_str_int, ib_str_bool, ib_str_str, ib_str_tuple, ib_str_list, ib_str_dict, ib_tuple_int, ib_tuple_bool, ib_tuple_str, ib_tuple_tuple, ib_tuple_list, ib_tuple_dict, ib_list_int, ib_list_bool, ib_list_str, ib_list_tuple, ib_list_list, ib_list_dict, ib_dict_int, ib_dict_bool, ib_dict_str, ib_dict_tuple, ib_dict_list, ib_dict_dict, Bool.not_true, Bool.not_false, true_and, and_true, decide_true, decide_false])
    refine w_drawS (by decide) (by decide) fun z z0 z1 => ?_
    (try simp only [mSeq, mIfS, mOr, mAnd, mNot, mTest, mOp, mUn, mVar, mOwn, mC, mRet, mRetN, mNext, mAsg, mAsgO, mName, mGTup, mGCons, mGNil, mFor, mRng1, mRng2, mRng3, mCons, mNil, mPar, mParO, mParP, mDrop, mFz, mApp, mExt, mSetL, mLc, mYes, mSeqI, mOwnI, mOrI, mEnumL, mEnumT, mZip, mZipM, mOr2, mRevL, mRevT, mSl, mNoP, mP, mTup, mLst, mCb, mIf, mAndV, mOrV, mNotV, mChain, mBrk, mCnt, mNever, mAug, mCall0, mCallK0, hAdd, hSub, hInt, hIntC, hAnd, hDiv, hMod, hPow, hMul, hNeg, hCmp, hLt, hLe, hGt, hGe, hIx, hIxX, hLen, hIsi, hTuple, hList, hInt1, hAbs, D.isN, hIs, hNis, D.items, D.plain, D.kind, hEq_int, hNe_int, hEq_str, hNe_str, hEq_tups, hNe_tups, hEq_lsts, hNe_lsts, wipeE, List.map_cons, List.map_nil, List.replicate_succ, List.replicate_zero, List.cons_append, List.nil_append, List.getElem?_cons_zero, List.getElem?_cons_succ, List.set_cons_zero, List.set_cons_succ, List.length_cons, List.length_nil, Nat.reduceAdd, Nat.reduceSub, inT_int, inT_bool, inT_str, inT_tuple, inT_list, inT_dict, ib_NoneType_int, ib_NoneType_bool, ib_NoneType_str, ib_NoneType_tuple, ib_NoneType_list, ib_NoneType_dict, ib_bool_int, ib_bool_bool, ib_bool_str, ib_bool_tuple, ib_bool_list, ib_bool_dict, ib_int_int, ib_int_bool, ib_int_str, ib_int_tuple, ib_int_list, ib_int_dict, ib_str_int, ib_str_bool, ib_str_str, ib_str_tuple, ib_str_list, ib_str_dict, ib_tuple_int, ib_tuple_bool, ib_tuple_str, ib_tuple_tuple, ib_tuple_list, ib_tuple_dict, ib_list_int, ib_list_bool, ib_list_str, ib_list_tuple, ib_list_list, ib_list_dict, ib_dict_int, ib_dict_bool, ib_dict_str, ib_dict_tuple, ib_dict_list, ib_dict_dict, Bool.not_true, Bool.not_false, true_and, and_true, decide_true, decide_false])
    by_cases hz : z = 0
    · rw [decide_eq_true hz]
      refine w_drawS (by decide) (by decide) fun r r0 r1 => ?_
      (try simp only [mSeq, mIfS, mOr, mAnd, mNot, mTest, mOp, mUn, mVar, mOwn, mC, mRet, mRetN, mNext, mAsg, mAsgO, mName, mGTup, mGCons, mGNil, mFor, mRng1, mRng2, mRng3, mCons, mNil, mPar, mParO, mParP, mDrop, mFz, mApp, mExt, mSetL, mLc, mYes, mSeqI, mOwnI, mOrI, mEnumL, mEnumT, mZip, mZipM, mOr2, mRevL, mRevT, mSl, mNoP, mP, mTup, mLst, mCb, mIf, mAndV, mOrV, mNotV, mChain, mBrk, mCnt, mNever, mAug, mCall0, mCallK0, hAdd, hSub, hInt, hIntC, hAnd, hDiv, hMod, hPow, hMul, hNeg, hCmp, hLt, hLe, hGt, hGe, hIx, hIxX, hLen, hIsi, hTuple, hList, hInt1, hAbs, D.isN, hIs, hNis, D.items, D.plain, D.kind, hEq_int, hNe_int, hEq_str, hNe_str, hEq_tups, hNe_tups, hEq_lsts, hNe_lsts, wipeE, List.map_cons, List.map_nil, List.replicate_succ, List.replicate_zero, List.cons_append, List.nil_append, List.getElem?_cons_zero, List.getElem?_cons_succ, List.set_cons_zero, List.set_cons_succ, List.length_cons, List.length_nil, Nat.reduceAdd, Nat.reduceSub, inT_int, inT_bool, inT_str, inT_tuple, inT_list, inT_dict, ib_NoneType_int, ib_NoneType_bool, ib_NoneType_str, ib_NoneType_tuple, ib_NoneType_list, ib_NoneType_dict, ib_bool_int, ib_bool_bool, ib_bool_str, ib_bool_tuple, ib_bool_list, ib_bool_dict, ib_int_int, ib_int_bool, ib_int_str, ib_int_tuple, ib_int_list, ib_int_dict, ib_str_int, ib_str_bool, ib_str_str, ib_str_tuple, ib_str_list, ib_str_dict, ib_tuple_int, ib_tuple_bool, ib_tuple_str, ib_tuple_tuple, ib_tuple_list, ib_tuple_dict, ib_list_int, ib_list_bool, ib_list_str, ib_list_tuple, ib_list_list, ib_list_dict, ib_dict_int, ib_dict_bool, ib_dict_str, ib_dict_tuple, ib_dict_list, ib_dict_dict, Bool.not_true, Bool.not_false, true_and, and_true, decide_true, decide_false])
      exact ⟨by decide, by rw [nl_len, F.len]; omega, fin r r0 r1⟩
    · rw [decide_eq_false hz]
      (try simp only [mSeq, mIfS, mOr, mAnd, mNot, mTest, mOp, mUn, mVar, mOwn, mC, mRet, mRetN, mNext, mAsg, mAsgO, mName, mGTup, mGCons, mGNil, mFor, mRng1, mRng2, mRng3, mCons, mNil, mPar, mParO, mParP, mDrop, mFz, mApp, mExt, mSetL, mLc, mYes, mSeqI, mOwnI, mOrI, mEnumL, mEnumT, mZip, mZipM, mOr2, mRevL, mRevT, mSl, mNoP, mP, mTup, mLst, mCb, mIf, mAndV, mOrV, mNotV, mChain, mBrk, mCnt, mNever, mAug, mCall0, mCallK0, hAdd, hSub, hInt, hIntC, hAnd, hDiv, hMod, hPow, hMul, hNeg, hCmp, hLt, hLe, hGt, hGe, hIx, hIxX, hLen, hIsi, hTuple, hList, hInt1, hAbs, D.isN, hIs, hNis, D.items, D.plain, D.kind, hEq_int, hNe_int, hEq_str, hNe_str, hEq_tups, hNe_tups, hEq_lsts, hNe_lsts, wipeE, List.map_cons, List.map_nil, List.replicate_succ, List.replicate_zero, List.cons_append, List.nil_append, List.getElem?_cons_zero, List.getElem?_cons_succ, List.set_cons_zero, List.set_cons_succ, List.length_cons, List.length_nil, Nat.reduceAdd, Nat.reduceSub, inT_int, inT_bool, inT_str, inT_tuple, inT_list, inT_dict, ib_NoneType_int, ib_NoneType_bool, ib_NoneType_str, ib_NoneType_tuple, ib_NoneType_list, ib_NoneType_dict, ib_bool_int, ib_bool_bool, ib_bool_str, ib_bool_tuple, ib_bool_list, ib_bool_dict, ib_int_int, ib_int_bool, ib_int_str, ib_int_tuple, ib_int_list, ib_int_dict, ib_str_int, ib_str_bool, ib_str_str, ib_str_tuple, ib_str_list, ib_str_dict, ib_tuple_int, ib_tuple_bool, ib_tuple_str, ib_tuple_tuple, ib_tuple_list, ib_tuple_dict, ib_list_int, ib_list_bool, ib_list_str, ib_list_tuple, ib_list_list, ib_list_dict, ib_dict_int, ib_dict_bool, ib_dict_str, ib_dict_tuple, ib_dict_list, ib_dict_dict, Bool.not_true, Bool.not_false, true_and, and_true, decide_true, decide_false])
      exact ⟨by decide, by rw [nl_len, F.len]; omega, fin 0 (by decide) (by decide)⟩
  · rintro env ⟨c, a, b, rfl, F⟩
    rw [Nat.sub_self] at F
    (try simp only [mSeq, mIfS, mOr, mAnd, mNot, mTest, mOp, mUn, mVar, mOwn, mC, mRet, mRetN, mNext, mAsg, mAsgO, mName, mGTup, mGCons, mGNil, mFor, mRng1, mRng2, mRng3, mCons, mNil, mPar, mParO, mParP, mDrop, mFz, mApp, mExt, mSetL, mLc, mYes, mSeqI, mOwnI, mOrI, mEnumL, mEnumT, mZip, mZipM, mOr2, mRevL, mRevT, mSl, mNoP, mP, mTup, mLst, mCb, mIf, mAndV, mOrV, mNotV, mChain, mBrk, mCnt, mNever, mAug, mCall0, mCallK0, hAdd, hSub, hInt, hIntC, hAnd, hDiv, hMod, hPow, hMul, hNeg, hCmp, hLt, hLe, hGt, hGe, hIx, hIxX, hLen, hIsi, hTuple, hList, hInt1, hAbs, D.isN, hIs, hNis, D.items, D.plain, D.kind, hEq_int, hNe_int, hEq_str, hNe_str, hEq_tups, hNe_tups, hEq_lsts, hNe_lsts, wipeE, List.map_cons, List.map_nil, List.replicate_succ, List.replicate_zero, List.cons_append, List.nil_append, List.getElem?_cons_zero, List.getElem?_cons_succ, List.set_cons_zero, List.set_cons_succ, List.length_cons, List.length_nil, Nat.reduceAdd, Nat.reduceSub, inT_int, inT_bool, inT_str, inT_tuple, inT_list, inT_dict, ib_NoneType_int, ib_NoneType_bool, ib_NoneType_str, ib_NoneType_tuple, ib_NoneType_list, ib_NoneType_dict, ib_bool_int, ib_bool_bool, ib_bool_str, ib_bool_tuple, ib_bool_list, ib_bool_dict, ib_int_int, ib_int_bool, ib_int_str, ib_int_tuple, ib_int_list, ib_int_dict, ib_str_int, ib_str_bool, ib_str_str, ib_str_tuple, ib_str_list, ib_str_dict, ib_tuple_int, ib_tuple_bool, ib_tuple_str, ib_tuple_tuple, ib_tuple_list, ib_tuple_dict, ib_list_int, ib_list_bool, ib_list_str, ib_list_tuple, ib_list_list, ib_list_dict, ib_dict_int, ib_dict_bool, ib_dict_str, ib_dict_tuple, ib_dict_list, ib_dict_dict, Bool.not_true, Bool.not_false, true_and, and_true, decide_true, decide_false])
    have hl : c.length = d := by rw [F.len]; omega
    refine q c ⟨⟨by omega, F.pos, fun k hk => ?_⟩, by omega, fun k => ?_⟩ hl
    · have := F.low k hk
      rw [Nat.zero_add] at this
      exact this
    · have h1 := F.sml k
      have h2 : 10 ^ (29 + (d - 1)) < 10 ^ 40 := Nat.pow_lt_pow_right (by decide) (by omega)
      omega
theorem ok_c {c : List Nat} (h : ∀ k, c.getD k 0 < 10 ^ 40) (hl : c.length ≤ 100) : Ok 100 1 (.tup (nl c)) :=
  (ok_tup (oks_nats fun a ha => by
    obtain ⟨k, _, rfl⟩ := mem_getD ha
    have := h k
    have : 10 ^ 40 < 2 ^ 1900 := by decide +kernel
    omega)).mono (by omega) (by omega)
theorem mst_le {c : List Nat} (k : Nat) : (mst c).getD k 0 ≤ c.getD k 0 := by
  by_cases h : k < c.length
  · rw [mst_at h]; omega
  · rw [List.getD_eq_getElem?_getD, List.getElem?_eq_none (by rw [mst_len]; omega)]
    exact Nat.zero_le _
theorem few_ge (c : List Nat) (k : Nat) : 0 ≤ fewI c k := by rw [few_ab]; omega
theorem ok_few {c : List Nat} (F : CF c) : Ok 100 1 (.tup (il (few c))) :=
  (ok_tup (oks_ints fun a ha => by
    obtain ⟨k, hk, rfl⟩ := List.mem_map.mp ha
    have hk := List.mem_range.mp hk
    have h1 := few_le F.fit hk
    have h2 := few_ge c k
    have h3 := mst_le (c := c) k
    have h4 := F.sml k
    have : 10 ^ 40 < 2 ^ 1900 := by decide +kernel
    omega)).mono (by have := F.len; rw [few_len]; omega) (by omega)
/-! ### the law -/
theorem law_ok : LawOk 16 m_law := by
  unfold LawOk m_law
  (try simp only [mGTup, mGCons, mGNil, mName, List.set_cons_zero, List.set_cons_succ, List.length_cons, List.length_nil, Nat.reduceAdd, true_and, and_true, List.map_cons, List.map_nil, List.replicate_succ, List.replicate_zero, List.cons_append, List.nil_append, Nat.reduceSub])
  -- greatest
  refine w_asgP (fun x => ∃ g : Int, x = .int g ∧ 1 ≤ g ∧ g ≤ 10 ^ 28) (fun Q E q => ?_) ?_
  · (try simp only [mSeq, mIfS, mOr, mAnd, mNot, mTest, mOp, mUn, mVar, mOwn, mC, mRet, mRetN, mNext, mAsg, mAsgO, mName, mGTup, mGCons, mGNil, mFor, mRng1, mRng2, mRng3, mCons, mNil, mPar, mParO, mParP, mDrop, mFz, mApp, mExt, mSetL, mLc, mYes, mSeqI, mOwnI, mOrI, mEnumL, mEnumT, mZip, mZipM, mOr2, mRevL, mRevT, mSl, mNoP, mP, mTup, mLst, mCb, mIf, mAndV, mOrV, mNotV, mChain, mBrk, mCnt, mNever, mAug, mCall0, mCallK0, hAdd, hSub, hInt, hIntC, hAnd, hDiv, hMod, hPow, hMul, hNeg, hCmp, hLt, hLe, hGt, hGe, hIx, hIxX, hLen, hIsi, hTuple, hList, hInt1, hAbs, D.isN, hIs, hNis, D.items, D.plain, D.kind, hEq_int, hNe_int, hEq_str, hNe_str, hEq_tups, hNe_tups, hEq_lsts, hNe_lsts, wipeE, List.map_cons, List.map_nil, List.replicate_succ, List.replicate_zero, List.cons_append, List.nil_append, List.getElem?_cons_zero, List.getElem?_cons_succ, List.set_cons_zero, List.set_cons_succ, List.length_cons, List.length_nil, Nat.reduceAdd, Nat.reduceSub, inT_int, inT_bool, inT_str, inT_tuple, inT_list, inT_dict, ib_NoneType_int, ib_NoneType_bool, ib_NoneType_str, ib_NoneType_tuple, ib_NoneType_list, ib_NoneType_dict, ib_bool_int, ib_bool_bool, ib_bool_str, ib_bool_tuple, ib_bool_list, ib_bool_dict, ib_int_int, ib_int_bool, ib_int_str, ib_int_tuple, ib_int_list, ib_int_dict, ib_str_int, ib_str_bool, ib_str_str, ib_str_tuple, ib_str_list, ib_str_dict, ib_tuple_int, ib_tuple_bool, ib_tuple_str, ib_tuple_tuple, ib_tuple_list, ib_tuple_dict, ib_list_int, ib_list_bool, ib_list_str, ib_list_tuple, ib_list_list, ib_list_dict, ib_dict_int, ib_dict_bool, ib_dict_str, ib_dict_tuple, ib_dict_list, ib_dict_dict, Bool.not_true, Bool.not_false, true_and, and_true, decide_true, decide_false])
    refine w_drawS (by decide) (by decide) fun z z0 z1 => ?_
    (try simp only [mSeq, mIfS, mOr, mAnd, mNot, mTest, mOp, mUn, mVar, mOwn, mC, mRet, mRetN, mNext, mAsg, mAsgO, mName, mGTup, mGCons, mGNil, mFor, mRng1, mRng2, mRng3, mCons, mNil, mPar, mParO, mParP, mDrop, mFz, mApp, mExt, mSetL, mLc, mYes, mSeqI, mOwnI, mOrI, mEnumL, mEnumT, mZip, mZipM, mOr2, mRevL, mRevT, mSl, mNoP, mP, mTup, mLst, mCb, mIf, mAndV, mOrV, mNotV, mChain, mBrk, mCnt, mNever, mAug, mCall0, mCallK0, hAdd, hSub, hInt, hIntC, hAnd, hDiv, hMod, hPow, hMul, hNeg, hCmp, hLt, hLe, hGt, hGe, hIx, hIxX, hLen, hIsi, hTuple, hList, hInt1, hAbs, D.isN, hIs, hNis, D.items, D.plain, D.kind, hEq_int, hNe_int, hEq_str, hNe_str, hEq_tups, hNe_tups, hEq_lsts, hNe_lsts, wipeE, List.map_cons, List.map_nil, List.replicate_succ, List.replicate_zero, List.cons_append, List.nil_append, List.getElem?_cons_zero, List.getElem?_cons_succ, List.set_cons_zero, List.set_cons_succ, List.length_cons, List.length_nil, Nat.reduceAdd, Nat.reduceSub, inT_int, inT_bool, inT_str, inT_tuple, inT_list, inT_dict, ib_NoneType_int, ib_NoneType_bool, ib_NoneType_str, ib_NoneType_tuple, ib_NoneType_list, ib_NoneType_dict, ib_bool_int, ib_bool_bool, ib_bool_str, ib_bool_tuple, ib_bool_list, ib_bool_dict, ib_int_int, ib_int_bool, ib_int_str, ib_int_tuple, ib_int_list, ib_int_dict, ib_str_int, ib_str_bool, ib_str_str, ib_str_tuple, ib_str_list, ib_str_dict, ib_tuple_int, ib_tuple_bool, ib_tuple_str, ib_tuple_tuple, ib_tuple_list, ib_tuple_dict, ib_list_int, ib_list_bool, ib_list_str, ib_list_tuple, ib_list_list, ib_list_dict, ib_dict_int, ib_dict_bool, ib_dict_str, ib_dict_tuple, ib_dict_list, ib_dict_dict, Bool.not_true, Bool.not_false, true_and, and_true, decide_true, decide_false])
    by_cases hz : z = 0
    · rw [decide_eq_true hz]
      refine ⟨pow10 (by decide) (by decide), pow10 (by decide) (by decide), pow10 (by decide) (by decide), by decide, ?_⟩
      refine s_law_pick (by decide) (by decide) fun x hx => ?_
      simp only [List.mem_cons, List.not_mem_nil, or_false] at hx
      rcases hx with rfl | rfl | rfl
      · exact q _ ⟨_, rfl, by decide, by decide⟩
      · exact q _ ⟨_, rfl, by decide, by decide⟩
      · exact q _ ⟨_, rfl, by decide, by decide⟩
    · rw [decide_eq_false hz]
      exact q _ ⟨_, rfl, by decide, by decide⟩
  rintro x ⟨g, rfl, g1, g2⟩
  (try simp only [mGTup, mGCons, mGNil, mName, List.set_cons_zero, List.set_cons_succ, List.length_cons, List.length_nil, Nat.reduceAdd, true_and, and_true, List.map_cons, List.map_nil, List.replicate_succ, List.replicate_zero, List.cons_append, List.nil_append, Nat.reduceSub])
  -- counts
  refine w_asgP (fun x => ∃ c : List Nat, x = .tup (nl c) ∧ CF c ∧ c.length ≤ 4) (fun Q E q => ?_) ?_
  · (try simp only [mSeq, mIfS, mOr, mAnd, mNot, mTest, mOp, mUn, mVar, mOwn, mC, mRet, mRetN, mNext, mAsg, mAsgO, mName, mGTup, mGCons, mGNil, mFor, mRng1, mRng2, mRng3, mCons, mNil, mPar, mParO, mParP, mDrop, mFz, mApp, mExt, mSetL, mLc, mYes, mSeqI, mOwnI, mOrI, mEnumL, mEnumT, mZip, mZipM, mOr2, mRevL, mRevT, mSl, mNoP, mP, mTup, mLst, mCb, mIf, mAndV, mOrV, mNotV, mChain, mBrk, mCnt, mNever, mAug, mCall0, mCallK0, hAdd, hSub, hInt, hIntC, hAnd, hDiv, hMod, hPow, hMul, hNeg, hCmp, hLt, hLe, hGt, hGe, hIx, hIxX, hLen, hIsi, hTuple, hList, hInt1, hAbs, D.isN, hIs, hNis, D.items, D.plain, D.kind, hEq_int, hNe_int, hEq_str, hNe_str, hEq_tups, hNe_tups, hEq_lsts, hNe_lsts, wipeE, List.map_cons, List.map_nil, List.replicate_succ, List.replicate_zero, List.cons_append, List.nil_append, List.getElem?_cons_zero, List.getElem?_cons_succ, List.set_cons_zero, List.set_cons_succ, List.length_cons, List.length_nil, Nat.reduceAdd, Nat.reduceSub, inT_int, inT_bool, inT_str, inT_tuple, inT_list, inT_dict, ib_NoneType_int, ib_NoneType_bool, ib_NoneType_str, ib_NoneType_tuple, ib_NoneType_list, ib_NoneType_dict, ib_bool_int, ib_bool_bool, ib_bool_str, ib_bool_tuple, ib_bool_list, ib_bool_dict, ib_int_int, ib_int_bool, ib_int_str, ib_int_tuple, ib_int_list, ib_int_dict, ib_str_int, ib_str_bool, ib_str_str, ib_str_tuple, ib_str_list, ib_str_dict, ib_tuple_int, ib_tuple_bool, ib_tuple_str, ib_tuple_tuple, ib_tuple_list, ib_tuple_dict, ib_list_int, ib_list_bool, ib_list_str, ib_list_tuple, ib_list_list, ib_list_dict, ib_dict_int, ib_dict_bool, ib_dict_str, ib_dict_tuple, ib_dict_list, ib_dict_dict, Bool.not_true, Bool.not_false, true_and, and_true, decide_true, decide_false])
    refine w_drawS (by decide) (by decide) fun z z0 z1 => ?_
    (try simp only [mSeq, mIfS, mOr, mAnd, mNot, mTest, mOp, mUn, mVar, mOwn, mC, mRet, mRetN, mNext, mAsg, mAsgO, mName, mGTup, mGCons, mGNil, mFor, mRng1, mRng2, mRng3, mCons, mNil, mPar, mParO, mParP, mDrop, mFz, mApp, mExt, mSetL, mLc, mYes, mSeqI, mOwnI, mOrI, mEnumL, mEnumT, mZip, mZipM, mOr2, mRevL, mRevT, mSl, mNoP, mP, mTup, mLst, mCb, mIf, mAndV, mOrV, mNotV, mChain, mBrk, mCnt, mNever, mAug, mCall0, mCallK0, hAdd, hSub, hInt, hIntC, hAnd, hDiv, hMod, hPow, hMul, hNeg, hCmp, hLt, hLe, hGt, hGe, hIx, hIxX, hLen, hIsi, hTuple, hList, hInt1, hAbs, D.isN, hIs, hNis, D.items, D.plain, D.kind, hEq_int, hNe_int, hEq_str, hNe_str, hEq_tups, hNe_tups, hEq_lsts, hNe_lsts, wipeE, List.map_cons, List.map_nil, List.replicate_succ, List.replicate_zero, List.cons_append, List.nil_append, List.getElem?_cons_zero, List.getElem?_cons_succ, List.set_cons_zero, List.set_cons_succ, List.length_cons, List.length_nil, Nat.reduceAdd, Nat.reduceSub, inT_int, inT_bool, inT_str, inT_tuple, inT_list, inT_dict, ib_NoneType_int, ib_NoneType_bool, ib_NoneType_str, ib_NoneType_tuple, ib_NoneType_list, ib_NoneType_dict, ib_bool_int, ib_bool_bool, ib_bool_str, ib_bool_tuple, ib_bool_list, ib_bool_dict, ib_int_int, ib_int_bool, ib_int_str, ib_int_tuple, ib_int_list, ib_int_dict, ib_str_int, ib_str_bool, ib_str_str, ib_str_tuple, ib_str_list, ib_str_dict, ib_tuple_int, ib_tuple_bool, ib_tuple_str, ib_tuple_tuple, ib_tuple_list, ib_tuple_dict, ib_list_int, ib_list_bool, ib_list_str, ib_list_tuple, ib_list_list, ib_list_dict, ib_dict_int, ib_dict_bool, ib_dict_str, ib_dict_tuple, ib_dict_list, ib_dict_dict, Bool.not_true, Bool.not_false, true_and, and_true, decide_true, decide_false])
    rw [show (1 : Int) + z = ((1 + z.toNat : Nat) : Int) by omega]
    exact s_law_some_counts (by omega) (by omega) g1 g2 fun c F hl => q _ ⟨c, rfl, F, by omega⟩
  rintro x ⟨c, rfl, F, h4⟩
  have hne := F.fit.ne
  (try simp only [mGTup, mGCons, mGNil, mName, List.set_cons_zero, List.set_cons_succ, List.length_cons, List.length_nil, Nat.reduceAdd, true_and, and_true, List.map_cons, List.map_nil, List.replicate_succ, List.replicate_zero, List.cons_append, List.nil_append, Nat.reduceSub])
  -- least
  refine w_asg (.tup (nl (lst c))) (fun Q E q => ?_) ?_
  · (try simp only [mSeq, mIfS, mOr, mAnd, mNot, mTest, mOp, mUn, mVar, mOwn, mC, mRet, mRetN, mNext, mAsg, mAsgO, mName, mGTup, mGCons, mGNil, mFor, mRng1, mRng2, mRng3, mCons, mNil, mPar, mParO, mParP, mDrop, mFz, mApp, mExt, mSetL, mLc, mYes, mSeqI, mOwnI, mOrI, mEnumL, mEnumT, mZip, mZipM, mOr2, mRevL, mRevT, mSl, mNoP, mP, mTup, mLst, mCb, mIf, mAndV, mOrV, mNotV, mChain, mBrk, mCnt, mNever, mAug, mCall0, mCallK0, hAdd, hSub, hInt, hIntC, hAnd, hDiv, hMod, hPow, hMul, hNeg, hCmp, hLt, hLe, hGt, hGe, hIx, hIxX, hLen, hIsi, hTuple, hList, hInt1, hAbs, D.isN, hIs, hNis, D.items, D.plain, D.kind, hEq_int, hNe_int, hEq_str, hNe_str, hEq_tups, hNe_tups, hEq_lsts, hNe_lsts, wipeE, List.map_cons, List.map_nil, List.replicate_succ, List.replicate_zero, List.cons_append, List.nil_append, List.getElem?_cons_zero, List.getElem?_cons_succ, List.set_cons_zero, List.set_cons_succ, List.length_cons, List.length_nil, Nat.reduceAdd, Nat.reduceSub, inT_int, inT_bool, inT_str, inT_tuple, inT_list, inT_dict, ib_NoneType_int, ib_NoneType_bool, ib_NoneType_str, ib_NoneType_tuple, ib_NoneType_list, ib_NoneType_dict, ib_bool_int, ib_bool_bool, ib_bool_str, ib_bool_tuple, ib_bool_list, ib_bool_dict, ib_int_int, ib_int_bool, ib_int_str, ib_int_tuple, ib_int_list, ib_int_dict, ib_str_int, ib_str_bool, ib_str_str, ib_str_tuple, ib_str_list, ib_str_dict, ib_tuple_int, ib_tuple_bool, ib_tuple_str, ib_tuple_tuple, ib_tuple_list, ib_tuple_dict, ib_list_int, ib_list_bool, ib_list_str, ib_list_tuple, ib_list_list, ib_list_dict, ib_dict_int, ib_dict_bool, ib_dict_str, ib_dict_tuple, ib_dict_list, ib_dict_dict, Bool.not_true, Bool.not_false, true_and, and_true, decide_true, decide_false])
    refine w_drawS (by decide) (by decide) fun z z0 z1 => ?_
    (try simp only [mSeq, mIfS, mOr, mAnd, mNot, mTest, mOp, mUn, mVar, mOwn, mC, mRet, mRetN, mNext, mAsg, mAsgO, mName, mGTup, mGCons, mGNil, mFor, mRng1, mRng2, mRng3, mCons, mNil, mPar, mParO, mParP, mDrop, mFz, mApp, mExt, mSetL, mLc, mYes, mSeqI, mOwnI, mOrI, mEnumL, mEnumT, mZip, mZipM, mOr2, mRevL, mRevT, mSl, mNoP, mP, mTup, mLst, mCb, mIf, mAndV, mOrV, mNotV, mChain, mBrk, mCnt, mNever, mAug, mCall0, mCallK0, hAdd, hSub, hInt, hIntC, hAnd, hDiv, hMod, hPow, hMul, hNeg, hCmp, hLt, hLe, hGt, hGe, hIx, hIxX, hLen, hIsi, hTuple, hList, hInt1, hAbs, D.isN, hIs, hNis, D.items, D.plain, D.kind, hEq_int, hNe_int, hEq_str, hNe_str, hEq_tups, hNe_tups, hEq_lsts, hNe_lsts, wipeE, List.map_cons, List.map_nil, List.replicate_succ, List.replicate_zero, List.cons_append, List.nil_append, List.getElem?_cons_zero, List.getElem?_cons_succ, List.set_cons_zero, List.set_cons_succ, List.length_cons, List.length_nil, Nat.reduceAdd, Nat.reduceSub, inT_int, inT_bool, inT_str, inT_tuple, inT_list, inT_dict, ib_NoneType_int, ib_NoneType_bool, ib_NoneType_str, ib_NoneType_tuple, ib_NoneType_list, ib_NoneType_dict, ib_bool_int, ib_bool_bool, ib_bool_str, ib_bool_tuple, ib_bool_list, ib_bool_dict, ib_int_int, ib_int_bool, ib_int_str, ib_int_tuple, ib_int_list, ib_int_dict, ib_str_int, ib_str_bool, ib_str_str, ib_str_tuple, ib_str_list, ib_str_dict, ib_tuple_int, ib_tuple_bool, ib_tuple_str, ib_tuple_tuple, ib_tuple_list, ib_tuple_dict, ib_list_int, ib_list_bool, ib_list_str, ib_list_tuple, ib_list_list, ib_list_dict, ib_dict_int, ib_dict_bool, ib_dict_str, ib_dict_tuple, ib_dict_list, ib_dict_dict, Bool.not_true, Bool.not_false, true_and, and_true, decide_true, decide_false])
    by_cases hz : z = 0
    · rw [decide_eq_true hz]
      exact s_least_rests F q
    · rw [decide_eq_false hz]
      exact ⟨rfl, s_least_rests F q⟩
  (try simp only [mGTup, mGCons, mGNil, mName, List.set_cons_zero, List.set_cons_succ, List.length_cons, List.length_nil, Nat.reduceAdd, true_and, and_true, List.map_cons, List.map_nil, List.replicate_succ, List.replicate_zero, List.cons_append, List.nil_append, Nat.reduceSub])
  refine w_asg (.int (c.length : Nat)) (fun Q E q => ?_) ?_
  · (try simp only [mSeq, mIfS, mOr, mAnd, mNot, mTest, mOp, mUn, mVar, mOwn, mC, mRet, mRetN, mNext, mAsg, mAsgO, mName, mGTup, mGCons, mGNil, mFor, mRng1, mRng2, mRng3, mCons, mNil, mPar, mParO, mParP, mDrop, mFz, mApp, mExt, mSetL, mLc, mYes, mSeqI, mOwnI, mOrI, mEnumL, mEnumT, mZip, mZipM, mOr2, mRevL, mRevT, mSl, mNoP, mP, mTup, mLst, mCb, mIf, mAndV, mOrV, mNotV, mChain, mBrk, mCnt, mNever, mAug, mCall0, mCallK0, hAdd, hSub, hInt, hIntC, hAnd, hDiv, hMod, hPow, hMul, hNeg, hCmp, hLt, hLe, hGt, hGe, hIx, hIxX, hLen, hIsi, hTuple, hList, hInt1, hAbs, D.isN, hIs, hNis, D.items, D.plain, D.kind, hEq_int, hNe_int, hEq_str, hNe_str, hEq_tups, hNe_tups, hEq_lsts, hNe_lsts, wipeE, List.map_cons, List.map_nil, List.replicate_succ, List.replicate_zero, List.cons_append, List.nil_append, List.getElem?_cons_zero, List.getElem?_cons_succ, List.set_cons_zero, List.set_cons_succ, List.length_cons, List.length_nil, Nat.reduceAdd, Nat.reduceSub, inT_int, inT_bool, inT_str, inT_tuple, inT_list, inT_dict, ib_NoneType_int, ib_NoneType_bool, ib_NoneType_str, ib_NoneType_tuple, ib_NoneType_list, ib_NoneType_dict, ib_bool_int, ib_bool_bool, ib_bool_str, ib_bool_tuple, ib_bool_list, ib_bool_dict, ib_int_int, ib_int_bool, ib_int_str, ib_int_tuple, ib_int_list, ib_int_dict, ib_str_int, ib_str_bool, ib_str_str, ib_str_tuple, ib_str_list, ib_str_dict, ib_tuple_int, ib_tuple_bool, ib_tuple_str, ib_tuple_tuple, ib_tuple_list, ib_tuple_dict, ib_list_int, ib_list_bool, ib_list_str, ib_list_tuple, ib_list_list, ib_list_dict, ib_dict_int, ib_dict_bool, ib_dict_str, ib_dict_tuple, ib_dict_list, ib_dict_dict, Bool.not_true, Bool.not_false, true_and, and_true, decide_true, decide_false])
    rw [nl_len]
    exact q
  (try simp only [mGTup, mGCons, mGNil, mName, List.set_cons_zero, List.set_cons_succ, List.length_cons, List.length_nil, Nat.reduceAdd, true_and, and_true, List.map_cons, List.map_nil, List.replicate_succ, List.replicate_zero, List.cons_append, List.nil_append, Nat.reduceSub])
  -- the least rests are integers, with the ends told
  refine w_check (fun Q E q => ?_) ?_
  · (try simp only [mSeq, mIfS, mOr, mAnd, mNot, mTest, mOp, mUn, mVar, mOwn, mC, mRet, mRetN, mNext, mAsg, mAsgO, mName, mGTup, mGCons, mGNil, mFor, mRng1, mRng2, mRng3, mCons, mNil, mPar, mParO, mParP, mDrop, mFz, mApp, mExt, mSetL, mLc, mYes, mSeqI, mOwnI, mOrI, mEnumL, mEnumT, mZip, mZipM, mOr2, mRevL, mRevT, mSl, mNoP, mP, mTup, mLst, mCb, mIf, mAndV, mOrV, mNotV, mChain, mBrk, mCnt, mNever, mAug, mCall0, mCallK0, hAdd, hSub, hInt, hIntC, hAnd, hDiv, hMod, hPow, hMul, hNeg, hCmp, hLt, hLe, hGt, hGe, hIx, hIxX, hLen, hIsi, hTuple, hList, hInt1, hAbs, D.isN, hIs, hNis, D.items, D.plain, D.kind, hEq_int, hNe_int, hEq_str, hNe_str, hEq_tups, hNe_tups, hEq_lsts, hNe_lsts, wipeE, List.map_cons, List.map_nil, List.replicate_succ, List.replicate_zero, List.cons_append, List.nil_append, List.getElem?_cons_zero, List.getElem?_cons_succ, List.set_cons_zero, List.set_cons_succ, List.length_cons, List.length_nil, Nat.reduceAdd, Nat.reduceSub, inT_int, inT_bool, inT_str, inT_tuple, inT_list, inT_dict, ib_NoneType_int, ib_NoneType_bool, ib_NoneType_str, ib_NoneType_tuple, ib_NoneType_list, ib_NoneType_dict, ib_bool_int, ib_bool_bool, ib_bool_str, ib_bool_tuple, ib_bool_list, ib_bool_dict, ib_int_int, ib_int_bool, ib_int_str, ib_int_tuple, ib_int_list, ib_int_dict, ib_str_int, ib_str_bool, ib_str_str, ib_str_tuple, ib_str_list, ib_str_dict, ib_tuple_int, ib_tuple_bool, ib_tuple_str, ib_tuple_tuple, ib_tuple_list, ib_tuple_dict, ib_list_int, ib_list_bool, ib_list_str, ib_list_tuple, ib_list_list, ib_list_dict, ib_dict_int, ib_dict_bool, ib_dict_str, ib_dict_tuple, ib_dict_list, ib_dict_dict, Bool.not_true, Bool.not_false, true_and, and_true, decide_true, decide_false])
    refine s_law_are_integers (by rw [lst_len]; omega) (by rw [lst_len]; omega) ?_
    (try simp only [mSeq, mIfS, mOr, mAnd, mNot, mTest, mOp, mUn, mVar, mOwn, mC, mRet, mRetN, mNext, mAsg, mAsgO, mName, mGTup, mGCons, mGNil, mFor, mRng1, mRng2, mRng3, mCons, mNil, mPar, mParO, mParP, mDrop, mFz, mApp, mExt, mSetL, mLc, mYes, mSeqI, mOwnI, mOrI, mEnumL, mEnumT, mZip, mZipM, mOr2, mRevL, mRevT, mSl, mNoP, mP, mTup, mLst, mCb, mIf, mAndV, mOrV, mNotV, mChain, mBrk, mCnt, mNever, mAug, mCall0, mCallK0, hAdd, hSub, hInt, hIntC, hAnd, hDiv, hMod, hPow, hMul, hNeg, hCmp, hLt, hLe, hGt, hGe, hIx, hIxX, hLen, hIsi, hTuple, hList, hInt1, hAbs, D.isN, hIs, hNis, D.items, D.plain, D.kind, hEq_int, hNe_int, hEq_str, hNe_str, hEq_tups, hNe_tups, hEq_lsts, hNe_lsts, wipeE, List.map_cons, List.map_nil, List.replicate_succ, List.replicate_zero, List.cons_append, List.nil_append, List.getElem?_cons_zero, List.getElem?_cons_succ, List.set_cons_zero, List.set_cons_succ, List.length_cons, List.length_nil, Nat.reduceAdd, Nat.reduceSub, inT_int, inT_bool, inT_str, inT_tuple, inT_list, inT_dict, ib_NoneType_int, ib_NoneType_bool, ib_NoneType_str, ib_NoneType_tuple, ib_NoneType_list, ib_NoneType_dict, ib_bool_int, ib_bool_bool, ib_bool_str, ib_bool_tuple, ib_bool_list, ib_bool_dict, ib_int_int, ib_int_bool, ib_int_str, ib_int_tuple, ib_int_list, ib_int_dict, ib_str_int, ib_str_bool, ib_str_str, ib_str_tuple, ib_str_list, ib_str_dict, ib_tuple_int, ib_tuple_bool, ib_tuple_str, ib_tuple_tuple, ib_tuple_list, ib_tuple_dict, ib_list_int, ib_list_bool, ib_list_str, ib_list_tuple, ib_list_list, ib_list_dict, ib_dict_int, ib_dict_bool, ib_dict_str, ib_dict_tuple, ib_dict_list, ib_dict_dict, Bool.not_true, Bool.not_false, true_and, and_true, decide_true, decide_false])
    refine ⟨_, at_lst (k := 0) rfl (by omega), ?_⟩
    (try simp only [mSeq, mIfS, mOr, mAnd, mNot, mTest, mOp, mUn, mVar, mOwn, mC, mRet, mRetN, mNext, mAsg, mAsgO, mName, mGTup, mGCons, mGNil, mFor, mRng1, mRng2, mRng3, mCons, mNil, mPar, mParO, mParP, mDrop, mFz, mApp, mExt, mSetL, mLc, mYes, mSeqI, mOwnI, mOrI, mEnumL, mEnumT, mZip, mZipM, mOr2, mRevL, mRevT, mSl, mNoP, mP, mTup, mLst, mCb, mIf, mAndV, mOrV, mNotV, mChain, mBrk, mCnt, mNever, mAug, mCall0, mCallK0, hAdd, hSub, hInt, hIntC, hAnd, hDiv, hMod, hPow, hMul, hNeg, hCmp, hLt, hLe, hGt, hGe, hIx, hIxX, hLen, hIsi, hTuple, hList, hInt1, hAbs, D.isN, hIs, hNis, D.items, D.plain, D.kind, hEq_int, hNe_int, hEq_str, hNe_str, hEq_tups, hNe_tups, hEq_lsts, hNe_lsts, wipeE, List.map_cons, List.map_nil, List.replicate_succ, List.replicate_zero, List.cons_append, List.nil_append, List.getElem?_cons_zero, List.getElem?_cons_succ, List.set_cons_zero, List.set_cons_succ, List.length_cons, List.length_nil, Nat.reduceAdd, Nat.reduceSub, inT_int, inT_bool, inT_str, inT_tuple, inT_list, inT_dict, ib_NoneType_int, ib_NoneType_bool, ib_NoneType_str, ib_NoneType_tuple, ib_NoneType_list, ib_NoneType_dict, ib_bool_int, ib_bool_bool, ib_bool_str, ib_bool_tuple, ib_bool_list, ib_bool_dict, ib_int_int, ib_int_bool, ib_int_str, ib_int_tuple, ib_int_list, ib_int_dict, ib_str_int, ib_str_bool, ib_str_str, ib_str_tuple, ib_str_list, ib_str_dict, ib_tuple_int, ib_tuple_bool, ib_tuple_str, ib_tuple_tuple, ib_tuple_list, ib_tuple_dict, ib_list_int, ib_list_bool, ib_list_str, ib_list_tuple, ib_list_list, ib_list_dict, ib_dict_int, ib_dict_bool, ib_dict_str, ib_dict_tuple, ib_dict_list, ib_dict_dict, Bool.not_true, Bool.not_false, true_and, and_true, decide_true, decide_false])
    rw [decide_eq_true (show ((mm c 0 : Nat) : Int) = 1 from rfl)]
    refine ⟨_, at_lst (k := c.length) rfl (by omega), ?_⟩
    (try simp only [mSeq, mIfS, mOr, mAnd, mNot, mTest, mOp, mUn, mVar, mOwn, mC, mRet, mRetN, mNext, mAsg, mAsgO, mName, mGTup, mGCons, mGNil, mFor, mRng1, mRng2, mRng3, mCons, mNil, mPar, mParO, mParP, mDrop, mFz, mApp, mExt, mSetL, mLc, mYes, mSeqI, mOwnI, mOrI, mEnumL, mEnumT, mZip, mZipM, mOr2, mRevL, mRevT, mSl, mNoP, mP, mTup, mLst, mCb, mIf, mAndV, mOrV, mNotV, mChain, mBrk, mCnt, mNever, mAug, mCall0, mCallK0, hAdd, hSub, hInt, hIntC, hAnd, hDiv, hMod, hPow, hMul, hNeg, hCmp, hLt, hLe, hGt, hGe, hIx, hIxX, hLen, hIsi, hTuple, hList, hInt1, hAbs, D.isN, hIs, hNis, D.items, D.plain, D.kind, hEq_int, hNe_int, hEq_str, hNe_str, hEq_tups, hNe_tups, hEq_lsts, hNe_lsts, wipeE, List.map_cons, List.map_nil, List.replicate_succ, List.replicate_zero, List.cons_append, List.nil_append, List.getElem?_cons_zero, List.getElem?_cons_succ, List.set_cons_zero, List.set_cons_succ, List.length_cons, List.length_nil, Nat.reduceAdd, Nat.reduceSub, inT_int, inT_bool, inT_str, inT_tuple, inT_list, inT_dict, ib_NoneType_int, ib_NoneType_bool, ib_NoneType_str, ib_NoneType_tuple, ib_NoneType_list, ib_NoneType_dict, ib_bool_int, ib_bool_bool, ib_bool_str, ib_bool_tuple, ib_bool_list, ib_bool_dict, ib_int_int, ib_int_bool, ib_int_str, ib_int_tuple, ib_int_list, ib_int_dict, ib_str_int, ib_str_bool, ib_str_str, ib_str_tuple, ib_str_list, ib_str_dict, ib_tuple_int, ib_tuple_bool, ib_tuple_str, ib_tuple_tuple, ib_tuple_list, ib_tuple_dict, ib_list_int, ib_list_bool, ib_list_str, ib_list_tuple, ib_list_list, ib_list_dict, ib_dict_int, ib_dict_bool, ib_dict_str, ib_dict_tuple, ib_dict_list, ib_dict_dict, Bool.not_true, Bool.not_false, true_and, and_true, decide_true, decide_false])
    rw [mm_last F.fit]
    exact q
  refine w_check (fun Q E q => ?_) ?_
  · (try simp only [mSeq, mIfS, mOr, mAnd, mNot, mTest, mOp, mUn, mVar, mOwn, mC, mRet, mRetN, mNext, mAsg, mAsgO, mName, mGTup, mGCons, mGNil, mFor, mRng1, mRng2, mRng3, mCons, mNil, mPar, mParO, mParP, mDrop, mFz, mApp, mExt, mSetL, mLc, mYes, mSeqI, mOwnI, mOrI, mEnumL, mEnumT, mZip, mZipM, mOr2, mRevL, mRevT, mSl, mNoP, mP, mTup, mLst, mCb, mIf, mAndV, mOrV, mNotV, mChain, mBrk, mCnt, mNever, mAug, mCall0, mCallK0, hAdd, hSub, hInt, hIntC, hAnd, hDiv, hMod, hPow, hMul, hNeg, hCmp, hLt, hLe, hGt, hGe, hIx, hIxX, hLen, hIsi, hTuple, hList, hInt1, hAbs, D.isN, hIs, hNis, D.items, D.plain, D.kind, hEq_int, hNe_int, hEq_str, hNe_str, hEq_tups, hNe_tups, hEq_lsts, hNe_lsts, wipeE, List.map_cons, List.map_nil, List.replicate_succ, List.replicate_zero, List.cons_append, List.nil_append, List.getElem?_cons_zero, List.getElem?_cons_succ, List.set_cons_zero, List.set_cons_succ, List.length_cons, List.length_nil, Nat.reduceAdd, Nat.reduceSub, inT_int, inT_bool, inT_str, inT_tuple, inT_list, inT_dict, ib_NoneType_int, ib_NoneType_bool, ib_NoneType_str, ib_NoneType_tuple, ib_NoneType_list, ib_NoneType_dict, ib_bool_int, ib_bool_bool, ib_bool_str, ib_bool_tuple, ib_bool_list, ib_bool_dict, ib_int_int, ib_int_bool, ib_int_str, ib_int_tuple, ib_int_list, ib_int_dict, ib_str_int, ib_str_bool, ib_str_str, ib_str_tuple, ib_str_list, ib_str_dict, ib_tuple_int, ib_tuple_bool, ib_tuple_str, ib_tuple_tuple, ib_tuple_list, ib_tuple_dict, ib_list_int, ib_list_bool, ib_list_str, ib_list_tuple, ib_list_list, ib_list_dict, ib_dict_int, ib_dict_bool, ib_dict_str, ib_dict_tuple, ib_dict_list, ib_dict_dict, Bool.not_true, Bool.not_false, true_and, and_true, decide_true, decide_false])
    have e : ((c.length : Int) - 1).toNat = c.length - 1 := by omega
    rw [e, rng_map]
    refine ⟨by omega, by omega, by omega, by omega, by rw [List.length_map, List.length_range]; omega, ?_⟩
    refine lcL_map _ (fun _ => .non) (fun _ => false) (fun a ha nx hn => ?_) ?_
    · have ha := List.mem_range.mp ha
      (try simp only [mSeq, mIfS, mOr, mAnd, mNot, mTest, mOp, mUn, mVar, mOwn, mC, mRet, mRetN, mNext, mAsg, mAsgO, mName, mGTup, mGCons, mGNil, mFor, mRng1, mRng2, mRng3, mCons, mNil, mPar, mParO, mParP, mDrop, mFz, mApp, mExt, mSetL, mLc, mYes, mSeqI, mOwnI, mOrI, mEnumL, mEnumT, mZip, mZipM, mOr2, mRevL, mRevT, mSl, mNoP, mP, mTup, mLst, mCb, mIf, mAndV, mOrV, mNotV, mChain, mBrk, mCnt, mNever, mAug, mCall0, mCallK0, hAdd, hSub, hInt, hIntC, hAnd, hDiv, hMod, hPow, hMul, hNeg, hCmp, hLt, hLe, hGt, hGe, hIx, hIxX, hLen, hIsi, hTuple, hList, hInt1, hAbs, D.isN, hIs, hNis, D.items, D.plain, D.kind, hEq_int, hNe_int, hEq_str, hNe_str, hEq_tups, hNe_tups, hEq_lsts, hNe_lsts, wipeE, List.map_cons, List.map_nil, List.replicate_succ, List.replicate_zero, List.cons_append, List.nil_append, List.getElem?_cons_zero, List.getElem?_cons_succ, List.set_cons_zero, List.set_cons_succ, List.length_cons, List.length_nil, Nat.reduceAdd, Nat.reduceSub, inT_int, inT_bool, inT_str, inT_tuple, inT_list, inT_dict, ib_NoneType_int, ib_NoneType_bool, ib_NoneType_str, ib_NoneType_tuple, ib_NoneType_list, ib_NoneType_dict, ib_bool_int, ib_bool_bool, ib_bool_str, ib_bool_tuple, ib_bool_list, ib_bool_dict, ib_int_int, ib_int_bool, ib_int_str, ib_int_tuple, ib_int_list, ib_int_dict, ib_str_int, ib_str_bool, ib_str_str, ib_str_tuple, ib_str_list, ib_str_dict, ib_tuple_int, ib_tuple_bool, ib_tuple_str, ib_tuple_tuple, ib_tuple_list, ib_tuple_dict, ib_list_int, ib_list_bool, ib_list_str, ib_list_tuple, ib_list_list, ib_list_dict, ib_dict_int, ib_dict_bool, ib_dict_str, ib_dict_tuple, ib_dict_list, ib_dict_dict, Bool.not_true, Bool.not_false, true_and, and_true, decide_true, decide_false])
      refine hn _ (fun Qb hq => ?_) (fun z => by cases z)
      (try simp only [mSeq, mIfS, mOr, mAnd, mNot, mTest, mOp, mUn, mVar, mOwn, mC, mRet, mRetN, mNext, mAsg, mAsgO, mName, mGTup, mGCons, mGNil, mFor, mRng1, mRng2, mRng3, mCons, mNil, mPar, mParO, mParP, mDrop, mFz, mApp, mExt, mSetL, mLc, mYes, mSeqI, mOwnI, mOrI, mEnumL, mEnumT, mZip, mZipM, mOr2, mRevL, mRevT, mSl, mNoP, mP, mTup, mLst, mCb, mIf, mAndV, mOrV, mNotV, mChain, mBrk, mCnt, mNever, mAug, mCall0, mCallK0, hAdd, hSub, hInt, hIntC, hAnd, hDiv, hMod, hPow, hMul, hNeg, hCmp, hLt, hLe, hGt, hGe, hIx, hIxX, hLen, hIsi, hTuple, hList, hInt1, hAbs, D.isN, hIs, hNis, D.items, D.plain, D.kind, hEq_int, hNe_int, hEq_str, hNe_str, hEq_tups, hNe_tups, hEq_lsts, hNe_lsts, wipeE, List.map_cons, List.map_nil, List.replicate_succ, List.replicate_zero, List.cons_append, List.nil_append, List.getElem?_cons_zero, List.getElem?_cons_succ, List.set_cons_zero, List.set_cons_succ, List.length_cons, List.length_nil, Nat.reduceAdd, Nat.reduceSub, inT_int, inT_bool, inT_str, inT_tuple, inT_list, inT_dict, ib_NoneType_int, ib_NoneType_bool, ib_NoneType_str, ib_NoneType_tuple, ib_NoneType_list, ib_NoneType_dict, ib_bool_int, ib_bool_bool, ib_bool_str, ib_bool_tuple, ib_bool_list, ib_bool_dict, ib_int_int, ib_int_bool, ib_int_str, ib_int_tuple, ib_int_list, ib_int_dict, ib_str_int, ib_str_bool, ib_str_str, ib_str_tuple, ib_str_list, ib_str_dict, ib_tuple_int, ib_tuple_bool, ib_tuple_str, ib_tuple_tuple, ib_tuple_list, ib_tuple_dict, ib_list_int, ib_list_bool, ib_list_str, ib_list_tuple, ib_list_list, ib_list_dict, ib_dict_int, ib_dict_bool, ib_dict_str, ib_dict_tuple, ib_dict_list, ib_dict_dict, Bool.not_true, Bool.not_false, true_and, and_true, decide_true, decide_false])
      have e1 : (1 : Int) + (a : Int) = ((1 + a : Nat) : Int) := by omega
      rw [e1]
      refine ⟨_, at_lst (k := 1 + a) rfl (by omega), ?_⟩
      exact s_law_is_least F (by omega) hq
    · rw [show (List.range (c.length - 1)).filter (fun _ => false) = [] from List.filter_eq_nil_iff.mpr (by simp)]
      refine ⟨by decide, ?_⟩
      rw [show (List.map (fun _ => D.non) ([] : List Nat)) = il [] from rfl, show ([] : List D) = il [] from rfl, hNe_lsts]
      (try simp only [mSeq, mIfS, mOr, mAnd, mNot, mTest, mOp, mUn, mVar, mOwn, mC, mRet, mRetN, mNext, mAsg, mAsgO, mName, mGTup, mGCons, mGNil, mFor, mRng1, mRng2, mRng3, mCons, mNil, mPar, mParO, mParP, mDrop, mFz, mApp, mExt, mSetL, mLc, mYes, mSeqI, mOwnI, mOrI, mEnumL, mEnumT, mZip, mZipM, mOr2, mRevL, mRevT, mSl, mNoP, mP, mTup, mLst, mCb, mIf, mAndV, mOrV, mNotV, mChain, mBrk, mCnt, mNever, mAug, mCall0, mCallK0, hAdd, hSub, hInt, hIntC, hAnd, hDiv, hMod, hPow, hMul, hNeg, hCmp, hLt, hLe, hGt, hGe, hIx, hIxX, hLen, hIsi, hTuple, hList, hInt1, hAbs, D.isN, hIs, hNis, D.items, D.plain, D.kind, hEq_int, hNe_int, hEq_str, hNe_str, hEq_tups, hNe_tups, hEq_lsts, hNe_lsts, wipeE, List.map_cons, List.map_nil, List.replicate_succ, List.replicate_zero, List.cons_append, List.nil_append, List.getElem?_cons_zero, List.getElem?_cons_succ, List.set_cons_zero, List.set_cons_succ, List.length_cons, List.length_nil, Nat.reduceAdd, Nat.reduceSub, inT_int, inT_bool, inT_str, inT_tuple, inT_list, inT_dict, ib_NoneType_int, ib_NoneType_bool, ib_NoneType_str, ib_NoneType_tuple, ib_NoneType_list, ib_NoneType_dict, ib_bool_int, ib_bool_bool, ib_bool_str, ib_bool_tuple, ib_bool_list, ib_bool_dict, ib_int_int, ib_int_bool, ib_int_str, ib_int_tuple, ib_int_list, ib_int_dict, ib_str_int, ib_str_bool, ib_str_str, ib_str_tuple, ib_str_list, ib_str_dict, ib_tuple_int, ib_tuple_bool, ib_tuple_str, ib_tuple_tuple, ib_tuple_list, ib_tuple_dict, ib_list_int, ib_list_bool, ib_list_str, ib_list_tuple, ib_list_list, ib_list_dict, ib_dict_int, ib_dict_bool, ib_dict_str, ib_dict_tuple, ib_dict_list, ib_dict_dict, Bool.not_true, Bool.not_false, true_and, and_true, decide_true, decide_false])
      exact q
  (try simp only [mGTup, mGCons, mGNil, mName, List.set_cons_zero, List.set_cons_succ, List.length_cons, List.length_nil, Nat.reduceAdd, true_and, and_true, List.map_cons, List.map_nil, List.replicate_succ, List.replicate_zero, List.cons_append, List.nil_append, Nat.reduceSub])
  -- most
  refine w_asg (.tup (nl (mst c))) (fun Q E q => ?_) ?_
  · (try simp only [mSeq, mIfS, mOr, mAnd, mNot, mTest, mOp, mUn, mVar, mOwn, mC, mRet, mRetN, mNext, mAsg, mAsgO, mName, mGTup, mGCons, mGNil, mFor, mRng1, mRng2, mRng3, mCons, mNil, mPar, mParO, mParP, mDrop, mFz, mApp, mExt, mSetL, mLc, mYes, mSeqI, mOwnI, mOrI, mEnumL, mEnumT, mZip, mZipM, mOr2, mRevL, mRevT, mSl, mNoP, mP, mTup, mLst, mCb, mIf, mAndV, mOrV, mNotV, mChain, mBrk, mCnt, mNever, mAug, mCall0, mCallK0, hAdd, hSub, hInt, hIntC, hAnd, hDiv, hMod, hPow, hMul, hNeg, hCmp, hLt, hLe, hGt, hGe, hIx, hIxX, hLen, hIsi, hTuple, hList, hInt1, hAbs, D.isN, hIs, hNis, D.items, D.plain, D.kind, hEq_int, hNe_int, hEq_str, hNe_str, hEq_tups, hNe_tups, hEq_lsts, hNe_lsts, wipeE, List.map_cons, List.map_nil, List.replicate_succ, List.replicate_zero, List.cons_append, List.nil_append, List.getElem?_cons_zero, List.getElem?_cons_succ, List.set_cons_zero, List.set_cons_succ, List.length_cons, List.length_nil, Nat.reduceAdd, Nat.reduceSub, inT_int, inT_bool, inT_str, inT_tuple, inT_list, inT_dict, ib_NoneType_int, ib_NoneType_bool, ib_NoneType_str, ib_NoneType_tuple, ib_NoneType_list, ib_NoneType_dict, ib_bool_int, ib_bool_bool, ib_bool_str, ib_bool_tuple, ib_bool_list, ib_bool_dict, ib_int_int, ib_int_bool, ib_int_str, ib_int_tuple, ib_int_list, ib_int_dict, ib_str_int, ib_str_bool, ib_str_str, ib_str_tuple, ib_str_list, ib_str_dict, ib_tuple_int, ib_tuple_bool, ib_tuple_str, ib_tuple_tuple, ib_tuple_list, ib_tuple_dict, ib_list_int, ib_list_bool, ib_list_str, ib_list_tuple, ib_list_list, ib_list_dict, ib_dict_int, ib_dict_bool, ib_dict_str, ib_dict_tuple, ib_dict_list, ib_dict_dict, Bool.not_true, Bool.not_false, true_and, and_true, decide_true, decide_false])
    refine ⟨by omega, by omega, by rw [rng_len]; omega, ?_⟩
    rw [show ((c.length : Nat) : Int).toNat = c.length by omega, rng_map]
    refine lcL_all _ (fun k => .int ((c.getD k 0 - mm c k - mm c (k + 1) : Nat) : Int)) (fun k hk Qd hd => ?_) ?_
    · have hk := List.mem_range.mp hk
      (try simp only [mSeq, mIfS, mOr, mAnd, mNot, mTest, mOp, mUn, mVar, mOwn, mC, mRet, mRetN, mNext, mAsg, mAsgO, mName, mGTup, mGCons, mGNil, mFor, mRng1, mRng2, mRng3, mCons, mNil, mPar, mParO, mParP, mDrop, mFz, mApp, mExt, mSetL, mLc, mYes, mSeqI, mOwnI, mOrI, mEnumL, mEnumT, mZip, mZipM, mOr2, mRevL, mRevT, mSl, mNoP, mP, mTup, mLst, mCb, mIf, mAndV, mOrV, mNotV, mChain, mBrk, mCnt, mNever, mAug, mCall0, mCallK0, hAdd, hSub, hInt, hIntC, hAnd, hDiv, hMod, hPow, hMul, hNeg, hCmp, hLt, hLe, hGt, hGe, hIx, hIxX, hLen, hIsi, hTuple, hList, hInt1, hAbs, D.isN, hIs, hNis, D.items, D.plain, D.kind, hEq_int, hNe_int, hEq_str, hNe_str, hEq_tups, hNe_tups, hEq_lsts, hNe_lsts, wipeE, List.map_cons, List.map_nil, List.replicate_succ, List.replicate_zero, List.cons_append, List.nil_append, List.getElem?_cons_zero, List.getElem?_cons_succ, List.set_cons_zero, List.set_cons_succ, List.length_cons, List.length_nil, Nat.reduceAdd, Nat.reduceSub, inT_int, inT_bool, inT_str, inT_tuple, inT_list, inT_dict, ib_NoneType_int, ib_NoneType_bool, ib_NoneType_str, ib_NoneType_tuple, ib_NoneType_list, ib_NoneType_dict, ib_bool_int, ib_bool_bool, ib_bool_str, ib_bool_tuple, ib_bool_list, ib_bool_dict, ib_int_int, ib_int_bool, ib_int_str, ib_int_tuple, ib_int_list, ib_int_dict, ib_str_int, ib_str_bool, ib_str_str, ib_str_tuple, ib_str_list, ib_str_dict, ib_tuple_int, ib_tuple_bool, ib_tuple_str, ib_tuple_tuple, ib_tuple_list, ib_tuple_dict, ib_list_int, ib_list_bool, ib_list_str, ib_list_tuple, ib_list_list, ib_list_dict, ib_dict_int, ib_dict_bool, ib_dict_str, ib_dict_tuple, ib_dict_list, ib_dict_dict, Bool.not_true, Bool.not_false, true_and, and_true, decide_true, decide_false])
      refine ⟨_, at_nl (k := k) (by omega) hk, _, at_lst (k := k) (by omega) (by omega), ?_⟩
      (try simp only [mSeq, mIfS, mOr, mAnd, mNot, mTest, mOp, mUn, mVar, mOwn, mC, mRet, mRetN, mNext, mAsg, mAsgO, mName, mGTup, mGCons, mGNil, mFor, mRng1, mRng2, mRng3, mCons, mNil, mPar, mParO, mParP, mDrop, mFz, mApp, mExt, mSetL, mLc, mYes, mSeqI, mOwnI, mOrI, mEnumL, mEnumT, mZip, mZipM, mOr2, mRevL, mRevT, mSl, mNoP, mP, mTup, mLst, mCb, mIf, mAndV, mOrV, mNotV, mChain, mBrk, mCnt, mNever, mAug, mCall0, mCallK0, hAdd, hSub, hInt, hIntC, hAnd, hDiv, hMod, hPow, hMul, hNeg, hCmp, hLt, hLe, hGt, hGe, hIx, hIxX, hLen, hIsi, hTuple, hList, hInt1, hAbs, D.isN, hIs, hNis, D.items, D.plain, D.kind, hEq_int, hNe_int, hEq_str, hNe_str, hEq_tups, hNe_tups, hEq_lsts, hNe_lsts, wipeE, List.map_cons, List.map_nil, List.replicate_succ, List.replicate_zero, List.cons_append, List.nil_append, List.getElem?_cons_zero, List.getElem?_cons_succ, List.set_cons_zero, List.set_cons_succ, List.length_cons, List.length_nil, Nat.reduceAdd, Nat.reduceSub, inT_int, inT_bool, inT_str, inT_tuple, inT_list, inT_dict, ib_NoneType_int, ib_NoneType_bool, ib_NoneType_str, ib_NoneType_tuple, ib_NoneType_list, ib_NoneType_dict, ib_bool_int, ib_bool_bool, ib_bool_str, ib_bool_tuple, ib_bool_list, ib_bool_dict, ib_int_int, ib_int_bool, ib_int_str, ib_int_tuple, ib_int_list, ib_int_dict, ib_str_int, ib_str_bool, ib_str_str, ib_str_tuple, ib_str_list, ib_str_dict, ib_tuple_int, ib_tuple_bool, ib_tuple_str, ib_tuple_tuple, ib_tuple_list, ib_tuple_dict, ib_list_int, ib_list_bool, ib_list_str, ib_list_tuple, ib_list_list, ib_list_dict, ib_dict_int, ib_dict_bool, ib_dict_str, ib_dict_tuple, ib_dict_list, ib_dict_dict, Bool.not_true, Bool.not_false, true_and, and_true, decide_true, decide_false])
      refine ⟨_, at_lst (k := k + 1) (by omega) (by omega), ?_⟩
      (try simp only [mSeq, mIfS, mOr, mAnd, mNot, mTest, mOp, mUn, mVar, mOwn, mC, mRet, mRetN, mNext, mAsg, mAsgO, mName, mGTup, mGCons, mGNil, mFor, mRng1, mRng2, mRng3, mCons, mNil, mPar, mParO, mParP, mDrop, mFz, mApp, mExt, mSetL, mLc, mYes, mSeqI, mOwnI, mOrI, mEnumL, mEnumT, mZip, mZipM, mOr2, mRevL, mRevT, mSl, mNoP, mP, mTup, mLst, mCb, mIf, mAndV, mOrV, mNotV, mChain, mBrk, mCnt, mNever, mAug, mCall0, mCallK0, hAdd, hSub, hInt, hIntC, hAnd, hDiv, hMod, hPow, hMul, hNeg, hCmp, hLt, hLe, hGt, hGe, hIx, hIxX, hLen, hIsi, hTuple, hList, hInt1, hAbs, D.isN, hIs, hNis, D.items, D.plain, D.kind, hEq_int, hNe_int, hEq_str, hNe_str, hEq_tups, hNe_tups, hEq_lsts, hNe_lsts, wipeE, List.map_cons, List.map_nil, List.replicate_succ, List.replicate_zero, List.cons_append, List.nil_append, List.getElem?_cons_zero, List.getElem?_cons_succ, List.set_cons_zero, List.set_cons_succ, List.length_cons, List.length_nil, Nat.reduceAdd, Nat.reduceSub, inT_int, inT_bool, inT_str, inT_tuple, inT_list, inT_dict, ib_NoneType_int, ib_NoneType_bool, ib_NoneType_str, ib_NoneType_tuple, ib_NoneType_list, ib_NoneType_dict, ib_bool_int, ib_bool_bool, ib_bool_str, ib_bool_tuple, ib_bool_list, ib_bool_dict, ib_int_int, ib_int_bool, ib_int_str, ib_int_tuple, ib_int_list, ib_int_dict, ib_str_int, ib_str_bool, ib_str_str, ib_str_tuple, ib_str_list, ib_str_dict, ib_tuple_int, ib_tuple_bool, ib_tuple_str, ib_tuple_tuple, ib_tuple_list, ib_tuple_dict, ib_list_int, ib_list_bool, ib_list_str, ib_list_tuple, ib_list_list, ib_list_dict, ib_dict_int, ib_dict_bool, ib_dict_str, ib_dict_tuple, ib_dict_list, ib_dict_dict, Bool.not_true, Bool.not_false, true_and, and_true, decide_true, decide_false])
      rw [most_int F.fit hk]
      exact hd
    · (try simp only [mSeq, mIfS, mOr, mAnd, mNot, mTest, mOp, mUn, mVar, mOwn, mC, mRet, mRetN, mNext, mAsg, mAsgO, mName, mGTup, mGCons, mGNil, mFor, mRng1, mRng2, mRng3, mCons, mNil, mPar, mParO, mParP, mDrop, mFz, mApp, mExt, mSetL, mLc, mYes, mSeqI, mOwnI, mOrI, mEnumL, mEnumT, mZip, mZipM, mOr2, mRevL, mRevT, mSl, mNoP, mP, mTup, mLst, mCb, mIf, mAndV, mOrV, mNotV, mChain, mBrk, mCnt, mNever, mAug, mCall0, mCallK0, hAdd, hSub, hInt, hIntC, hAnd, hDiv, hMod, hPow, hMul, hNeg, hCmp, hLt, hLe, hGt, hGe, hIx, hIxX, hLen, hIsi, hTuple, hList, hInt1, hAbs, D.isN, hIs, hNis, D.items, D.plain, D.kind, hEq_int, hNe_int, hEq_str, hNe_str, hEq_tups, hNe_tups, hEq_lsts, hNe_lsts, wipeE, List.map_cons, List.map_nil, List.replicate_succ, List.replicate_zero, List.cons_append, List.nil_append, List.getElem?_cons_zero, List.getElem?_cons_succ, List.set_cons_zero, List.set_cons_succ, List.length_cons, List.length_nil, Nat.reduceAdd, Nat.reduceSub, inT_int, inT_bool, inT_str, inT_tuple, inT_list, inT_dict, ib_NoneType_int, ib_NoneType_bool, ib_NoneType_str, ib_NoneType_tuple, ib_NoneType_list, ib_NoneType_dict, ib_bool_int, ib_bool_bool, ib_bool_str, ib_bool_tuple, ib_bool_list, ib_bool_dict, ib_int_int, ib_int_bool, ib_int_str, ib_int_tuple, ib_int_list, ib_int_dict, ib_str_int, ib_str_bool, ib_str_str, ib_str_tuple, ib_str_list, ib_str_dict, ib_tuple_int, ib_tuple_bool, ib_tuple_str, ib_tuple_tuple, ib_tuple_list, ib_tuple_dict, ib_list_int, ib_list_bool, ib_list_str, ib_list_tuple, ib_list_list, ib_list_dict, ib_dict_int, ib_dict_bool, ib_dict_str, ib_dict_tuple, ib_dict_list, ib_dict_dict, Bool.not_true, Bool.not_false, true_and, and_true, decide_true, decide_false])
      unfold mst at q
      rw [nl_map] at q
      exact q
  (try simp only [mGTup, mGCons, mGNil, mName, List.set_cons_zero, List.set_cons_succ, List.length_cons, List.length_nil, Nat.reduceAdd, true_and, and_true, List.map_cons, List.map_nil, List.replicate_succ, List.replicate_zero, List.cons_append, List.nil_append, Nat.reduceSub])
  refine w_asg (.tup (il (few c))) (fun Q E q => ?_) ?_
  · (try simp only [mSeq, mIfS, mOr, mAnd, mNot, mTest, mOp, mUn, mVar, mOwn, mC, mRet, mRetN, mNext, mAsg, mAsgO, mName, mGTup, mGCons, mGNil, mFor, mRng1, mRng2, mRng3, mCons, mNil, mPar, mParO, mParP, mDrop, mFz, mApp, mExt, mSetL, mLc, mYes, mSeqI, mOwnI, mOrI, mEnumL, mEnumT, mZip, mZipM, mOr2, mRevL, mRevT, mSl, mNoP, mP, mTup, mLst, mCb, mIf, mAndV, mOrV, mNotV, mChain, mBrk, mCnt, mNever, mAug, mCall0, mCallK0, hAdd, hSub, hInt, hIntC, hAnd, hDiv, hMod, hPow, hMul, hNeg, hCmp, hLt, hLe, hGt, hGe, hIx, hIxX, hLen, hIsi, hTuple, hList, hInt1, hAbs, D.isN, hIs, hNis, D.items, D.plain, D.kind, hEq_int, hNe_int, hEq_str, hNe_str, hEq_tups, hNe_tups, hEq_lsts, hNe_lsts, wipeE, List.map_cons, List.map_nil, List.replicate_succ, List.replicate_zero, List.cons_append, List.nil_append, List.getElem?_cons_zero, List.getElem?_cons_succ, List.set_cons_zero, List.set_cons_succ, List.length_cons, List.length_nil, Nat.reduceAdd, Nat.reduceSub, inT_int, inT_bool, inT_str, inT_tuple, inT_list, inT_dict, ib_NoneType_int, ib_NoneType_bool, ib_NoneType_str, ib_NoneType_tuple, ib_NoneType_list, ib_NoneType_dict, ib_bool_int, ib_bool_bool, ib_bool_str, ib_bool_tuple, ib_bool_list, ib_bool_dict, ib_int_int, ib_int_bool, ib_int_str, ib_int_tuple, ib_int_list, ib_int_dict, ib_str_int, ib_str_bool, ib_str_str, ib_str_tuple, ib_str_list, ib_str_dict, ib_tuple_int, ib_tuple_bool, ib_tuple_str, ib_tuple_tuple, ib_tuple_list, ib_tuple_dict, ib_list_int, ib_list_bool, ib_list_str, ib_list_tuple, ib_list_list, ib_list_dict, ib_dict_int, ib_dict_bool, ib_dict_str, ib_dict_tuple, ib_dict_list, ib_dict_dict, Bool.not_true, Bool.not_false, true_and, and_true, decide_true, decide_false])
    exact s_law_least_holes F q
  (try simp only [mGTup, mGCons, mGNil, mName, List.set_cons_zero, List.set_cons_succ, List.length_cons, List.length_nil, Nat.reduceAdd, true_and, and_true, List.map_cons, List.map_nil, List.replicate_succ, List.replicate_zero, List.cons_append, List.nil_append, Nat.reduceSub])
  have okm : Ok 100 1 (.tup (nl (mst c))) := ok_c (fun k => Nat.lt_of_le_of_lt (mst_le k) (F.sml k)) (by rw [mst_len]; omega)
  refine w_check (fun Q E q => ?_) ?_
  · (try simp only [mSeq, mIfS, mOr, mAnd, mNot, mTest, mOp, mUn, mVar, mOwn, mC, mRet, mRetN, mNext, mAsg, mAsgO, mName, mGTup, mGCons, mGNil, mFor, mRng1, mRng2, mRng3, mCons, mNil, mPar, mParO, mParP, mDrop, mFz, mApp, mExt, mSetL, mLc, mYes, mSeqI, mOwnI, mOrI, mEnumL, mEnumT, mZip, mZipM, mOr2, mRevL, mRevT, mSl, mNoP, mP, mTup, mLst, mCb, mIf, mAndV, mOrV, mNotV, mChain, mBrk, mCnt, mNever, mAug, mCall0, mCallK0, hAdd, hSub, hInt, hIntC, hAnd, hDiv, hMod, hPow, hMul, hNeg, hCmp, hLt, hLe, hGt, hGe, hIx, hIxX, hLen, hIsi, hTuple, hList, hInt1, hAbs, D.isN, hIs, hNis, D.items, D.plain, D.kind, hEq_int, hNe_int, hEq_str, hNe_str, hEq_tups, hNe_tups, hEq_lsts, hNe_lsts, wipeE, List.map_cons, List.map_nil, List.replicate_succ, List.replicate_zero, List.cons_append, List.nil_append, List.getElem?_cons_zero, List.getElem?_cons_succ, List.set_cons_zero, List.set_cons_succ, List.length_cons, List.length_nil, Nat.reduceAdd, Nat.reduceSub, inT_int, inT_bool, inT_str, inT_tuple, inT_list, inT_dict, ib_NoneType_int, ib_NoneType_bool, ib_NoneType_str, ib_NoneType_tuple, ib_NoneType_list, ib_NoneType_dict, ib_bool_int, ib_bool_bool, ib_bool_str, ib_bool_tuple, ib_bool_list, ib_bool_dict, ib_int_int, ib_int_bool, ib_int_str, ib_int_tuple, ib_int_list, ib_int_dict, ib_str_int, ib_str_bool, ib_str_str, ib_str_tuple, ib_str_list, ib_str_dict, ib_tuple_int, ib_tuple_bool, ib_tuple_str, ib_tuple_tuple, ib_tuple_list, ib_tuple_dict, ib_list_int, ib_list_bool, ib_list_str, ib_list_tuple, ib_list_list, ib_list_dict, ib_dict_int, ib_dict_bool, ib_dict_str, ib_dict_tuple, ib_dict_list, ib_dict_dict, Bool.not_true, Bool.not_false, true_and, and_true, decide_true, decide_false])
    refine s_most_holes F ?_
    refine w_repr okm rfl ?_
    refine w_repr okm rfl ?_
    (try simp only [mSeq, mIfS, mOr, mAnd, mNot, mTest, mOp, mUn, mVar, mOwn, mC, mRet, mRetN, mNext, mAsg, mAsgO, mName, mGTup, mGCons, mGNil, mFor, mRng1, mRng2, mRng3, mCons, mNil, mPar, mParO, mParP, mDrop, mFz, mApp, mExt, mSetL, mLc, mYes, mSeqI, mOwnI, mOrI, mEnumL, mEnumT, mZip, mZipM, mOr2, mRevL, mRevT, mSl, mNoP, mP, mTup, mLst, mCb, mIf, mAndV, mOrV, mNotV, mChain, mBrk, mCnt, mNever, mAug, mCall0, mCallK0, hAdd, hSub, hInt, hIntC, hAnd, hDiv, hMod, hPow, hMul, hNeg, hCmp, hLt, hLe, hGt, hGe, hIx, hIxX, hLen, hIsi, hTuple, hList, hInt1, hAbs, D.isN, hIs, hNis, D.items, D.plain, D.kind, hEq_int, hNe_int, hEq_str, hNe_str, hEq_tups, hNe_tups, hEq_lsts, hNe_lsts, wipeE, List.map_cons, List.map_nil, List.replicate_succ, List.replicate_zero, List.cons_append, List.nil_append, List.getElem?_cons_zero, List.getElem?_cons_succ, List.set_cons_zero, List.set_cons_succ, List.length_cons, List.length_nil, Nat.reduceAdd, Nat.reduceSub, inT_int, inT_bool, inT_str, inT_tuple, inT_list, inT_dict, ib_NoneType_int, ib_NoneType_bool, ib_NoneType_str, ib_NoneType_tuple, ib_NoneType_list, ib_NoneType_dict, ib_bool_int, ib_bool_bool, ib_bool_str, ib_bool_tuple, ib_bool_list, ib_bool_dict, ib_int_int, ib_int_bool, ib_int_str, ib_int_tuple, ib_int_list, ib_int_dict, ib_str_int, ib_str_bool, ib_str_str, ib_str_tuple, ib_str_list, ib_str_dict, ib_tuple_int, ib_tuple_bool, ib_tuple_str, ib_tuple_tuple, ib_tuple_list, ib_tuple_dict, ib_list_int, ib_list_bool, ib_list_str, ib_list_tuple, ib_list_list, ib_list_dict, ib_dict_int, ib_dict_bool, ib_dict_str, ib_dict_tuple, ib_dict_list, ib_dict_dict, Bool.not_true, Bool.not_false, true_and, and_true, decide_true, decide_false])
    refine ⟨rfl, ?_⟩
    refine s_least_holes F ?_
    refine w_repr (ok_few F) rfl ?_
    refine w_repr (ok_few F) rfl ?_
    (try simp only [mSeq, mIfS, mOr, mAnd, mNot, mTest, mOp, mUn, mVar, mOwn, mC, mRet, mRetN, mNext, mAsg, mAsgO, mName, mGTup, mGCons, mGNil, mFor, mRng1, mRng2, mRng3, mCons, mNil, mPar, mParO, mParP, mDrop, mFz, mApp, mExt, mSetL, mLc, mYes, mSeqI, mOwnI, mOrI, mEnumL, mEnumT, mZip, mZipM, mOr2, mRevL, mRevT, mSl, mNoP, mP, mTup, mLst, mCb, mIf, mAndV, mOrV, mNotV, mChain, mBrk, mCnt, mNever, mAug, mCall0, mCallK0, hAdd, hSub, hInt, hIntC, hAnd, hDiv, hMod, hPow, hMul, hNeg, hCmp, hLt, hLe, hGt, hGe, hIx, hIxX, hLen, hIsi, hTuple, hList, hInt1, hAbs, D.isN, hIs, hNis, D.items, D.plain, D.kind, hEq_int, hNe_int, hEq_str, hNe_str, hEq_tups, hNe_tups, hEq_lsts, hNe_lsts, wipeE, List.map_cons, List.map_nil, List.replicate_succ, List.replicate_zero, List.cons_append, List.nil_append, List.getElem?_cons_zero, List.getElem?_cons_succ, List.set_cons_zero, List.set_cons_succ, List.length_cons, List.length_nil, Nat.reduceAdd, Nat.reduceSub, inT_int, inT_bool, inT_str, inT_tuple, inT_list, inT_dict, ib_NoneType_int, ib_NoneType_bool, ib_NoneType_str, ib_NoneType_tuple, ib_NoneType_list, ib_NoneType_dict, ib_bool_int, ib_bool_bool, ib_bool_str, ib_bool_tuple, ib_bool_list, ib_bool_dict, ib_int_int, ib_int_bool, ib_int_str, ib_int_tuple, ib_int_list, ib_int_dict, ib_str_int, ib_str_bool, ib_str_str, ib_str_tuple, ib_str_list, ib_str_dict, ib_tuple_int, ib_tuple_bool, ib_tuple_str, ib_tuple_tuple, ib_tuple_list, ib_tuple_dict, ib_list_int, ib_list_bool, ib_list_str, ib_list_tuple, ib_list_list, ib_list_dict, ib_dict_int, ib_dict_bool, ib_dict_str, ib_dict_tuple, ib_dict_list, ib_dict_dict, Bool.not_true, Bool.not_false, true_and, and_true, decide_true, decide_false])
    exact q
  refine w_check (fun Q E q => ?_) ?_
  · (try simp only [mSeq, mIfS, mOr, mAnd, mNot, mTest, mOp, mUn, mVar, mOwn, mC, mRet, mRetN, mNext, mAsg, mAsgO, mName, mGTup, mGCons, mGNil, mFor, mRng1, mRng2, mRng3, mCons, mNil, mPar, mParO, mParP, mDrop, mFz, mApp, mExt, mSetL, mLc, mYes, mSeqI, mOwnI, mOrI, mEnumL, mEnumT, mZip, mZipM, mOr2, mRevL, mRevT, mSl, mNoP, mP, mTup, mLst, mCb, mIf, mAndV, mOrV, mNotV, mChain, mBrk, mCnt, mNever, mAug, mCall0, mCallK0, hAdd, hSub, hInt, hIntC, hAnd, hDiv, hMod, hPow, hMul, hNeg, hCmp, hLt, hLe, hGt, hGe, hIx, hIxX, hLen, hIsi, hTuple, hList, hInt1, hAbs, D.isN, hIs, hNis, D.items, D.plain, D.kind, hEq_int, hNe_int, hEq_str, hNe_str, hEq_tups, hNe_tups, hEq_lsts, hNe_lsts, wipeE, List.map_cons, List.map_nil, List.replicate_succ, List.replicate_zero, List.cons_append, List.nil_append, List.getElem?_cons_zero, List.getElem?_cons_succ, List.set_cons_zero, List.set_cons_succ, List.length_cons, List.length_nil, Nat.reduceAdd, Nat.reduceSub, inT_int, inT_bool, inT_str, inT_tuple, inT_list, inT_dict, ib_NoneType_int, ib_NoneType_bool, ib_NoneType_str, ib_NoneType_tuple, ib_NoneType_list, ib_NoneType_dict, ib_bool_int, ib_bool_bool, ib_bool_str, ib_bool_tuple, ib_bool_list, ib_bool_dict, ib_int_int, ib_int_bool, ib_int_str, ib_int_tuple, ib_int_list, ib_int_dict, ib_str_int, ib_str_bool, ib_str_str, ib_str_tuple, ib_str_list, ib_str_dict, ib_tuple_int, ib_tuple_bool, ib_tuple_str, ib_tuple_tuple, ib_tuple_list, ib_tuple_dict, ib_list_int, ib_list_bool, ib_list_str, ib_list_tuple, ib_list_list, ib_list_dict, ib_dict_int, ib_dict_bool, ib_dict_str, ib_dict_tuple, ib_dict_list, ib_dict_dict, Bool.not_true, Bool.not_false, true_and, and_true, decide_true, decide_false])
    rw [nl_il, zip_map]
    refine ⟨by rw [List.length_map, List.length_zip, few_len]; omega, ?_⟩
    refine lcL_map _ (fun _ => .non) (fun _ => false) (fun a ha nx hn => ?_) ?_
    · obtain ⟨i, hi, e⟩ := List.getElem_of_mem ha
      have h1 := (List.getElem?_zip_eq_some (z := a)).mp (by rw [List.getElem?_eq_getElem hi, e])
      (try simp only [mSeq, mIfS, mOr, mAnd, mNot, mTest, mOp, mUn, mVar, mOwn, mC, mRet, mRetN, mNext, mAsg, mAsgO, mName, mGTup, mGCons, mGNil, mFor, mRng1, mRng2, mRng3, mCons, mNil, mPar, mParO, mParP, mDrop, mFz, mApp, mExt, mSetL, mLc, mYes, mSeqI, mOwnI, mOrI, mEnumL, mEnumT, mZip, mZipM, mOr2, mRevL, mRevT, mSl, mNoP, mP, mTup, mLst, mCb, mIf, mAndV, mOrV, mNotV, mChain, mBrk, mCnt, mNever, mAug, mCall0, mCallK0, hAdd, hSub, hInt, hIntC, hAnd, hDiv, hMod, hPow, hMul, hNeg, hCmp, hLt, hLe, hGt, hGe, hIx, hIxX, hLen, hIsi, hTuple, hList, hInt1, hAbs, D.isN, hIs, hNis, D.items, D.plain, D.kind, hEq_int, hNe_int, hEq_str, hNe_str, hEq_tups, hNe_tups, hEq_lsts, hNe_lsts, wipeE, List.map_cons, List.map_nil, List.replicate_succ, List.replicate_zero, List.cons_append, List.nil_append, List.getElem?_cons_zero, List.getElem?_cons_succ, List.set_cons_zero, List.set_cons_succ, List.length_cons, List.length_nil, Nat.reduceAdd, Nat.reduceSub, inT_int, inT_bool, inT_str, inT_tuple, inT_list, inT_dict, ib_NoneType_int, ib_NoneType_bool, ib_NoneType_str, ib_NoneType_tuple, ib_NoneType_list, ib_NoneType_dict, ib_bool_int, ib_bool_bool, ib_bool_str, ib_bool_tuple, ib_bool_list, ib_bool_dict, ib_int_int, ib_int_bool, ib_int_str, ib_int_tuple, ib_int_list, ib_int_dict, ib_str_int, ib_str_bool, ib_str_str, ib_str_tuple, ib_str_list, ib_str_dict, ib_tuple_int, ib_tuple_bool, ib_tuple_str, ib_tuple_tuple, ib_tuple_list, ib_tuple_dict, ib_list_int, ib_list_bool, ib_list_str, ib_list_tuple, ib_list_list, ib_list_dict, ib_dict_int, ib_dict_bool, ib_dict_str, ib_dict_tuple, ib_dict_list, ib_dict_dict, Bool.not_true, Bool.not_false, true_and, and_true, decide_true, decide_false])
      refine hn _ (fun Qb hq => ?_) (fun z => by cases z)
      (try simp only [mSeq, mIfS, mOr, mAnd, mNot, mTest, mOp, mUn, mVar, mOwn, mC, mRet, mRetN, mNext, mAsg, mAsgO, mName, mGTup, mGCons, mGNil, mFor, mRng1, mRng2, mRng3, mCons, mNil, mPar, mParO, mParP, mDrop, mFz, mApp, mExt, mSetL, mLc, mYes, mSeqI, mOwnI, mOrI, mEnumL, mEnumT, mZip, mZipM, mOr2, mRevL, mRevT, mSl, mNoP, mP, mTup, mLst, mCb, mIf, mAndV, mOrV, mNotV, mChain, mBrk, mCnt, mNever, mAug, mCall0, mCallK0, hAdd, hSub, hInt, hIntC, hAnd, hDiv, hMod, hPow, hMul, hNeg, hCmp, hLt, hLe, hGt, hGe, hIx, hIxX, hLen, hIsi, hTuple, hList, hInt1, hAbs, D.isN, hIs, hNis, D.items, D.plain, D.kind, hEq_int, hNe_int, hEq_str, hNe_str, hEq_tups, hNe_tups, hEq_lsts, hNe_lsts, wipeE, List.map_cons, List.map_nil, List.replicate_succ, List.replicate_zero, List.cons_append, List.nil_append, List.getElem?_cons_zero, List.getElem?_cons_succ, List.set_cons_zero, List.set_cons_succ, List.length_cons, List.length_nil, Nat.reduceAdd, Nat.reduceSub, inT_int, inT_bool, inT_str, inT_tuple, inT_list, inT_dict, ib_NoneType_int, ib_NoneType_bool, ib_NoneType_str, ib_NoneType_tuple, ib_NoneType_list, ib_NoneType_dict, ib_bool_int, ib_bool_bool, ib_bool_str, ib_bool_tuple, ib_bool_list, ib_bool_dict, ib_int_int, ib_int_bool, ib_int_str, ib_int_tuple, ib_int_list, ib_int_dict, ib_str_int, ib_str_bool, ib_str_str, ib_str_tuple, ib_str_list, ib_str_dict, ib_tuple_int, ib_tuple_bool, ib_tuple_str, ib_tuple_tuple, ib_tuple_list, ib_tuple_dict, ib_list_int, ib_list_bool, ib_list_str, ib_list_tuple, ib_list_list, ib_list_dict, ib_dict_int, ib_dict_bool, ib_dict_str, ib_dict_tuple, ib_dict_list, ib_dict_dict, Bool.not_true, Bool.not_false, true_and, and_true, decide_true, decide_false])
      have hk : i < c.length := by rw [List.length_zip, few_len] at hi; omega
      have hf : a.1 = fewI c i := by
        have := h1.1
        unfold few at this
        rw [List.getElem?_map, List.getElem?_range hk] at this
        exact (Option.some.inj this).symm
      have hm : a.2 = ((mst c).getD i 0 : Nat) := by
        have := ints_at (mst c) i
        rw [List.getD_eq_getElem?_getD, h1.2] at this
        exact this
      have := few_le F.fit hk
      rw [decide_eq_false (show ¬ a.2 < a.1 by omega)]
      exact hq
    · rw [show ((few c).zip (izs (mst c))).filter (fun _ => false) = [] from List.filter_eq_nil_iff.mpr (by simp)]
      refine ⟨by decide, ?_⟩
      rw [show (List.map (fun _ => D.non) ([] : List (Int × Int))) = il [] from rfl, show ([] : List D) = il [] from rfl, hNe_lsts]
      (try simp only [mSeq, mIfS, mOr, mAnd, mNot, mTest, mOp, mUn, mVar, mOwn, mC, mRet, mRetN, mNext, mAsg, mAsgO, mName, mGTup, mGCons, mGNil, mFor, mRng1, mRng2, mRng3, mCons, mNil, mPar, mParO, mParP, mDrop, mFz, mApp, mExt, mSetL, mLc, mYes, mSeqI, mOwnI, mOrI, mEnumL, mEnumT, mZip, mZipM, mOr2, mRevL, mRevT, mSl, mNoP, mP, mTup, mLst, mCb, mIf, mAndV, mOrV, mNotV, mChain, mBrk, mCnt, mNever, mAug, mCall0, mCallK0, hAdd, hSub, hInt, hIntC, hAnd, hDiv, hMod, hPow, hMul, hNeg, hCmp, hLt, hLe, hGt, hGe, hIx, hIxX, hLen, hIsi, hTuple, hList, hInt1, hAbs, D.isN, hIs, hNis, D.items, D.plain, D.kind, hEq_int, hNe_int, hEq_str, hNe_str, hEq_tups, hNe_tups, hEq_lsts, hNe_lsts, wipeE, List.map_cons, List.map_nil, List.replicate_succ, List.replicate_zero, List.cons_append, List.nil_append, List.getElem?_cons_zero, List.getElem?_cons_succ, List.set_cons_zero, List.set_cons_succ, List.length_cons, List.length_nil, Nat.reduceAdd, Nat.reduceSub, inT_int, inT_bool, inT_str, inT_tuple, inT_list, inT_dict, ib_NoneType_int, ib_NoneType_bool, ib_NoneType_str, ib_NoneType_tuple, ib_NoneType_list, ib_NoneType_dict, ib_bool_int, ib_bool_bool, ib_bool_str, ib_bool_tuple, ib_bool_list, ib_bool_dict, ib_int_int, ib_int_bool, ib_int_str, ib_int_tuple, ib_int_list, ib_int_dict, ib_str_int, ib_str_bool, ib_str_str, ib_str_tuple, ib_str_list, ib_str_dict, ib_tuple_int, ib_tuple_bool, ib_tuple_str, ib_tuple_tuple, ib_tuple_list, ib_tuple_dict, ib_list_int, ib_list_bool, ib_list_str, ib_list_tuple, ib_list_list, ib_list_dict, ib_dict_int, ib_dict_bool, ib_dict_str, ib_dict_tuple, ib_dict_list, ib_dict_dict, Bool.not_true, Bool.not_false, true_and, and_true, decide_true, decide_false])
      refine s_has_hole_row F (by rw [List.length_map, mst_len]; omega) ?_
      rw [mst_hh F.fit]
      (try simp only [mSeq, mIfS, mOr, mAnd, mNot, mTest, mOp, mUn, mVar, mOwn, mC, mRet, mRetN, mNext, mAsg, mAsgO, mName, mGTup, mGCons, mGNil, mFor, mRng1, mRng2, mRng3, mCons, mNil, mPar, mParO, mParP, mDrop, mFz, mApp, mExt, mSetL, mLc, mYes, mSeqI, mOwnI, mOrI, mEnumL, mEnumT, mZip, mZipM, mOr2, mRevL, mRevT, mSl, mNoP, mP, mTup, mLst, mCb, mIf, mAndV, mOrV, mNotV, mChain, mBrk, mCnt, mNever, mAug, mCall0, mCallK0, hAdd, hSub, hInt, hIntC, hAnd, hDiv, hMod, hPow, hMul, hNeg, hCmp, hLt, hLe, hGt, hGe, hIx, hIxX, hLen, hIsi, hTuple, hList, hInt1, hAbs, D.isN, hIs, hNis, D.items, D.plain, D.kind, hEq_int, hNe_int, hEq_str, hNe_str, hEq_tups, hNe_tups, hEq_lsts, hNe_lsts, wipeE, List.map_cons, List.map_nil, List.replicate_succ, List.replicate_zero, List.cons_append, List.nil_append, List.getElem?_cons_zero, List.getElem?_cons_succ, List.set_cons_zero, List.set_cons_succ, List.length_cons, List.length_nil, Nat.reduceAdd, Nat.reduceSub, inT_int, inT_bool, inT_str, inT_tuple, inT_list, inT_dict, ib_NoneType_int, ib_NoneType_bool, ib_NoneType_str, ib_NoneType_tuple, ib_NoneType_list, ib_NoneType_dict, ib_bool_int, ib_bool_bool, ib_bool_str, ib_bool_tuple, ib_bool_list, ib_bool_dict, ib_int_int, ib_int_bool, ib_int_str, ib_int_tuple, ib_int_list, ib_int_dict, ib_str_int, ib_str_bool, ib_str_str, ib_str_tuple, ib_str_list, ib_str_dict, ib_tuple_int, ib_tuple_bool, ib_tuple_str, ib_tuple_tuple, ib_tuple_list, ib_tuple_dict, ib_list_int, ib_list_bool, ib_list_str, ib_list_tuple, ib_list_list, ib_list_dict, ib_dict_int, ib_dict_bool, ib_dict_str, ib_dict_tuple, ib_dict_list, ib_dict_dict, Bool.not_true, Bool.not_false, true_and, and_true, decide_true, decide_false])
      exact q
  (try simp only [mGTup, mGCons, mGNil, mName, List.set_cons_zero, List.set_cons_succ, List.length_cons, List.length_nil, Nat.reduceAdd, true_and, and_true, List.map_cons, List.map_nil, List.replicate_succ, List.replicate_zero, List.cons_append, List.nil_append, Nat.reduceSub])
  -- at, more
  refine w_parP (fun x y => ∃ (at_ : Nat) (e : Int), x = .int (at_ : Int) ∧ y = .int e ∧ at_ < c.length ∧ (e = 1 ∨ e = -1)) (fun Q E q => ?_) ?_
  · (try simp only [mSeq, mIfS, mOr, mAnd, mNot, mTest, mOp, mUn, mVar, mOwn, mC, mRet, mRetN, mNext, mAsg, mAsgO, mName, mGTup, mGCons, mGNil, mFor, mRng1, mRng2, mRng3, mCons, mNil, mPar, mParO, mParP, mDrop, mFz, mApp, mExt, mSetL, mLc, mYes, mSeqI, mOwnI, mOrI, mEnumL, mEnumT, mZip, mZipM, mOr2, mRevL, mRevT, mSl, mNoP, mP, mTup, mLst, mCb, mIf, mAndV, mOrV, mNotV, mChain, mBrk, mCnt, mNever, mAug, mCall0, mCallK0, hAdd, hSub, hInt, hIntC, hAnd, hDiv, hMod, hPow, hMul, hNeg, hCmp, hLt, hLe, hGt, hGe, hIx, hIxX, hLen, hIsi, hTuple, hList, hInt1, hAbs, D.isN, hIs, hNis, D.items, D.plain, D.kind, hEq_int, hNe_int, hEq_str, hNe_str, hEq_tups, hNe_tups, hEq_lsts, hNe_lsts, wipeE, List.map_cons, List.map_nil, List.replicate_succ, List.replicate_zero, List.cons_append, List.nil_append, List.getElem?_cons_zero, List.getElem?_cons_succ, List.set_cons_zero, List.set_cons_succ, List.length_cons, List.length_nil, Nat.reduceAdd, Nat.reduceSub, inT_int, inT_bool, inT_str, inT_tuple, inT_list, inT_dict, ib_NoneType_int, ib_NoneType_bool, ib_NoneType_str, ib_NoneType_tuple, ib_NoneType_list, ib_NoneType_dict, ib_bool_int, ib_bool_bool, ib_bool_str, ib_bool_tuple, ib_bool_list, ib_bool_dict, ib_int_int, ib_int_bool, ib_int_str, ib_int_tuple, ib_int_list, ib_int_dict, ib_str_int, ib_str_bool, ib_str_str, ib_str_tuple, ib_str_list, ib_str_dict, ib_tuple_int, ib_tuple_bool, ib_tuple_str, ib_tuple_tuple, ib_tuple_list, ib_tuple_dict, ib_list_int, ib_list_bool, ib_list_str, ib_list_tuple, ib_list_list, ib_list_dict, ib_dict_int, ib_dict_bool, ib_dict_str, ib_dict_tuple, ib_dict_list, ib_dict_dict, Bool.not_true, Bool.not_false, true_and, and_true, decide_true, decide_false])
    refine w_drawS (by omega) (by omega) fun z z0 z1 => ?_
    refine w_drawS (by decide) (by decide) fun y y0 y1 => ?_
    (try simp only [mSeq, mIfS, mOr, mAnd, mNot, mTest, mOp, mUn, mVar, mOwn, mC, mRet, mRetN, mNext, mAsg, mAsgO, mName, mGTup, mGCons, mGNil, mFor, mRng1, mRng2, mRng3, mCons, mNil, mPar, mParO, mParP, mDrop, mFz, mApp, mExt, mSetL, mLc, mYes, mSeqI, mOwnI, mOrI, mEnumL, mEnumT, mZip, mZipM, mOr2, mRevL, mRevT, mSl, mNoP, mP, mTup, mLst, mCb, mIf, mAndV, mOrV, mNotV, mChain, mBrk, mCnt, mNever, mAug, mCall0, mCallK0, hAdd, hSub, hInt, hIntC, hAnd, hDiv, hMod, hPow, hMul, hNeg, hCmp, hLt, hLe, hGt, hGe, hIx, hIxX, hLen, hIsi, hTuple, hList, hInt1, hAbs, D.isN, hIs, hNis, D.items, D.plain, D.kind, hEq_int, hNe_int, hEq_str, hNe_str, hEq_tups, hNe_tups, hEq_lsts, hNe_lsts, wipeE, List.map_cons, List.map_nil, List.replicate_succ, List.replicate_zero, List.cons_append, List.nil_append, List.getElem?_cons_zero, List.getElem?_cons_succ, List.set_cons_zero, List.set_cons_succ, List.length_cons, List.length_nil, Nat.reduceAdd, Nat.reduceSub, inT_int, inT_bool, inT_str, inT_tuple, inT_list, inT_dict, ib_NoneType_int, ib_NoneType_bool, ib_NoneType_str, ib_NoneType_tuple, ib_NoneType_list, ib_NoneType_dict, ib_bool_int, ib_bool_bool, ib_bool_str, ib_bool_tuple, ib_bool_list, ib_bool_dict, ib_int_int, ib_int_bool, ib_int_str, ib_int_tuple, ib_int_list, ib_int_dict, ib_str_int, ib_str_bool, ib_str_str, ib_str_tuple, ib_str_list, ib_str_dict, ib_tuple_int, ib_tuple_bool, ib_tuple_str, ib_tuple_tuple, ib_tuple_list, ib_tuple_dict, ib_list_int, ib_list_bool, ib_list_str, ib_list_tuple, ib_list_list, ib_list_dict, ib_dict_int, ib_dict_bool, ib_dict_str, ib_dict_tuple, ib_dict_list, ib_dict_dict, Bool.not_true, Bool.not_false, true_and, and_true, decide_true, decide_false])
    refine ⟨mulL, q _ _ ⟨z.toNat, 1 - 2 * y, by congr 1; omega, rfl, by omega, by omega⟩⟩
  rintro x y ⟨at_, e, rfl, rfl, ha, he⟩
  (try simp only [mGTup, mGCons, mGNil, mName, List.set_cons_zero, List.set_cons_succ, List.length_cons, List.length_nil, Nat.reduceAdd, true_and, and_true, List.map_cons, List.map_nil, List.replicate_succ, List.replicate_zero, List.cons_append, List.nil_append, Nat.reduceSub])
  -- other
  refine w_asgP (fun x => ∃ zs : List Int, x = .tup (il zs) ∧ zs.length = c.length ∧ zs.getD at_ 0 = ((mst c).getD at_ 0 : Nat) + e ∧ ∀ k, k ≠ at_ → zs.getD k 0 = ((mst c).getD k 0 : Nat)) (fun Q E q => ?_) ?_
  · (try simp only [mSeq, mIfS, mOr, mAnd, mNot, mTest, mOp, mUn, mVar, mOwn, mC, mRet, mRetN, mNext, mAsg, mAsgO, mName, mGTup, mGCons, mGNil, mFor, mRng1, mRng2, mRng3, mCons, mNil, mPar, mParO, mParP, mDrop, mFz, mApp, mExt, mSetL, mLc, mYes, mSeqI, mOwnI, mOrI, mEnumL, mEnumT, mZip, mZipM, mOr2, mRevL, mRevT, mSl, mNoP, mP, mTup, mLst, mCb, mIf, mAndV, mOrV, mNotV, mChain, mBrk, mCnt, mNever, mAug, mCall0, mCallK0, hAdd, hSub, hInt, hIntC, hAnd, hDiv, hMod, hPow, hMul, hNeg, hCmp, hLt, hLe, hGt, hGe, hIx, hIxX, hLen, hIsi, hTuple, hList, hInt1, hAbs, D.isN, hIs, hNis, D.items, D.plain, D.kind, hEq_int, hNe_int, hEq_str, hNe_str, hEq_tups, hNe_tups, hEq_lsts, hNe_lsts, wipeE, List.map_cons, List.map_nil, List.replicate_succ, List.replicate_zero, List.cons_append, List.nil_append, List.getElem?_cons_zero, List.getElem?_cons_succ, List.set_cons_zero, List.set_cons_succ, List.length_cons, List.length_nil, Nat.reduceAdd, Nat.reduceSub, inT_int, inT_bool, inT_str, inT_tuple, inT_list, inT_dict, ib_NoneType_int, ib_NoneType_bool, ib_NoneType_str, ib_NoneType_tuple, ib_NoneType_list, ib_NoneType_dict, ib_bool_int, ib_bool_bool, ib_bool_str, ib_bool_tuple, ib_bool_list, ib_bool_dict, ib_int_int, ib_int_bool, ib_int_str, ib_int_tuple, ib_int_list, ib_int_dict, ib_str_int, ib_str_bool, ib_str_str, ib_str_tuple, ib_str_list, ib_str_dict, ib_tuple_int, ib_tuple_bool, ib_tuple_str, ib_tuple_tuple, ib_tuple_list, ib_tuple_dict, ib_list_int, ib_list_bool, ib_list_str, ib_list_tuple, ib_list_list, ib_list_dict, ib_dict_int, ib_dict_bool, ib_dict_str, ib_dict_tuple, ib_dict_list, ib_dict_dict, Bool.not_true, Bool.not_false, true_and, and_true, decide_true, decide_false])
    refine ⟨_, at_nl (k := at_) rfl (by rw [mst_len]; exact ha), ?_⟩
    (try simp only [mSeq, mIfS, mOr, mAnd, mNot, mTest, mOp, mUn, mVar, mOwn, mC, mRet, mRetN, mNext, mAsg, mAsgO, mName, mGTup, mGCons, mGNil, mFor, mRng1, mRng2, mRng3, mCons, mNil, mPar, mParO, mParP, mDrop, mFz, mApp, mExt, mSetL, mLc, mYes, mSeqI, mOwnI, mOrI, mEnumL, mEnumT, mZip, mZipM, mOr2, mRevL, mRevT, mSl, mNoP, mP, mTup, mLst, mCb, mIf, mAndV, mOrV, mNotV, mChain, mBrk, mCnt, mNever, mAug, mCall0, mCallK0, hAdd, hSub, hInt, hIntC, hAnd, hDiv, hMod, hPow, hMul, hNeg, hCmp, hLt, hLe, hGt, hGe, hIx, hIxX, hLen, hIsi, hTuple, hList, hInt1, hAbs, D.isN, hIs, hNis, D.items, D.plain, D.kind, hEq_int, hNe_int, hEq_str, hNe_str, hEq_tups, hNe_tups, hEq_lsts, hNe_lsts, wipeE, List.map_cons, List.map_nil, List.replicate_succ, List.replicate_zero, List.cons_append, List.nil_append, List.getElem?_cons_zero, List.getElem?_cons_succ, List.set_cons_zero, List.set_cons_succ, List.length_cons, List.length_nil, Nat.reduceAdd, Nat.reduceSub, inT_int, inT_bool, inT_str, inT_tuple, inT_list, inT_dict, ib_NoneType_int, ib_NoneType_bool, ib_NoneType_str, ib_NoneType_tuple, ib_NoneType_list, ib_NoneType_dict, ib_bool_int, ib_bool_bool, ib_bool_str, ib_bool_tuple, ib_bool_list, ib_bool_dict, ib_int_int, ib_int_bool, ib_int_str, ib_int_tuple, ib_int_list, ib_int_dict, ib_str_int, ib_str_bool, ib_str_str, ib_str_tuple, ib_str_list, ib_str_dict, ib_tuple_int, ib_tuple_bool, ib_tuple_str, ib_tuple_tuple, ib_tuple_list, ib_tuple_dict, ib_list_int, ib_list_bool, ib_list_str, ib_list_tuple, ib_list_list, ib_list_dict, ib_dict_int, ib_dict_bool, ib_dict_str, ib_dict_tuple, ib_dict_list, ib_dict_dict, Bool.not_true, Bool.not_false, true_and, and_true, decide_true, decide_false])
    have hm : at_ < (mst c).length := by rw [mst_len]; exact ha
    have e1 : (at_ : Int) + 1 = ((at_ + 1 : Nat) : Int) := by omega
    rw [e1, cut_to _ (by rw [nl_len]; omega), cut_from _ (by rw [nl_len]; omega)]
    have lt : ((nl (mst c)).take at_).length = at_ := by rw [List.length_take, nl_len]; omega
    have ld : ((nl (mst c)).drop (at_ + 1)).length = c.length - (at_ + 1) := by rw [List.length_drop, nl_len, mst_len]
    refine ⟨by decide, by rw [lt]; omega, by rw [List.length_append, lt, ld]; simp; omega, ?_⟩
    have key : (nl (mst c)).take at_ ++ [D.int (((mst c).getD at_ 0 : Nat) + e)] ++ (nl (mst c)).drop (at_ + 1) = il ((izs (mst c)).set at_ (((mst c).getD at_ 0 : Nat) + e)) := by
      rw [nl_il, List.set_eq_take_append_cons_drop, if_pos (by rw [List.length_map]; exact hm), il_app, List.append_assoc]
      rw [show il (List.take at_ (izs (mst c))) = (il (izs (mst c))).take at_ from List.map_take ..]
      rw [show il ((((mst c).getD at_ 0 : Nat) + e) :: (izs (mst c)).drop (at_ + 1)) = D.int (((mst c).getD at_ 0 : Nat) + e) :: (il (izs (mst c))).drop (at_ + 1) from congrArg _ (List.map_drop ..)]
      rfl
    rw [key]
    refine q _ ⟨_, rfl, by rw [List.length_set, List.length_map, mst_len], ?_, fun k hk => ?_⟩
    · rw [List.getD_eq_getElem?_getD, List.getElem?_set_self (by rw [List.length_map]; exact hm)]
      rfl
    · rw [List.getD_eq_getElem?_getD, List.getElem?_set_ne (fun z => hk z.symm), ← List.getD_eq_getElem?_getD]
      exact ints_at (mst c) k
  rintro x ⟨zs, rfl, hz, z1, z2⟩
  refine w_check (fun Q E q => ?_) ?_
  · (try simp only [mSeq, mIfS, mOr, mAnd, mNot, mTest, mOp, mUn, mVar, mOwn, mC, mRet, mRetN, mNext, mAsg, mAsgO, mName, mGTup, mGCons, mGNil, mFor, mRng1, mRng2, mRng3, mCons, mNil, mPar, mParO, mParP, mDrop, mFz, mApp, mExt, mSetL, mLc, mYes, mSeqI, mOwnI, mOrI, mEnumL, mEnumT, mZip, mZipM, mOr2, mRevL, mRevT, mSl, mNoP, mP, mTup, mLst, mCb, mIf, mAndV, mOrV, mNotV, mChain, mBrk, mCnt, mNever, mAug, mCall0, mCallK0, hAdd, hSub, hInt, hIntC, hAnd, hDiv, hMod, hPow, hMul, hNeg, hCmp, hLt, hLe, hGt, hGe, hIx, hIxX, hLen, hIsi, hTuple, hList, hInt1, hAbs, D.isN, hIs, hNis, D.items, D.plain, D.kind, hEq_int, hNe_int, hEq_str, hNe_str, hEq_tups, hNe_tups, hEq_lsts, hNe_lsts, wipeE, List.map_cons, List.map_nil, List.replicate_succ, List.replicate_zero, List.cons_append, List.nil_append, List.getElem?_cons_zero, List.getElem?_cons_succ, List.set_cons_zero, List.set_cons_succ, List.length_cons, List.length_nil, Nat.reduceAdd, Nat.reduceSub, inT_int, inT_bool, inT_str, inT_tuple, inT_list, inT_dict, ib_NoneType_int, ib_NoneType_bool, ib_NoneType_str, ib_NoneType_tuple, ib_NoneType_list, ib_NoneType_dict, ib_bool_int, ib_bool_bool, ib_bool_str, ib_bool_tuple, ib_bool_list, ib_bool_dict, ib_int_int, ib_int_bool, ib_int_str, ib_int_tuple, ib_int_list, ib_int_dict, ib_str_int, ib_str_bool, ib_str_str, ib_str_tuple, ib_str_list, ib_str_dict, ib_tuple_int, ib_tuple_bool, ib_tuple_str, ib_tuple_tuple, ib_tuple_list, ib_tuple_dict, ib_list_int, ib_list_bool, ib_list_str, ib_list_tuple, ib_list_list, ib_list_dict, ib_dict_int, ib_dict_bool, ib_dict_str, ib_dict_tuple, ib_dict_list, ib_dict_dict, Bool.not_true, Bool.not_false, true_and, and_true, decide_true, decide_false])
    refine s_has_hole_row F (by omega) ?_
    rw [off_hh F.fit (by omega) hz ha z1 z2]
    (try simp only [mSeq, mIfS, mOr, mAnd, mNot, mTest, mOp, mUn, mVar, mOwn, mC, mRet, mRetN, mNext, mAsg, mAsgO, mName, mGTup, mGCons, mGNil, mFor, mRng1, mRng2, mRng3, mCons, mNil, mPar, mParO, mParP, mDrop, mFz, mApp, mExt, mSetL, mLc, mYes, mSeqI, mOwnI, mOrI, mEnumL, mEnumT, mZip, mZipM, mOr2, mRevL, mRevT, mSl, mNoP, mP, mTup, mLst, mCb, mIf, mAndV, mOrV, mNotV, mChain, mBrk, mCnt, mNever, mAug, mCall0, mCallK0, hAdd, hSub, hInt, hIntC, hAnd, hDiv, hMod, hPow, hMul, hNeg, hCmp, hLt, hLe, hGt, hGe, hIx, hIxX, hLen, hIsi, hTuple, hList, hInt1, hAbs, D.isN, hIs, hNis, D.items, D.plain, D.kind, hEq_int, hNe_int, hEq_str, hNe_str, hEq_tups, hNe_tups, hEq_lsts, hNe_lsts, wipeE, List.map_cons, List.map_nil, List.replicate_succ, List.replicate_zero, List.cons_append, List.nil_append, List.getElem?_cons_zero, List.getElem?_cons_succ, List.set_cons_zero, List.set_cons_succ, List.length_cons, List.length_nil, Nat.reduceAdd, Nat.reduceSub, inT_int, inT_bool, inT_str, inT_tuple, inT_list, inT_dict, ib_NoneType_int, ib_NoneType_bool, ib_NoneType_str, ib_NoneType_tuple, ib_NoneType_list, ib_NoneType_dict, ib_bool_int, ib_bool_bool, ib_bool_str, ib_bool_tuple, ib_bool_list, ib_bool_dict, ib_int_int, ib_int_bool, ib_int_str, ib_int_tuple, ib_int_list, ib_int_dict, ib_str_int, ib_str_bool, ib_str_str, ib_str_tuple, ib_str_list, ib_str_dict, ib_tuple_int, ib_tuple_bool, ib_tuple_str, ib_tuple_tuple, ib_tuple_list, ib_tuple_dict, ib_list_int, ib_list_bool, ib_list_str, ib_list_tuple, ib_list_list, ib_list_dict, ib_dict_int, ib_dict_bool, ib_dict_str, ib_dict_tuple, ib_dict_list, ib_dict_dict, Bool.not_true, Bool.not_false, true_and, and_true, decide_true, decide_false])
    exact q
  (try simp only [mGTup, mGCons, mGNil, mName, List.set_cons_zero, List.set_cons_succ, List.length_cons, List.length_nil, Nat.reduceAdd, true_and, and_true, List.map_cons, List.map_nil, List.replicate_succ, List.replicate_zero, List.cons_append, List.nil_append, Nat.reduceSub])
  -- row, other
  refine w_asgP (fun x => ∃ r : List Nat, x = .lst (nl r) ∧ r.length = c.length) (fun Q E q => ?_) ?_
  · (try simp only [mSeq, mIfS, mOr, mAnd, mNot, mTest, mOp, mUn, mVar, mOwn, mC, mRet, mRetN, mNext, mAsg, mAsgO, mName, mGTup, mGCons, mGNil, mFor, mRng1, mRng2, mRng3, mCons, mNil, mPar, mParO, mParP, mDrop, mFz, mApp, mExt, mSetL, mLc, mYes, mSeqI, mOwnI, mOrI, mEnumL, mEnumT, mZip, mZipM, mOr2, mRevL, mRevT, mSl, mNoP, mP, mTup, mLst, mCb, mIf, mAndV, mOrV, mNotV, mChain, mBrk, mCnt, mNever, mAug, mCall0, mCallK0, hAdd, hSub, hInt, hIntC, hAnd, hDiv, hMod, hPow, hMul, hNeg, hCmp, hLt, hLe, hGt, hGe, hIx, hIxX, hLen, hIsi, hTuple, hList, hInt1, hAbs, D.isN, hIs, hNis, D.items, D.plain, D.kind, hEq_int, hNe_int, hEq_str, hNe_str, hEq_tups, hNe_tups, hEq_lsts, hNe_lsts, wipeE, List.map_cons, List.map_nil, List.replicate_succ, List.replicate_zero, List.cons_append, List.nil_append, List.getElem?_cons_zero, List.getElem?_cons_succ, List.set_cons_zero, List.set_cons_succ, List.length_cons, List.length_nil, Nat.reduceAdd, Nat.reduceSub, inT_int, inT_bool, inT_str, inT_tuple, inT_list, inT_dict, ib_NoneType_int, ib_NoneType_bool, ib_NoneType_str, ib_NoneType_tuple, ib_NoneType_list, ib_NoneType_dict, ib_bool_int, ib_bool_bool, ib_bool_str, ib_bool_tuple, ib_bool_list, ib_bool_dict, ib_int_int, ib_int_bool, ib_int_str, ib_int_tuple, ib_int_list, ib_int_dict, ib_str_int, ib_str_bool, ib_str_str, ib_str_tuple, ib_str_list, ib_str_dict, ib_tuple_int, ib_tuple_bool, ib_tuple_str, ib_tuple_tuple, ib_tuple_list, ib_tuple_dict, ib_list_int, ib_list_bool, ib_list_str, ib_list_tuple, ib_list_list, ib_list_dict, ib_dict_int, ib_dict_bool, ib_dict_str, ib_dict_tuple, ib_dict_list, ib_dict_dict, Bool.not_true, Bool.not_false, true_and, and_true, decide_true, decide_false])
    refine ⟨by omega, by omega, by rw [rng_len]; omega, ?_⟩
    rw [show ((c.length : Nat) : Int).toNat = c.length by omega, rng_map]
    refine lcL_draw _ (fun _ y => ∃ n : Nat, y = .int n) (fun k hk Qd hd => ?_) fun ys hy => ?_
    · (try simp only [mSeq, mIfS, mOr, mAnd, mNot, mTest, mOp, mUn, mVar, mOwn, mC, mRet, mRetN, mNext, mAsg, mAsgO, mName, mGTup, mGCons, mGNil, mFor, mRng1, mRng2, mRng3, mCons, mNil, mPar, mParO, mParP, mDrop, mFz, mApp, mExt, mSetL, mLc, mYes, mSeqI, mOwnI, mOrI, mEnumL, mEnumT, mZip, mZipM, mOr2, mRevL, mRevT, mSl, mNoP, mP, mTup, mLst, mCb, mIf, mAndV, mOrV, mNotV, mChain, mBrk, mCnt, mNever, mAug, mCall0, mCallK0, hAdd, hSub, hInt, hIntC, hAnd, hDiv, hMod, hPow, hMul, hNeg, hCmp, hLt, hLe, hGt, hGe, hIx, hIxX, hLen, hIsi, hTuple, hList, hInt1, hAbs, D.isN, hIs, hNis, D.items, D.plain, D.kind, hEq_int, hNe_int, hEq_str, hNe_str, hEq_tups, hNe_tups, hEq_lsts, hNe_lsts, wipeE, List.map_cons, List.map_nil, List.replicate_succ, List.replicate_zero, List.cons_append, List.nil_append, List.getElem?_cons_zero, List.getElem?_cons_succ, List.set_cons_zero, List.set_cons_succ, List.length_cons, List.length_nil, Nat.reduceAdd, Nat.reduceSub, inT_int, inT_bool, inT_str, inT_tuple, inT_list, inT_dict, ib_NoneType_int, ib_NoneType_bool, ib_NoneType_str, ib_NoneType_tuple, ib_NoneType_list, ib_NoneType_dict, ib_bool_int, ib_bool_bool, ib_bool_str, ib_bool_tuple, ib_bool_list, ib_bool_dict, ib_int_int, ib_int_bool, ib_int_str, ib_int_tuple, ib_int_list, ib_int_dict, ib_str_int, ib_str_bool, ib_str_str, ib_str_tuple, ib_str_list, ib_str_dict, ib_tuple_int, ib_tuple_bool, ib_tuple_str, ib_tuple_tuple, ib_tuple_list, ib_tuple_dict, ib_list_int, ib_list_bool, ib_list_str, ib_list_tuple, ib_list_list, ib_list_dict, ib_dict_int, ib_dict_bool, ib_dict_str, ib_dict_tuple, ib_dict_list, ib_dict_dict, Bool.not_true, Bool.not_false, true_and, and_true, decide_true, decide_false])
      exact w_drawS (by decide) (by decide) fun z z0 z1 => hd _ ⟨z.toNat, by congr 1; omega⟩
    · have : ∀ {l : List Nat} {ys : List D}, Paired (fun _ y => ∃ n : Nat, y = D.int n) l ys → ∃ r : List Nat, ys = nl r ∧ r.length = l.length := by
        intro l
        induction l with
        | nil => intro ys h; cases h; exact ⟨[], rfl, rfl⟩
        | cons a l ih =>
          intro ys h
          cases h with
          | cons h1 h2 =>
            obtain ⟨n, rfl⟩ := h1
            obtain ⟨r, rfl, hl⟩ := ih h2
            exact ⟨n :: r, rfl, by rw [List.length_cons, List.length_cons, hl]⟩
      obtain ⟨r, rfl, hr⟩ := this hy
      exact q _ ⟨r, rfl, by rw [hr, List.length_range]⟩
  rintro x ⟨r, rfl, hr⟩
  (try simp only [mGTup, mGCons, mGNil, mName, List.set_cons_zero, List.set_cons_succ, List.length_cons, List.length_nil, Nat.reduceAdd, true_and, and_true, List.map_cons, List.map_nil, List.replicate_succ, List.replicate_zero, List.cons_append, List.nil_append, Nat.reduceSub])
  refine w_asgP (fun x => ∃ h : List Nat, x = .tup (nl h) ∧ h.length = c.length) (fun Q E q => ?_) ?_
  · (try simp only [mSeq, mIfS, mOr, mAnd, mNot, mTest, mOp, mUn, mVar, mOwn, mC, mRet, mRetN, mNext, mAsg, mAsgO, mName, mGTup, mGCons, mGNil, mFor, mRng1, mRng2, mRng3, mCons, mNil, mPar, mParO, mParP, mDrop, mFz, mApp, mExt, mSetL, mLc, mYes, mSeqI, mOwnI, mOrI, mEnumL, mEnumT, mZip, mZipM, mOr2, mRevL, mRevT, mSl, mNoP, mP, mTup, mLst, mCb, mIf, mAndV, mOrV, mNotV, mChain, mBrk, mCnt, mNever, mAug, mCall0, mCallK0, hAdd, hSub, hInt, hIntC, hAnd, hDiv, hMod, hPow, hMul, hNeg, hCmp, hLt, hLe, hGt, hGe, hIx, hIxX, hLen, hIsi, hTuple, hList, hInt1, hAbs, D.isN, hIs, hNis, D.items, D.plain, D.kind, hEq_int, hNe_int, hEq_str, hNe_str, hEq_tups, hNe_tups, hEq_lsts, hNe_lsts, wipeE, List.map_cons, List.map_nil, List.replicate_succ, List.replicate_zero, List.cons_append, List.nil_append, List.getElem?_cons_zero, List.getElem?_cons_succ, List.set_cons_zero, List.set_cons_succ, List.length_cons, List.length_nil, Nat.reduceAdd, Nat.reduceSub, inT_int, inT_bool, inT_str, inT_tuple, inT_list, inT_dict, ib_NoneType_int, ib_NoneType_bool, ib_NoneType_str, ib_NoneType_tuple, ib_NoneType_list, ib_NoneType_dict, ib_bool_int, ib_bool_bool, ib_bool_str, ib_bool_tuple, ib_bool_list, ib_bool_dict, ib_int_int, ib_int_bool, ib_int_str, ib_int_tuple, ib_int_list, ib_int_dict, ib_str_int, ib_str_bool, ib_str_str, ib_str_tuple, ib_str_list, ib_str_dict, ib_tuple_int, ib_tuple_bool, ib_tuple_str, ib_tuple_tuple, ib_tuple_list, ib_tuple_dict, ib_list_int, ib_list_bool, ib_list_str, ib_list_tuple, ib_list_list, ib_list_dict, ib_dict_int, ib_dict_bool, ib_dict_str, ib_dict_tuple, ib_dict_list, ib_dict_dict, Bool.not_true, Bool.not_false, true_and, and_true, decide_true, decide_false])
    rw [nl_il, nl_il, zip_map]
    refine ⟨by rw [List.length_map, List.length_zip, List.length_map, List.length_map, hr, mst_len]; omega, ?_⟩
    refine lcL_map _ (fun a : Int × Int => D.int ((a.1 - a.2).toNat : Nat)) (fun _ => true) (fun a ha nx hn => ?_) ?_
    · (try simp only [mSeq, mIfS, mOr, mAnd, mNot, mTest, mOp, mUn, mVar, mOwn, mC, mRet, mRetN, mNext, mAsg, mAsgO, mName, mGTup, mGCons, mGNil, mFor, mRng1, mRng2, mRng3, mCons, mNil, mPar, mParO, mParP, mDrop, mFz, mApp, mExt, mSetL, mLc, mYes, mSeqI, mOwnI, mOrI, mEnumL, mEnumT, mZip, mZipM, mOr2, mRevL, mRevT, mSl, mNoP, mP, mTup, mLst, mCb, mIf, mAndV, mOrV, mNotV, mChain, mBrk, mCnt, mNever, mAug, mCall0, mCallK0, hAdd, hSub, hInt, hIntC, hAnd, hDiv, hMod, hPow, hMul, hNeg, hCmp, hLt, hLe, hGt, hGe, hIx, hIxX, hLen, hIsi, hTuple, hList, hInt1, hAbs, D.isN, hIs, hNis, D.items, D.plain, D.kind, hEq_int, hNe_int, hEq_str, hNe_str, hEq_tups, hNe_tups, hEq_lsts, hNe_lsts, wipeE, List.map_cons, List.map_nil, List.replicate_succ, List.replicate_zero, List.cons_append, List.nil_append, List.getElem?_cons_zero, List.getElem?_cons_succ, List.set_cons_zero, List.set_cons_succ, List.length_cons, List.length_nil, Nat.reduceAdd, Nat.reduceSub, inT_int, inT_bool, inT_str, inT_tuple, inT_list, inT_dict, ib_NoneType_int, ib_NoneType_bool, ib_NoneType_str, ib_NoneType_tuple, ib_NoneType_list, ib_NoneType_dict, ib_bool_int, ib_bool_bool, ib_bool_str, ib_bool_tuple, ib_bool_list, ib_bool_dict, ib_int_int, ib_int_bool, ib_int_str, ib_int_tuple, ib_int_list, ib_int_dict, ib_str_int, ib_str_bool, ib_str_str, ib_str_tuple, ib_str_list, ib_str_dict, ib_tuple_int, ib_tuple_bool, ib_tuple_str, ib_tuple_tuple, ib_tuple_list, ib_tuple_dict, ib_list_int, ib_list_bool, ib_list_str, ib_list_tuple, ib_list_list, ib_list_dict, ib_dict_int, ib_dict_bool, ib_dict_str, ib_dict_tuple, ib_dict_list, ib_dict_dict, Bool.not_true, Bool.not_false, true_and, and_true, decide_true, decide_false])
      refine hn _ (fun Qb hq => ?_) (fun _ => ?_)
      · (try simp only [mSeq, mIfS, mOr, mAnd, mNot, mTest, mOp, mUn, mVar, mOwn, mC, mRet, mRetN, mNext, mAsg, mAsgO, mName, mGTup, mGCons, mGNil, mFor, mRng1, mRng2, mRng3, mCons, mNil, mPar, mParO, mParP, mDrop, mFz, mApp, mExt, mSetL, mLc, mYes, mSeqI, mOwnI, mOrI, mEnumL, mEnumT, mZip, mZipM, mOr2, mRevL, mRevT, mSl, mNoP, mP, mTup, mLst, mCb, mIf, mAndV, mOrV, mNotV, mChain, mBrk, mCnt, mNever, mAug, mCall0, mCallK0, hAdd, hSub, hInt, hIntC, hAnd, hDiv, hMod, hPow, hMul, hNeg, hCmp, hLt, hLe, hGt, hGe, hIx, hIxX, hLen, hIsi, hTuple, hList, hInt1, hAbs, D.isN, hIs, hNis, D.items, D.plain, D.kind, hEq_int, hNe_int, hEq_str, hNe_str, hEq_tups, hNe_tups, hEq_lsts, hNe_lsts, wipeE, List.map_cons, List.map_nil, List.replicate_succ, List.replicate_zero, List.cons_append, List.nil_append, List.getElem?_cons_zero, List.getElem?_cons_succ, List.set_cons_zero, List.set_cons_succ, List.length_cons, List.length_nil, Nat.reduceAdd, Nat.reduceSub, inT_int, inT_bool, inT_str, inT_tuple, inT_list, inT_dict, ib_NoneType_int, ib_NoneType_bool, ib_NoneType_str, ib_NoneType_tuple, ib_NoneType_list, ib_NoneType_dict, ib_bool_int, ib_bool_bool, ib_bool_str, ib_bool_tuple, ib_bool_list, ib_bool_dict, ib_int_int, ib_int_bool, ib_int_str, ib_int_tuple, ib_int_list, ib_int_dict, ib_str_int, ib_str_bool, ib_str_str, ib_str_tuple, ib_str_list, ib_str_dict, ib_tuple_int, ib_tuple_bool, ib_tuple_str, ib_tuple_tuple, ib_tuple_list, ib_tuple_dict, ib_list_int, ib_list_bool, ib_list_str, ib_list_tuple, ib_list_list, ib_list_dict, ib_dict_int, ib_dict_bool, ib_dict_str, ib_dict_tuple, ib_dict_list, ib_dict_dict, Bool.not_true, Bool.not_false, true_and, and_true, decide_true, decide_false])
        exact hq
      · intro Qd hd
        (try simp only [mSeq, mIfS, mOr, mAnd, mNot, mTest, mOp, mUn, mVar, mOwn, mC, mRet, mRetN, mNext, mAsg, mAsgO, mName, mGTup, mGCons, mGNil, mFor, mRng1, mRng2, mRng3, mCons, mNil, mPar, mParO, mParP, mDrop, mFz, mApp, mExt, mSetL, mLc, mYes, mSeqI, mOwnI, mOrI, mEnumL, mEnumT, mZip, mZipM, mOr2, mRevL, mRevT, mSl, mNoP, mP, mTup, mLst, mCb, mIf, mAndV, mOrV, mNotV, mChain, mBrk, mCnt, mNever, mAug, mCall0, mCallK0, hAdd, hSub, hInt, hIntC, hAnd, hDiv, hMod, hPow, hMul, hNeg, hCmp, hLt, hLe, hGt, hGe, hIx, hIxX, hLen, hIsi, hTuple, hList, hInt1, hAbs, D.isN, hIs, hNis, D.items, D.plain, D.kind, hEq_int, hNe_int, hEq_str, hNe_str, hEq_tups, hNe_tups, hEq_lsts, hNe_lsts, wipeE, List.map_cons, List.map_nil, List.replicate_succ, List.replicate_zero, List.cons_append, List.nil_append, List.getElem?_cons_zero, List.getElem?_cons_succ, List.set_cons_zero, List.set_cons_succ, List.length_cons, List.length_nil, Nat.reduceAdd, Nat.reduceSub, inT_int, inT_bool, inT_str, inT_tuple, inT_list, inT_dict, ib_NoneType_int, ib_NoneType_bool, ib_NoneType_str, ib_NoneType_tuple, ib_NoneType_list, ib_NoneType_dict, ib_bool_int, ib_bool_bool, ib_bool_str, ib_bool_tuple, ib_bool_list, ib_bool_dict, ib_int_int, ib_int_bool, ib_int_str, ib_int_tuple, ib_int_list, ib_int_dict, ib_str_int, ib_str_bool, ib_str_str, ib_str_tuple, ib_str_list, ib_str_dict, ib_tuple_int, ib_tuple_bool, ib_tuple_str, ib_tuple_tuple, ib_tuple_list, ib_tuple_dict, ib_list_int, ib_list_bool, ib_list_str, ib_list_tuple, ib_list_list, ib_list_dict, ib_dict_int, ib_dict_bool, ib_dict_str, ib_dict_tuple, ib_dict_list, ib_dict_dict, Bool.not_true, Bool.not_false, true_and, and_true, decide_true, decide_false])
        show Qd (.int (max 0 (a.1 - a.2)))
        rw [show max 0 (a.1 - a.2) = (((a.1 - a.2).toNat : Nat) : Int) from by omega]
        exact hd
    · rw [filter_true]
      refine q _ ⟨((izs (mst c)).zip (izs r)).map fun a => (a.1 - a.2).toNat, ?_, ?_⟩
      · unfold nl
        rw [List.map_map]
        rfl
      · rw [List.length_map, List.length_zip, List.length_map, List.length_map, hr, mst_len]
        omega
  rintro x ⟨h, rfl, hl⟩
  (try simp only [mGTup, mGCons, mGNil, mName, List.set_cons_zero, List.set_cons_succ, List.length_cons, List.length_nil, Nat.reduceAdd, true_and, and_true, List.map_cons, List.map_nil, List.replicate_succ, List.replicate_zero, List.cons_append, List.nil_append, Nat.reduceSub])
  refine w_asg (.bl (df c h)) (fun Q E q => ?_) ?_
  · (try simp only [mSeq, mIfS, mOr, mAnd, mNot, mTest, mOp, mUn, mVar, mOwn, mC, mRet, mRetN, mNext, mAsg, mAsgO, mName, mGTup, mGCons, mGNil, mFor, mRng1, mRng2, mRng3, mCons, mNil, mPar, mParO, mParP, mDrop, mFz, mApp, mExt, mSetL, mLc, mYes, mSeqI, mOwnI, mOrI, mEnumL, mEnumT, mZip, mZipM, mOr2, mRevL, mRevT, mSl, mNoP, mP, mTup, mLst, mCb, mIf, mAndV, mOrV, mNotV, mChain, mBrk, mCnt, mNever, mAug, mCall0, mCallK0, hAdd, hSub, hInt, hIntC, hAnd, hDiv, hMod, hPow, hMul, hNeg, hCmp, hLt, hLe, hGt, hGe, hIx, hIxX, hLen, hIsi, hTuple, hList, hInt1, hAbs, D.isN, hIs, hNis, D.items, D.plain, D.kind, hEq_int, hNe_int, hEq_str, hNe_str, hEq_tups, hNe_tups, hEq_lsts, hNe_lsts, wipeE, List.map_cons, List.map_nil, List.replicate_succ, List.replicate_zero, List.cons_append, List.nil_append, List.getElem?_cons_zero, List.getElem?_cons_succ, List.set_cons_zero, List.set_cons_succ, List.length_cons, List.length_nil, Nat.reduceAdd, Nat.reduceSub, inT_int, inT_bool, inT_str, inT_tuple, inT_list, inT_dict, ib_NoneType_int, ib_NoneType_bool, ib_NoneType_str, ib_NoneType_tuple, ib_NoneType_list, ib_NoneType_dict, ib_bool_int, ib_bool_bool, ib_bool_str, ib_bool_tuple, ib_bool_list, ib_bool_dict, ib_int_int, ib_int_bool, ib_int_str, ib_int_tuple, ib_int_list, ib_int_dict, ib_str_int, ib_str_bool, ib_str_str, ib_str_tuple, ib_str_list, ib_str_dict, ib_tuple_int, ib_tuple_bool, ib_tuple_str, ib_tuple_tuple, ib_tuple_list, ib_tuple_dict, ib_list_int, ib_list_bool, ib_list_str, ib_list_tuple, ib_list_list, ib_list_dict, ib_dict_int, ib_dict_bool, ib_dict_str, ib_dict_tuple, ib_dict_list, ib_dict_dict, Bool.not_true, Bool.not_false, true_and, and_true, decide_true, decide_false])
    exact s_law_does_fit hl (by omega) (by omega) F.sml q
  (try simp only [mGTup, mGCons, mGNil, mName, List.set_cons_zero, List.set_cons_succ, List.length_cons, List.length_nil, Nat.reduceAdd, true_and, and_true, List.map_cons, List.map_nil, List.replicate_succ, List.replicate_zero, List.cons_append, List.nil_append, Nat.reduceSub])
  (try simp only [mSeq, mIfS, mOr, mAnd, mNot, mTest, mOp, mUn, mVar, mOwn, mC, mRet, mRetN, mNext, mAsg, mAsgO, mName, mGTup, mGCons, mGNil, mFor, mRng1, mRng2, mRng3, mCons, mNil, mPar, mParO, mParP, mDrop, mFz, mApp, mExt, mSetL, mLc, mYes, mSeqI, mOwnI, mOrI, mEnumL, mEnumT, mZip, mZipM, mOr2, mRevL, mRevT, mSl, mNoP, mP, mTup, mLst, mCb, mIf, mAndV, mOrV, mNotV, mChain, mBrk, mCnt, mNever, mAug, mCall0, mCallK0, hAdd, hSub, hInt, hIntC, hAnd, hDiv, hMod, hPow, hMul, hNeg, hCmp, hLt, hLe, hGt, hGe, hIx, hIxX, hLen, hIsi, hTuple, hList, hInt1, hAbs, D.isN, hIs, hNis, D.items, D.plain, D.kind, hEq_int, hNe_int, hEq_str, hNe_str, hEq_tups, hNe_tups, hEq_lsts, hNe_lsts, wipeE, List.map_cons, List.map_nil, List.replicate_succ, List.replicate_zero, List.cons_append, List.nil_append, List.getElem?_cons_zero, List.getElem?_cons_succ, List.set_cons_zero, List.set_cons_succ, List.length_cons, List.length_nil, Nat.reduceAdd, Nat.reduceSub, inT_int, inT_bool, inT_str, inT_tuple, inT_list, inT_dict, ib_NoneType_int, ib_NoneType_bool, ib_NoneType_str, ib_NoneType_tuple, ib_NoneType_list, ib_NoneType_dict, ib_bool_int, ib_bool_bool, ib_bool_str, ib_bool_tuple, ib_bool_list, ib_bool_dict, ib_int_int, ib_int_bool, ib_int_str, ib_int_tuple, ib_int_list, ib_int_dict, ib_str_int, ib_str_bool, ib_str_str, ib_str_tuple, ib_str_list, ib_str_dict, ib_tuple_int, ib_tuple_bool, ib_tuple_str, ib_tuple_tuple, ib_tuple_list, ib_tuple_dict, ib_list_int, ib_list_bool, ib_list_str, ib_list_tuple, ib_list_list, ib_list_dict, ib_dict_int, ib_dict_bool, ib_dict_str, ib_dict_tuple, ib_dict_list, ib_dict_dict, Bool.not_true, Bool.not_false, true_and, and_true, decide_true, decide_false])
  refine ⟨rfl, ?_⟩
  show m_has_hole_row [.tup (nl c), .tup (nl h)] _ _
  rw [nl_il h]
  refine s_has_hole_row F (by rw [List.length_map]; omega) ?_
  rw [hh_df F.fit hl]
  refine w_repr ok_bl rfl ?_
  refine w_repr ok_bl rfl ?_
  (try simp only [mSeq, mIfS, mOr, mAnd, mNot, mTest, mOp, mUn, mVar, mOwn, mC, mRet, mRetN, mNext, mAsg, mAsgO, mName, mGTup, mGCons, mGNil, mFor, mRng1, mRng2, mRng3, mCons, mNil, mPar, mParO, mParP, mDrop, mFz, mApp, mExt, mSetL, mLc, mYes, mSeqI, mOwnI, mOrI, mEnumL, mEnumT, mZip, mZipM, mOr2, mRevL, mRevT, mSl, mNoP, mP, mTup, mLst, mCb, mIf, mAndV, mOrV, mNotV, mChain, mBrk, mCnt, mNever, mAug, mCall0, mCallK0, hAdd, hSub, hInt, hIntC, hAnd, hDiv, hMod, hPow, hMul, hNeg, hCmp, hLt, hLe, hGt, hGe, hIx, hIxX, hLen, hIsi, hTuple, hList, hInt1, hAbs, D.isN, hIs, hNis, D.items, D.plain, D.kind, hEq_int, hNe_int, hEq_str, hNe_str, hEq_tups, hNe_tups, hEq_lsts, hNe_lsts, wipeE, List.map_cons, List.map_nil, List.replicate_succ, List.replicate_zero, List.cons_append, List.nil_append, List.getElem?_cons_zero, List.getElem?_cons_succ, List.set_cons_zero, List.set_cons_succ, List.length_cons, List.length_nil, Nat.reduceAdd, Nat.reduceSub, inT_int, inT_bool, inT_str, inT_tuple, inT_list, inT_dict, ib_NoneType_int, ib_NoneType_bool, ib_NoneType_str, ib_NoneType_tuple, ib_NoneType_list, ib_NoneType_dict, ib_bool_int, ib_bool_bool, ib_bool_str, ib_bool_tuple, ib_bool_list, ib_bool_dict, ib_int_int, ib_int_bool, ib_int_str, ib_int_tuple, ib_int_list, ib_int_dict, ib_str_int, ib_str_bool, ib_str_str, ib_str_tuple, ib_str_list, ib_str_dict, ib_tuple_int, ib_tuple_bool, ib_tuple_str, ib_tuple_tuple, ib_tuple_list, ib_tuple_dict, ib_list_int, ib_list_bool, ib_list_str, ib_list_tuple, ib_list_list, ib_list_dict, ib_dict_int, ib_dict_bool, ib_dict_str, ib_dict_tuple, ib_dict_list, ib_dict_dict, Bool.not_true, Bool.not_false, true_and, and_true, decide_true, decide_false])
end Lk34

namespace Hd
open PySem PySem.Spec PyProof.Rows L2
def top (i : Nat) : Stmt := PySem.Challenge.pw_holerows_k34_least_rests_and_most_holes.main.body.getD i (.Pass ⟨0, 0, 0, 0⟩)
abbrev s_is_whole : Stmt := top 1
abbrev s_is_count : Stmt := top 2
abbrev s_is_size : Stmt := top 3
abbrev s_are_counts : Stmt := top 4
abbrev s_choose : Stmt := top 5
abbrev s_greatest_many : Stmt := top 6
abbrev s_cascade_by : Stmt := top 7
abbrev s_lower : Stmt := top 8
abbrev s_is_counts_value : Stmt := top 9
abbrev s_need_counts_firsts : Stmt := top 15
abbrev s_lowers_of : Stmt := top 17
abbrev s_counts_paper : Stmt := top 18
abbrev s_judge_counts : Stmt := top 19
abbrev s_need_counts_rows : Stmt := top 21
abbrev s_rests_by : Stmt := top 23
abbrev s_least_rest : Stmt := top 25
abbrev s_least_by : Stmt := top 26
abbrev s_most_by : Stmt := top 27
abbrev s_need_fitting : Stmt := top 28
abbrev s_least_rests : Stmt := top 29
abbrev s_most_holes : Stmt := top 30
abbrev s_least_holes : Stmt := top 31
abbrev s_has_hole_row : Stmt := top 32
abbrev s_law_deck : Stmt := top 34
abbrev s_law_draw : Stmt := top 35
abbrev s_law_pick : Stmt := top 36
abbrev s_law_is_integer : Stmt := top 37
abbrev s_law_are_integers : Stmt := top 38
abbrev s_law_choose : Stmt := top 39
abbrev s_law_top : Stmt := top 40
abbrev s_law_cascade : Stmt := top 41
abbrev s_law_lower_sets : Stmt := top 42
abbrev s_law_rests : Stmt := top 43
abbrev s_law_does_fit : Stmt := top 44
abbrev s_law_below : Stmt := top 45
abbrev s_law_some_counts : Stmt := top 46
abbrev s_law_least_holes : Stmt := top 47
abbrev s_law_is_least : Stmt := top 48
abbrev s_law : Stmt := top 49
def fn : List He.DefD := [⟨("is_whole", none), "is_whole", "is_whole", defArgs s_is_whole, defBody s_is_whole, defScope s_is_whole, [], []⟩, ⟨("is_count", none), "is_count", "is_count", defArgs s_is_count, defBody s_is_count, defScope s_is_count, [], []⟩, ⟨("is_size", none), "is_size", "is_size", defArgs s_is_size, defBody s_is_size, defScope s_is_size, [], []⟩, ⟨("are_counts", none), "are_counts", "are_counts", defArgs s_are_counts, defBody s_are_counts, defScope s_are_counts, [], []⟩, ⟨("choose", none), "choose", "choose", defArgs s_choose, defBody s_choose, defScope s_choose, [], []⟩, ⟨("greatest_many", none), "greatest_many", "greatest_many", defArgs s_greatest_many, defBody s_greatest_many, defScope s_greatest_many, [], []⟩, ⟨("cascade_by", none), "cascade_by", "cascade_by", defArgs s_cascade_by, defBody s_cascade_by, defScope s_cascade_by, [], []⟩, ⟨("lower", none), "lower", "lower", defArgs s_lower, defBody s_lower, defScope s_lower, [], []⟩, ⟨("is_counts_value", none), "is_counts_value", "is_counts_value", defArgs s_is_counts_value, defBody s_is_counts_value, defScope s_is_counts_value, [], []⟩, ⟨("need_counts_firsts", none), "need_counts", "need_counts", defArgs s_need_counts_firsts, defBody s_need_counts_firsts, defScope s_need_counts_firsts, [], []⟩, ⟨("lowers_of", none), "lowers_of", "lowers_of", defArgs s_lowers_of, defBody s_lowers_of, defScope s_lowers_of, [], []⟩, ⟨("counts_paper", none), "counts_paper", "counts_paper", defArgs s_counts_paper, defBody s_counts_paper, defScope s_counts_paper, [], []⟩, ⟨("judge_counts", none), "judge_counts", "judge_counts", defArgs s_judge_counts, defBody s_judge_counts, defScope s_judge_counts, [], []⟩, ⟨("need_counts_rows", none), "need_counts", "need_counts", defArgs s_need_counts_rows, defBody s_need_counts_rows, defScope s_need_counts_rows, [], []⟩, ⟨("rests_by", none), "rests_by", "rests_by", defArgs s_rests_by, defBody s_rests_by, defScope s_rests_by, [], []⟩, ⟨("least_rest", none), "least_rest", "least_rest", defArgs s_least_rest, defBody s_least_rest, defScope s_least_rest, [], []⟩, ⟨("least_by", none), "least_by", "least_by", defArgs s_least_by, defBody s_least_by, defScope s_least_by, [], []⟩, ⟨("most_by", none), "most_by", "most_by", defArgs s_most_by, defBody s_most_by, defScope s_most_by, [], []⟩, ⟨("need_fitting", none), "need_fitting", "need_fitting", defArgs s_need_fitting, defBody s_need_fitting, defScope s_need_fitting, [], []⟩, ⟨("least_rests", none), "least_rests", "least_rests", defArgs s_least_rests, defBody s_least_rests, defScope s_least_rests, [], []⟩, ⟨("most_holes", none), "most_holes", "most_holes", defArgs s_most_holes, defBody s_most_holes, defScope s_most_holes, [], []⟩, ⟨("least_holes", none), "least_holes", "least_holes", defArgs s_least_holes, defBody s_least_holes, defScope s_least_holes, [], []⟩, ⟨("has_hole_row", none), "has_hole_row", "has_hole_row", defArgs s_has_hole_row, defBody s_has_hole_row, defScope s_has_hole_row, [], []⟩, ⟨("_law_deck", none), "_law_deck", "_law_deck", defArgs s_law_deck, defBody s_law_deck, defScope s_law_deck, [], []⟩, ⟨("_law_draw", none), "_law_draw", "_law_draw", defArgs s_law_draw, defBody s_law_draw, defScope s_law_draw, [], []⟩, ⟨("_law_pick", none), "_law_pick", "_law_pick", defArgs s_law_pick, defBody s_law_pick, defScope s_law_pick, [], []⟩, ⟨("_law_is_integer", none), "_law_is_integer", "_law_is_integer", defArgs s_law_is_integer, defBody s_law_is_integer, defScope s_law_is_integer, [], []⟩, ⟨("_law_are_integers", none), "_law_are_integers", "_law_are_integers", defArgs s_law_are_integers, defBody s_law_are_integers, defScope s_law_are_integers, [], []⟩, ⟨("_law_choose", none), "_law_choose", "_law_choose", defArgs s_law_choose, defBody s_law_choose, defScope s_law_choose, [], []⟩, ⟨("_law_top", none), "_law_top", "_law_top", defArgs s_law_top, defBody s_law_top, defScope s_law_top, [], []⟩, ⟨("_law_cascade", none), "_law_cascade", "_law_cascade", defArgs s_law_cascade, defBody s_law_cascade, defScope s_law_cascade, [], []⟩, ⟨("_law_lower_sets", none), "_law_lower_sets", "_law_lower_sets", defArgs s_law_lower_sets, defBody s_law_lower_sets, defScope s_law_lower_sets, [], []⟩, ⟨("_law_rests", none), "_law_rests", "_law_rests", defArgs s_law_rests, defBody s_law_rests, defScope s_law_rests, [], []⟩, ⟨("_law_does_fit", none), "_law_does_fit", "_law_does_fit", defArgs s_law_does_fit, defBody s_law_does_fit, defScope s_law_does_fit, [], []⟩, ⟨("_law_below", none), "_law_below", "_law_below", defArgs s_law_below, defBody s_law_below, defScope s_law_below, [], []⟩, ⟨("_law_some_counts", none), "_law_some_counts", "_law_some_counts", defArgs s_law_some_counts, defBody s_law_some_counts, defScope s_law_some_counts, [], []⟩, ⟨("_law_least_holes", none), "_law_least_holes", "_law_least_holes", defArgs s_law_least_holes, defBody s_law_least_holes, defScope s_law_least_holes, [], []⟩, ⟨("_law_is_least", none), "_law_is_least", "_law_is_least", defArgs s_law_is_least, defBody s_law_is_least, defScope s_law_is_least, [], []⟩, ⟨("law", none), "law", "law", defArgs s_law, defBody s_law, defScope s_law, [], []⟩]
def fa : List He.Fa := .glo "is_whole" :: .glo "is_count" :: .glo "is_size" :: .glo "are_counts" :: .glo "choose" :: .glo "greatest_many" :: .glo "cascade_by" :: .glo "lower" :: .glo "is_counts_value" :: .glo "need_counts_firsts" :: .glo "lowers_of" :: .glo "counts_paper" :: .glo "judge_counts" :: .glo "need_counts_rows" :: .glo "rests_by" :: .glo "least_rest" :: .glo "least_by" :: .glo "most_by" :: .glo "need_fitting" :: .glo "least_rests" :: .glo "most_holes" :: .glo "least_holes" :: .glo "has_hole_row" :: .glo "_law_deck" :: .glo "_law_draw" :: .glo "_law_pick" :: .glo "_law_is_integer" :: .glo "_law_are_integers" :: .glo "_law_choose" :: .glo "_law_top" :: .glo "_law_cascade" :: .glo "_law_lower_sets" :: .glo "_law_rests" :: .glo "_law_does_fit" :: .glo "_law_below" :: .glo "_law_some_counts" :: .glo "_law_least_holes" :: .glo "_law_is_least" :: .glo "law" :: .free "Exception" :: [.free "range", .free "tuple", .free "sum", .free "enumerate", .free "zip", .free "len", .free "isinstance", .free "int", .free "all", .free "repr", .free "bool", .free "max", .free "min"]
abbrev R : PySem.W.OpenRow := PySem.W.OpenLaw.row PySem.Challenge.rw_holerows_k34_least_rests_and_most_holes
abbrev hk : PySem.W.Hook := He.hookD 4 fa fn
def ob (s : PySem.W.SharedT) : He.AlD := He.obsDG 4 fa fn (HandSHeadRun.getT s)
theorem ob_eq (s : PySem.W.SharedT) : ob s = hk.obs s.abs := He.obsDG_eq (HandSHeadRun.getT_eq s)
def names : List PySem.Str := "is_whole" :: "is_count" :: "is_size" :: "are_counts" :: "choose" :: "greatest_many" :: "cascade_by" :: "lower" :: "is_counts_value" :: "CountError" :: "BadCounts" :: "NotFit" :: "need_counts" :: "need_counts_firsts" :: "lowers_of" :: "counts_paper" :: "judge_counts" :: "need_counts" :: "need_counts_rows" :: "rests_by" :: "least_rest" :: "least_by" :: "most_by" :: "need_fitting" :: "least_rests" :: "most_holes" :: "least_holes" :: "has_hole_row" :: "_law_deck" :: "_law_draw" :: "_law_pick" :: "_law_is_integer" :: "_law_are_integers" :: "_law_choose" :: "_law_top" :: "_law_cascade" :: "_law_lower_sets" :: "_law_rests" :: "_law_does_fit" :: "_law_below" :: ["_law_some_counts", "_law_least_holes", "_law_is_least"]
theorem run (w : World) : HandSHeadRun.RunEq R (PySem.W.view R.prog [49]) hk ob 2000 names w := by
  intro os
  kernel_rfl
end Hd
namespace Dv
open PySem PySem.Spec PyProof.Rows L2 Evl HG HL HC HD VM HR Lk34 MC MR VM
structure Tx (K : PySem.W.Frag) (mg : Str → Option Value) : Prop where
  d_is_whole : At K mg "is_whole" "is_whole" Hd.s_is_whole
  d_is_count : At K mg "is_count" "is_count" Hd.s_is_count
  d_is_size : At K mg "is_size" "is_size" Hd.s_is_size
  d_are_counts : At K mg "are_counts" "are_counts" Hd.s_are_counts
  d_choose : At K mg "choose" "choose" Hd.s_choose
  d_greatest_many : At K mg "greatest_many" "greatest_many" Hd.s_greatest_many
  d_cascade_by : At K mg "cascade_by" "cascade_by" Hd.s_cascade_by
  d_lower : At K mg "lower" "lower" Hd.s_lower
  d_is_counts_value : At K mg "is_counts_value" "is_counts_value" Hd.s_is_counts_value
  d_need_counts_firsts : At K mg "need_counts_firsts" "need_counts" Hd.s_need_counts_firsts
  d_lowers_of : At K mg "lowers_of" "lowers_of" Hd.s_lowers_of
  d_counts_paper : At K mg "counts_paper" "counts_paper" Hd.s_counts_paper
  d_judge_counts : At K mg "judge_counts" "judge_counts" Hd.s_judge_counts
  d_need_counts_rows : At K mg "need_counts_rows" "need_counts" Hd.s_need_counts_rows
  d_rests_by : At K mg "rests_by" "rests_by" Hd.s_rests_by
  d_least_rest : At K mg "least_rest" "least_rest" Hd.s_least_rest
  d_least_by : At K mg "least_by" "least_by" Hd.s_least_by
  d_most_by : At K mg "most_by" "most_by" Hd.s_most_by
  d_need_fitting : At K mg "need_fitting" "need_fitting" Hd.s_need_fitting
  d_least_rests : At K mg "least_rests" "least_rests" Hd.s_least_rests
  d_most_holes : At K mg "most_holes" "most_holes" Hd.s_most_holes
  d_least_holes : At K mg "least_holes" "least_holes" Hd.s_least_holes
  d_has_hole_row : At K mg "has_hole_row" "has_hole_row" Hd.s_has_hole_row
  d_law_deck : At K mg "_law_deck" "_law_deck" Hd.s_law_deck
  d_law_draw : At K mg "_law_draw" "_law_draw" Hd.s_law_draw
  d_law_pick : At K mg "_law_pick" "_law_pick" Hd.s_law_pick
  d_law_is_integer : At K mg "_law_is_integer" "_law_is_integer" Hd.s_law_is_integer
  d_law_are_integers : At K mg "_law_are_integers" "_law_are_integers" Hd.s_law_are_integers
  d_law_choose : At K mg "_law_choose" "_law_choose" Hd.s_law_choose
  d_law_top : At K mg "_law_top" "_law_top" Hd.s_law_top
  d_law_cascade : At K mg "_law_cascade" "_law_cascade" Hd.s_law_cascade
  d_law_lower_sets : At K mg "_law_lower_sets" "_law_lower_sets" Hd.s_law_lower_sets
  d_law_rests : At K mg "_law_rests" "_law_rests" Hd.s_law_rests
  d_law_does_fit : At K mg "_law_does_fit" "_law_does_fit" Hd.s_law_does_fit
  d_law_below : At K mg "_law_below" "_law_below" Hd.s_law_below
  d_law_some_counts : At K mg "_law_some_counts" "_law_some_counts" Hd.s_law_some_counts
  d_law_least_holes : At K mg "_law_least_holes" "_law_least_holes" Hd.s_law_least_holes
  d_law_is_least : At K mg "_law_is_least" "_law_is_least" Hd.s_law_is_least
  d_law : At K mg "law" "law" Hd.s_law
  b_Exception : mg "Exception" = none
  b_range : mg "range" = none
  b_tuple : mg "tuple" = none
  b_sum : mg "sum" = none
  b_enumerate : mg "enumerate" = none
  b_zip : mg "zip" = none
  b_len : mg "len" = none
  b_isinstance : mg "isinstance" = none
  b_int : mg "int" = none
  b_all : mg "all" = none
  b_repr : mg "repr" = none
  b_bool : mg "bool" = none
  b_max : mg "max" = none
  b_min : mg "min" = none
theorem kb_least_rests_counts : ∀ (kV doc pm : Value) (an : Option Addr) (cdv ct : Value) (ws : List Value), ws.length = [("counts" : Str)].length → bindArgs (PySem.W.fnOf "least_rests" "least_rests" (defArgs Hd.s_least_rests) (defBody Hd.s_least_rests) (defScope Hd.s_least_rests) .none kV doc pm an cdv ct) ⟨[], (["counts"] : List Str).zip ws⟩ = pure ((["counts"] : List Str).zip (perm pm_least_rests_counts ws)) := fun _ _ _ _ _ _ us hl => match us, hl with | [_], _ => rfl
theorem kb_least_holes_counts : ∀ (kV doc pm : Value) (an : Option Addr) (cdv ct : Value) (ws : List Value), ws.length = [("counts" : Str)].length → bindArgs (PySem.W.fnOf "least_holes" "least_holes" (defArgs Hd.s_least_holes) (defBody Hd.s_least_holes) (defScope Hd.s_least_holes) .none kV doc pm an cdv ct) ⟨[], (["counts"] : List Str).zip ws⟩ = pure ((["counts"] : List Str).zip (perm pm_least_holes_counts ws)) := fun _ _ _ _ _ _ us hl => match us, hl with | [_], _ => rfl
theorem kb_has_hole_row_thing_counts : ∀ (kV doc pm : Value) (an : Option Addr) (cdv ct : Value) (ws : List Value), ws.length = [("thing" : Str), ("counts" : Str)].length → bindArgs (PySem.W.fnOf "has_hole_row" "has_hole_row" (defArgs Hd.s_has_hole_row) (defBody Hd.s_has_hole_row) (defScope Hd.s_has_hole_row) .none kV doc pm an cdv ct) ⟨[], (["thing", "counts"] : List Str).zip ws⟩ = pure ((["counts", "thing"] : List Str).zip (perm pm_has_hole_row_thing_counts ws)) := fun _ _ _ _ _ _ us hl => match us, hl with | [_, _], _ => rfl
section
variable {P : Program} {w : World} {K : PySem.W.Frag} {mg : Str → Option Value} {base : Heap}
theorem c_is_whole (Tx : Tx K mg) : Cl P w K mg base 1 "is_whole" "is_whole" Hd.s_is_whole ["thing"] (spX (I.g K) 1 m_is_whole) := by
  have sc : FnScope ["thing"] ["thing"] (defScope Hd.s_is_whole) := ⟨rfl, rfl, rfl, by decide +kernel, rfl, by decide +kernel, by decide +kernel⟩
  exact clM (g := I.g K) (N := ["thing"]) Tx.d_is_whole sc (fun _ _ _ _ _ _ us hl => match us, hl with | [_], _ => rfl) rfl (by decide) (fun f cd B fr t H E hg hr => by
    have hu64 := hr.units; have hu0 := hr.units0; have hu1 := Nat.lt_of_le_of_lt (Nat.add_le_add_left (by decide : 1 ≤ 64) _) hu64
    exact ⟨_, (pss_one (ps_ret (pe_and (pe_callB call_isi (by rfl) Tx.b_isinstance (by decide +kernel) (pa_cons (pv 0) (pa_cons (pe_bltn (by rfl) Tx.b_int (by decide +kernel) (show RelV (.ty "int") _ from rfl)) pa_nil))) (pe_one (pe_not (pe_callB call_isi (by rfl) Tx.b_isinstance (by decide +kernel) (pa_cons (pv 0) (pa_cons (pe_bltn (by rfl) Tx.b_bool (by decide +kernel) (show RelV (.ty "bool") _ from rfl)) pa_nil)))))))),
      (den_ret (den_andV (den_cb do_isi (den_consO (DenE.o den_var) (den_consO (DenE.o den_ty) den_nilO))) (den_notV (den_cb do_isi (den_consO (DenE.o den_var) (den_consO (DenE.o den_ty) den_nilO))))))⟩)
theorem c_choose (Tx : Tx K mg) : Cl P w K mg base 1 "choose" "choose" Hd.s_choose ["many", "size"] (spX (I.g K) 2 m_choose) := by
  have sc : FnScope ["many", "size", "found", "at"] ["many", "size"] (defScope Hd.s_choose) := ⟨rfl, rfl, rfl, by decide +kernel, rfl, by decide +kernel, by decide +kernel⟩
  exact clM (g := I.g K) (N := ["many", "size", "found", "at"]) Tx.d_choose sc (fun _ _ _ _ _ _ us hl => match us, hl with | [_, _], _ => rfl) rfl (by decide) (fun f cd B fr t H E hg hr => by
    have hu64 := hr.units; have hu0 := hr.units0; have hu1 := Nat.lt_of_le_of_lt (Nat.add_le_add_left (by decide : 1 ≤ 64) _) hu64
    exact ⟨_, (pss_cons (ps_if (PW.pt (pw_or (pt_cmpR (op_ltU hu0) (pv 1) pe_int (nomark _)) (pw_or1 (pt_cmpR (op_ltU hu0) (pv 0) (pv 1) (nomark _))))) (pss_one (ps_ret pe_int)) pss_nil)
      (pss_cons (ps_set (i := 2) sc.nd rfl (Or.inl rfl) pe_int)
      (pss_cons (ps_for PassesOwn.never rfl (pi_range1 (by rfl) Tx.b_range (pa_cons (pv 1) pa_nil)) (pg_name (i := 3) sc.nd rfl (Or.inl rfl)) (pss_one (ps_set (i := 2) sc.nd rfl (Or.inl rfl) (pe_op op_fdivW (pe_op op_mulU (pv 2) (pe_op op_sub (pv 0) (pv 3))) (pe_op op_addU (pv 3) pe_int)))))
      (pss_one (ps_ret (pv 2)))))),
      (den_seq (den_ifS (den_or (den_test (den_op do_lt (DenE.o den_var) (DenE.o den_int))) (den_test (den_op do_lt (DenE.o den_var) (DenE.o den_var)))) (den_ret den_int) den_next)
      (den_seq (den_asg den_int den_name)
      (den_seq (den_for (den_rng1 (den_cons den_var den_nil)) den_name (den_asg (den_op do_intC (DenE.o (den_op do_mul (DenE.o den_var) (DenE.o (den_op do_int (DenE.o den_var) (DenE.o den_var))))) (DenE.o (den_op do_add (DenE.o den_var) (DenE.o den_int)))) den_name))
      (den_ret den_var))))⟩)
theorem c_rests_by (Tx : Tx K mg) : Cl P w K mg base 1 "rests_by" "rests_by" Hd.s_rests_by ["counts", "holes"] (spX (I.g K) 2 m_rests_by) := by
  have sc : FnScope ["counts", "holes", "found", "many", "own"] ["counts", "holes"] (defScope Hd.s_rests_by) := ⟨rfl, rfl, rfl, by decide +kernel, rfl, by decide +kernel, by decide +kernel⟩
  exact clM (g := I.g K) (N := ["counts", "holes", "found", "many", "own"]) Tx.d_rests_by sc (fun _ _ _ _ _ _ us hl => match us, hl with | [_, _], _ => rfl) rfl (by decide) (fun f cd B fr t H E hg hr => by
    have hu64 := hr.units; have hu0 := hr.units0; have hu1 := Nat.lt_of_le_of_lt (Nat.add_le_add_left (by decide : 1 ≤ 64) _) hu64
    exact ⟨_, (pss_cons (ps_set (i := 2) sc.nd rfl (Or.inl rfl) (pe_lst (pa_cons pe_int pa_nil)))
      (pss_cons (ps_for PassesOwn.never rfl (pi_zipM (by rfl) Tx.b_zip (pa_cons (pe_or2 (pe_revL (pv 0)) (HR3.pe_revT (pv 0))) (pa_cons (pe_or2 (pe_revL (pv 1)) (HR3.pe_revT (pv 1))) pa_nil))) (pg_tup rfl (pgs_cons (pg_name (i := 3) sc.nd rfl (Or.inl rfl)) (pgs_cons (pg_name (i := 4) sc.nd rfl (Or.inl rfl)) pgs_nil))) (pss_one (ps_expr (pe_bm PySem.F.plainAttrs_list PySem.F.slot_list_append PySem.F.type_list_append mt_append (pv 2) (pa_cons (pe_op op_sub (pe_op op_sub (pv 3) (pv 4)) (pe_ix ix_any (pv 2) (pe_un un_neg pe_int) (fun _ _ => rfl))) pa_nil)))))
      (pss_one (ps_ret (pe_callTy call_tuple_of (by rfl) Tx.b_tuple (by decide +kernel) (pa_cons (pe_or2 (pe_revL (pv 2)) (HR3.pe_revT (pv 2))) pa_nil)))))),
      (den_seq (den_asgO (den_lst (den_cons den_int den_nil)))
      (den_seq (den_for (den_zipM (den_cons (den_or2 (den_revL (DenE.o den_var)) (den_revT (DenE.o den_var))) (den_cons (den_or2 (den_revL (DenE.o den_var)) (den_revT (DenE.o den_var))) den_nil))) (den_gtup (den_gcons (ws := [3, 4]) den_name (den_gcons (ws := [4]) den_name (den_gnil (vs := [])) (by decide)) (by decide))) (den_app (den_op do_int (DenE.o (den_op do_int (DenE.o den_var) (DenE.o den_var))) (DenE.o (den_op do_ix den_own (DenE.o (den_un do_neg (DenE.o den_int))))))))
      (den_ret (den_cb do_tuple (den_consO (DenE.o (den_or2 (den_revL den_own) (den_revT den_own))) den_nilO)))))⟩)
theorem c_law_deck (Tx : Tx K mg) : Cl P w K mg base 1 "_law_deck" "_law_deck" Hd.s_law_deck ["script"] (spDeck I K) := by
  have sc : FnScope ["script", "mixed", "cell"] ["script"] (defScope Hd.s_law_deck) := ⟨rfl, rfl, rfl, by decide +kernel, rfl, by decide +kernel, by decide +kernel⟩
  refine cl Tx.d_law_deck sc (fun _ _ _ _ _ _ us hl => match us, hl with | [_], _ => rfl) (fun xs H Q E h => ?_) (fun f cd B fr t H xs Q E hg hr h => ⟨HD.t_law_deck K, ?_, HD.rd_law_deck (E := E) h⟩)
  · unfold spDeck at h
    obtain ⟨_, _, rfl, _⟩ := h
    rfl
  · have hu64 := hr.units
    have hu0 := hr.units0
    have hu1 := Nat.lt_of_le_of_lt (Nat.add_le_add_left (by decide : 1 ≤ 64) _) hu64
    exact (pss_cons (ps_set (i := 1) sc.nd rfl (Or.inl rfl) pe_int)
      (pss_cons (ps_for PassesOwn.never rfl (pi_list (pe_slice sl_list (pv 0) po_none (po_some pe_int))) (pg_name (i := 2) sc.nd rfl (Or.inl rfl)) (pss_one (ps_set (i := 1) sc.nd rfl (Or.inl rfl) (pe_op op_mod (pe_callTy call_int1 (by rfl) Tx.b_int (by decide +kernel) (pa_cons (pe_op op_add (pe_op op_add (pe_op op_mulO (pv 1) pe_int) (pe_op op_mod (pe_callTy call_int1 (by rfl) Tx.b_int (by decide +kernel) (pa_cons (pv 2) pa_nil)) pe_int)) pe_int) pa_nil)) pe_int))))
      (pss_one (ps_ret (pe_disp (pps_cons pe_str (pe_revL (pe_lc (own := [("cell", 2)]) (g := gName 2) (tt := tYes) rfl sc.nd (pi_list (pe_slice sl_list (pv 0) po_none (po_some pe_int))) (blkOk_by (N := ["script", "mixed", "cell"]) (sc := defScope Hd.s_law_deck) (by decide +kernel)) (fun _ _ _ _ _ => (pg_name (i := 2) sc.nd rfl (Or.inl rfl))) (fun _ _ _ _ _ => pts_nil) (fun _ _ _ _ _ => (pe_callTy call_int1 (by rfl) Tx.b_int (by decide +kernel) (pa_cons (pv 2) pa_nil))))) (pps_cons pe_str (pv 1) (pps_cons pe_str pe_int pps_nil))) rfl rfl (by simp) (by decide))))))
theorem c_law_draw (Tx : Tx K mg) : Cl P w K mg base 1 "_law_draw" "_law_draw" Hd.s_law_draw ["deck", "below"] (spDraw I) := by
  have sc : FnScope ["deck", "below", "figure", "cell"] ["deck", "below"] (defScope Hd.s_law_draw) := ⟨rfl, rfl, rfl, by decide +kernel, rfl, by decide +kernel, by decide +kernel⟩
  refine cl Tx.d_law_draw sc (fun _ _ _ _ _ _ us hl => match us, hl with | [_, _], _ => rfl) (fun xs H Q E h => ?_) (fun f cd B fr t H xs Q E hg hr h => ⟨HD.t_law_draw K, ?_, HD.rd_law_draw (E := E) h⟩)
  · unfold spDraw at h
    obtain ⟨_, _, _, rfl, _⟩ := h
    rfl
  · have hu64 := hr.units
    have hu0 := hr.units0
    have hu1 := Nat.lt_of_le_of_lt (Nat.add_le_add_left (by decide : 1 ≤ 64) _) hu64
    exact (pss_cons (ps_dput hu1 (pv 0) pe_str (pe_op op_add (pe_dget hu1 (pv 0) pe_str (fun _ _ => rfl)) pe_int) rfl)
      (pss_cons (ps_set (i := 2) sc.nd rfl (Or.inl rfl) (pe_op op_add (pe_dget hu1 (pv 0) pe_str (fun _ _ => rfl)) (pe_op op_mulO pe_int (pe_dget hu1 (pv 0) pe_str (fun _ _ => rfl)))))
      (pss_cons (ps_if (pt_cmpR (op_neD hu64) (pe_dget hu1 (pv 0) pe_str (fun _ _ => rfl)) (pe_lst pa_nil) (nomark _)) (pss_cons (ps_set (i := 3) sc.nd rfl (Or.inl rfl) (pe_bm0 PySem.F.plainAttrs_list PySem.F.slot_list_pop PySem.F.type_list_pop mt_pop (pe_dget hu1 (pv 0) pe_str (fun _ _ => rfl))))
      (pss_cons (ps_if (pt_cmpR op_ge (pv 3) (pe_op op_pow pe_int pe_int) (nomark _)) (pss_cons (ps_expr (pe_bm PySem.F.plainAttrs_list PySem.F.slot_list_append PySem.F.type_list_append mt_append (pe_dget hu1 (pv 0) pe_str (fun _ _ => rfl)) (pa_cons (pe_op op_fdivW (pv 3) (pe_callB (call_max2 rfl) (by rfl) Tx.b_max (by decide +kernel) (pa_cons pe_int (pa_cons (pv 1) pa_nil)))) pa_nil)))
      (pss_one (ps_ret (pe_op op_mod (pe_callTy call_int1 (by rfl) Tx.b_int (by decide +kernel) (pa_cons (pv 3) pa_nil)) (pv 1))))) pss_nil)
      (pss_one (ps_set (i := 2) sc.nd rfl (Or.inl rfl) (pe_op op_add (pv 2) (pe_op op_mod (pe_callTy call_int1 (by rfl) Tx.b_int (by decide +kernel) (pa_cons (pv 3) pa_nil)) pe_int)))))) pss_nil)
      (pss_cons (ps_set (i := 2) sc.nd rfl (Or.inl rfl) (pe_op op_mod (pe_callTy call_int1 (by rfl) Tx.b_int (by decide +kernel) (pa_cons (pe_op op_add (pe_op op_mulO (pv 2) pe_int) pe_int) pa_nil)) pe_int))
      (pss_cons (ps_set (i := 2) sc.nd rfl (Or.inl rfl) (pe_op op_mod (pe_callTy call_int1 (by rfl) Tx.b_int (by decide +kernel) (pa_cons (pe_op op_add (pe_op op_add (pe_op op_mulO (pv 2) (pv 2)) (pe_op op_mulO pe_int (pe_dget hu1 (pv 0) pe_str (fun _ _ => rfl)))) pe_int) pa_nil)) pe_int))
      (pss_cons (ps_set (i := 2) sc.nd rfl (Or.inl rfl) (pe_op op_mod (pe_callTy call_int1 (by rfl) Tx.b_int (by decide +kernel) (pa_cons (pe_op op_mulO (pv 2) pe_int) pa_nil)) pe_int))
      (pss_one (ps_ret (pe_op op_mod (pe_callTy call_int1 (by rfl) Tx.b_int (by decide +kernel) (pa_cons (pe_op op_fdivW (pv 2) pe_int) pa_nil)) (pv 1))))))))))
theorem c_law_is_integer (Tx : Tx K mg) : Cl P w K mg base 1 "_law_is_integer" "_law_is_integer" Hd.s_law_is_integer ["thing"] (spX (I.g K) 1 m_law_is_integer) := by
  have sc : FnScope ["thing"] ["thing"] (defScope Hd.s_law_is_integer) := ⟨rfl, rfl, rfl, by decide +kernel, rfl, by decide +kernel, by decide +kernel⟩
  exact clM (g := I.g K) (N := ["thing"]) Tx.d_law_is_integer sc (fun _ _ _ _ _ _ us hl => match us, hl with | [_], _ => rfl) rfl (by decide) (fun f cd B fr t H E hg hr => by
    have hu64 := hr.units; have hu0 := hr.units0; have hu1 := Nat.lt_of_le_of_lt (Nat.add_le_add_left (by decide : 1 ≤ 64) _) hu64
    exact ⟨_, (pss_one (ps_ret (pe_and (pe_callB call_isi (by rfl) Tx.b_isinstance (by decide +kernel) (pa_cons (pv 0) (pa_cons (pe_bltn (by rfl) Tx.b_int (by decide +kernel) (show RelV (.ty "int") _ from rfl)) pa_nil))) (pe_one (pe_not (pe_callB call_isi (by rfl) Tx.b_isinstance (by decide +kernel) (pa_cons (pv 0) (pa_cons (pe_bltn (by rfl) Tx.b_bool (by decide +kernel) (show RelV (.ty "bool") _ from rfl)) pa_nil)))))))),
      (den_ret (den_andV (den_cb do_isi (den_consO (DenE.o den_var) (den_consO (DenE.o den_ty) den_nilO))) (den_notV (den_cb do_isi (den_consO (DenE.o den_var) (den_consO (DenE.o den_ty) den_nilO))))))⟩)
theorem c_law_choose (Tx : Tx K mg) : Cl P w K mg base 1 "_law_choose" "_law_choose" Hd.s_law_choose ["a", "b"] (spX (I.g K) 2 m_law_choose) := by
  have sc : FnScope ["a", "b", "found", "i"] ["a", "b"] (defScope Hd.s_law_choose) := ⟨rfl, rfl, rfl, by decide +kernel, rfl, by decide +kernel, by decide +kernel⟩
  exact clM (g := I.g K) (N := ["a", "b", "found", "i"]) Tx.d_law_choose sc (fun _ _ _ _ _ _ us hl => match us, hl with | [_, _], _ => rfl) rfl (by decide) (fun f cd B fr t H E hg hr => by
    have hu64 := hr.units; have hu0 := hr.units0; have hu1 := Nat.lt_of_le_of_lt (Nat.add_le_add_left (by decide : 1 ≤ 64) _) hu64
    exact ⟨_, (pss_cons (ps_if (pt_cmpR op_gt (pv 1) (pv 0) (nomark _)) (pss_one (ps_ret pe_int)) pss_nil)
      (pss_cons (ps_set (i := 2) sc.nd rfl (Or.inl rfl) pe_int)
      (pss_cons (ps_for PassesOwn.never rfl (pi_range1 (by rfl) Tx.b_range (pa_cons (pv 1) pa_nil)) (pg_name (i := 3) sc.nd rfl (Or.inl rfl)) (pss_one (ps_set (i := 2) sc.nd rfl (Or.inl rfl) (pe_op op_fdivW (pe_op op_mulU (pv 2) (pe_op op_sub (pv 0) (pv 3))) (pe_op op_addU (pv 3) pe_int)))))
      (pss_one (ps_ret (pv 2)))))),
      (den_seq (den_ifS (den_test (den_op do_cmp (DenE.o den_var) (DenE.o den_var))) (den_ret den_int) den_next)
      (den_seq (den_asg den_int den_name)
      (den_seq (den_for (den_rng1 (den_cons den_var den_nil)) den_name (den_asg (den_op do_intC (DenE.o (den_op do_mul (DenE.o den_var) (DenE.o (den_op do_int (DenE.o den_var) (DenE.o den_var))))) (DenE.o (den_op do_add (DenE.o den_var) (DenE.o den_int)))) den_name))
      (den_ret den_var))))⟩)
theorem c_law_rests (Tx : Tx K mg) : Cl P w K mg base 1 "_law_rests" "_law_rests" Hd.s_law_rests ["counts", "holes"] (spX (I.g K) 2 m_law_rests) := by
  have sc : FnScope ["counts", "holes", "found", "count", "hole"] ["counts", "holes"] (defScope Hd.s_law_rests) := ⟨rfl, rfl, rfl, by decide +kernel, rfl, by decide +kernel, by decide +kernel⟩
  exact clM (g := I.g K) (N := ["counts", "holes", "found", "count", "hole"]) Tx.d_law_rests sc (fun _ _ _ _ _ _ us hl => match us, hl with | [_, _], _ => rfl) rfl (by decide) (fun f cd B fr t H E hg hr => by
    have hu64 := hr.units; have hu0 := hr.units0; have hu1 := Nat.lt_of_le_of_lt (Nat.add_le_add_left (by decide : 1 ≤ 64) _) hu64
    exact ⟨_, (pss_cons (ps_set (i := 2) sc.nd rfl (Or.inl rfl) (pe_lst (pa_cons pe_int pa_nil)))
      (pss_cons (ps_for PassesOwn.never rfl (pi_zipM (by rfl) Tx.b_zip (pa_cons (pe_or2 (pe_revL (pv 0)) (HR3.pe_revT (pv 0))) (pa_cons (pe_or2 (pe_revL (pv 1)) (HR3.pe_revT (pv 1))) pa_nil))) (pg_tup rfl (pgs_cons (pg_name (i := 3) sc.nd rfl (Or.inl rfl)) (pgs_cons (pg_name (i := 4) sc.nd rfl (Or.inl rfl)) pgs_nil))) (pss_one (ps_expr (pe_bm PySem.F.plainAttrs_list PySem.F.slot_list_append PySem.F.type_list_append mt_append (pv 2) (pa_cons (pe_op op_sub (pe_op op_sub (pv 3) (pv 4)) (pe_ix ix_any (pv 2) (pe_un un_neg pe_int) (fun _ _ => rfl))) pa_nil)))))
      (pss_one (ps_ret (pe_callTy call_tuple_of (by rfl) Tx.b_tuple (by decide +kernel) (pa_cons (pe_or2 (pe_revL (pv 2)) (HR3.pe_revT (pv 2))) pa_nil)))))),
      (den_seq (den_asgO (den_lst (den_cons den_int den_nil)))
      (den_seq (den_for (den_zipM (den_cons (den_or2 (den_revL (DenE.o den_var)) (den_revT (DenE.o den_var))) (den_cons (den_or2 (den_revL (DenE.o den_var)) (den_revT (DenE.o den_var))) den_nil))) (den_gtup (den_gcons (ws := [3, 4]) den_name (den_gcons (ws := [4]) den_name (den_gnil (vs := [])) (by decide)) (by decide))) (den_app (den_op do_int (DenE.o (den_op do_int (DenE.o den_var) (DenE.o den_var))) (DenE.o (den_op do_ix den_own (DenE.o (den_un do_neg (DenE.o den_int))))))))
      (den_ret (den_cb do_tuple (den_consO (DenE.o (den_or2 (den_revL den_own) (den_revT den_own))) den_nilO)))))⟩)
theorem c_law_least_holes (Tx : Tx K mg) : Cl P w K mg base 1 "_law_least_holes" "_law_least_holes" Hd.s_law_least_holes ["counts", "least"] (spX (I.g K) 2 m_law_least_holes) := by
  have sc : FnScope ["counts", "least", "found", "d", "k", "before", "behind"] ["counts", "least"] (defScope Hd.s_law_least_holes) := ⟨rfl, rfl, rfl, by decide +kernel, rfl, by decide +kernel, by decide +kernel⟩
  exact clM (g := I.g K) (N := ["counts", "least", "found", "d", "k", "before", "behind"]) Tx.d_law_least_holes sc (fun _ _ _ _ _ _ us hl => match us, hl with | [_, _], _ => rfl) rfl (by decide) (fun f cd B fr t H E hg hr => by
    have hu64 := hr.units; have hu0 := hr.units0; have hu1 := Nat.lt_of_le_of_lt (Nat.add_le_add_left (by decide : 1 ≤ 64) _) hu64
    exact ⟨_, (pss_cons (ps_par (i := 2) (j := 3) rfl sc.nd rfl rfl (by decide) rfl rfl (pa_cons (pe_lst pa_nil) (pa_cons (pe_callB call_lenU (by rfl) Tx.b_len (by decide +kernel) (pa_cons (pv 0) pa_nil)) pa_nil)) (by rfl))
      (pss_cons (ps_for PassesOwn.never rfl (pi_range1 (by rfl) Tx.b_range (pa_cons (pv 3) pa_nil)) (pg_name (i := 4) sc.nd rfl (Or.inl rfl)) (pss_cons (ps_set (i := 5) sc.nd rfl (Or.inl rfl) (pe_ifExp (pt_cmpR (op_eqU hu64) (pv 4) pe_int (nomark _)) pe_int (pe_op op_sub (pe_ix ix_any (pv 0) (pe_op op_sub (pv 4) pe_int) (fun _ _ => rfl)) (pe_ix ix_any (pv 1) (pe_op op_sub (pv 4) pe_int) (fun _ _ => rfl)))))
      (pss_cons (ps_set (i := 6) sc.nd rfl (Or.inl rfl) (pe_ifExp (pt_cmpR (op_eqU hu64) (pv 4) (pe_op op_sub (pv 3) pe_int) (nomark _)) pe_int (pe_op op_sub (pe_ix ix_any (pv 0) (pe_op op_addU (pv 4) pe_int) (fun _ _ => rfl)) (pe_ix ix_any (pv 1) (pe_op op_addU (pv 4) pe_int) (fun _ _ => rfl)))))
      (pss_one (ps_expr (pe_bm PySem.F.plainAttrs_list PySem.F.slot_list_append PySem.F.type_list_append mt_append (pv 2) (pa_cons (pe_callB (call_maxU rfl) (by rfl) Tx.b_max (by decide +kernel) (pa_cons pe_int (pa_cons (pe_op op_sub (pe_op op_sub (pe_ix ix_any (pv 0) (pv 4) (fun _ _ => rfl)) (pv 5)) (pv 6)) pa_nil))) pa_nil)))))))
      (pss_one (ps_ret (pe_callTy call_tuple_of (by rfl) Tx.b_tuple (by decide +kernel) (pa_cons (pv 2) pa_nil)))))),
      (den_seq (den_parO (den_lst den_nil) (den_cb do_len (den_consO (DenE.o den_var) den_nilO)))
      (den_seq (den_for (den_rng1 (den_cons den_var den_nil)) den_name (den_seq (den_asg (den_if (den_test (den_op do_eq (DenE.o den_var) (DenE.o den_int))) den_int (den_op do_int (DenE.o (den_op do_ix (DenE.o den_var) (DenE.o (den_op do_int (DenE.o den_var) (DenE.o den_int))))) (DenE.o (den_op do_ix (DenE.o den_var) (DenE.o (den_op do_int (DenE.o den_var) (DenE.o den_int))))))) den_name)
      (den_seq (den_asg (den_if (den_test (den_op do_eq (DenE.o den_var) (DenE.o (den_op do_int (DenE.o den_var) (DenE.o den_int))))) den_int (den_op do_int (DenE.o (den_op do_ix (DenE.o den_var) (DenE.o (den_op do_add (DenE.o den_var) (DenE.o den_int))))) (DenE.o (den_op do_ix (DenE.o den_var) (DenE.o (den_op do_add (DenE.o den_var) (DenE.o den_int))))))) den_name)
      (den_app (den_cb do_max (den_consO (DenE.o den_int) (den_consO (DenE.o (den_op do_int (DenE.o (den_op do_int (DenE.o (den_op do_ix (DenE.o den_var) (DenE.o den_var))) (DenE.o den_var))) (DenE.o den_var))) den_nilO)))))))
      (den_ret (den_cb do_tuple (den_consO den_own den_nilO)))))⟩)
theorem c_is_count (Tx : Tx K mg) : Cl P w K mg base 2 "is_count" "is_count" Hd.s_is_count ["thing"] (spX (I.g K) 1 m_is_count) := by
  have sc : FnScope ["thing"] ["thing"] (defScope Hd.s_is_count) := ⟨rfl, rfl, rfl, by decide +kernel, rfl, by decide +kernel, by decide +kernel⟩
  exact clM (g := I.g K) (N := ["thing"]) Tx.d_is_count sc (fun _ _ _ _ _ _ us hl => match us, hl with | [_], _ => rfl) rfl (by decide) (fun f cd B fr t H E hg hr => by
    have hu64 := hr.units; have hu0 := hr.units0; have hu1 := Nat.lt_of_le_of_lt (Nat.add_le_add_left (by decide : 1 ≤ 64) _) hu64
    exact ⟨_, (pss_one (ps_ret (pe_and (pe_gc (c_is_whole Tx) hg hr (by decide) rfl (pa_cons (pv 0) pa_nil)) (pe_one (pe_cmpR op_ge (pv 0) pe_int (nomark _)))))),
      (den_ret (den_andV (den_call0 imp_self (den_cons den_var den_nil)) (den_op do_cmp (DenE.o den_var) (DenE.o den_int))))⟩)
theorem c_is_size (Tx : Tx K mg) : Cl P w K mg base 2 "is_size" "is_size" Hd.s_is_size ["thing"] (spX (I.g K) 1 m_is_size) := by
  have sc : FnScope ["thing"] ["thing"] (defScope Hd.s_is_size) := ⟨rfl, rfl, rfl, by decide +kernel, rfl, by decide +kernel, by decide +kernel⟩
  exact clM (g := I.g K) (N := ["thing"]) Tx.d_is_size sc (fun _ _ _ _ _ _ us hl => match us, hl with | [_], _ => rfl) rfl (by decide) (fun f cd B fr t H E hg hr => by
    have hu64 := hr.units; have hu0 := hr.units0; have hu1 := Nat.lt_of_le_of_lt (Nat.add_le_add_left (by decide : 1 ≤ 64) _) hu64
    exact ⟨_, (pss_one (ps_ret (pe_and (pe_gc (c_is_whole Tx) hg hr (by decide) rfl (pa_cons (pv 0) pa_nil)) (pe_one (pe_cmpR op_ge (pv 0) pe_int (nomark _)))))),
      (den_ret (den_andV (den_call0 imp_self (den_cons den_var den_nil)) (den_op do_cmp (DenE.o den_var) (DenE.o den_int))))⟩)
theorem c_greatest_many (Tx : Tx K mg) : Cl P w K mg base 2 "greatest_many" "greatest_many" Hd.s_greatest_many ["number", "size"] (spX (I.g K) 2 m_greatest_many) := by
  have sc : FnScope ["number", "size", "low", "high", "middle"] ["number", "size"] (defScope Hd.s_greatest_many) := ⟨rfl, rfl, rfl, by decide +kernel, rfl, by decide +kernel, by decide +kernel⟩
  exact clM (g := I.g K) (N := ["number", "size", "low", "high", "middle"]) Tx.d_greatest_many sc (fun _ _ _ _ _ _ us hl => match us, hl with | [_, _], _ => rfl) rfl (by decide) (fun f cd B fr t H E hg hr => by
    have hu64 := hr.units; have hu0 := hr.units0; have hu1 := Nat.lt_of_le_of_lt (Nat.add_le_add_left (by decide : 1 ≤ 64) _) hu64
    exact ⟨_, (pss_cons (ps_par (i := 2) (j := 3) rfl sc.nd rfl rfl (by decide) rfl rfl (pa_cons (pv 1) (pa_cons (pe_op op_mulU pe_int (pv 1)) pa_nil)) (by rfl))
      (pss_cons (ps_while PassesOwn.never (pt_cmpR op_le (pe_gc (c_choose Tx) hg hr (by decide) rfl (pa_cons (pv 3) (pa_cons (pv 1) pa_nil))) (pv 0) (nomark _)) (pss_one (ps_par (i := 2) (j := 3) rfl sc.nd rfl rfl (by decide) rfl rfl (pa_cons (pv 3) (pa_cons (pe_op op_mulU pe_int (pv 3)) pa_nil)) (by rfl))))
      (pss_cons (ps_while PassesOwn.never (pt_cmpR op_gt (pe_op op_sub (pv 3) (pv 2)) pe_int (nomark _)) (pss_cons (ps_set (i := 4) sc.nd rfl (Or.inl rfl) (pe_op op_fdivW (pe_op op_addU (pv 2) (pv 3)) pe_int))
      (pss_one (ps_if (pt_cmpR op_le (pe_gc (c_choose Tx) hg hr (by decide) rfl (pa_cons (pv 4) (pa_cons (pv 1) pa_nil))) (pv 0) (nomark _)) (pss_one (ps_set (i := 2) sc.nd rfl (Or.inl rfl) (pv 4))) (pss_one (ps_set (i := 3) sc.nd rfl (Or.inl rfl) (pv 4)))))))
      (pss_one (ps_ret (pv 2)))))),
      (den_seq (den_par (den_cons den_var (den_cons (den_op do_mul (DenE.o den_int) (DenE.o den_var)) den_nil)))
      (den_seq (den_while (den_test (den_op do_cmp (DenE.o (den_call0 imp_self (den_cons den_var (den_cons den_var den_nil)))) (DenE.o den_var))) (den_par (den_cons den_var (den_cons (den_op do_mul (DenE.o den_int) (DenE.o den_var)) den_nil))))
      (den_seq (den_while (den_test (den_op do_cmp (DenE.o (den_op do_int (DenE.o den_var) (DenE.o den_var))) (DenE.o den_int))) (den_seq (den_asg (den_op do_intC (DenE.o (den_op do_add (DenE.o den_var) (DenE.o den_var))) (DenE.o den_int)) den_name)
      (den_ifS (den_test (den_op do_cmp (DenE.o (den_call0 imp_self (den_cons den_var (den_cons den_var den_nil)))) (DenE.o den_var))) (den_asg den_var den_name) (den_asg den_var den_name))))
      (den_ret den_var))))⟩)
theorem c_law_pick (Tx : Tx K mg) : Cl P w K mg base 2 "_law_pick" "_law_pick" Hd.s_law_pick ["deck", "some"] (spX (I.g K) 2 m_law_pick) := by
  have sc : FnScope ["deck", "some"] ["deck", "some"] (defScope Hd.s_law_pick) := ⟨rfl, rfl, rfl, by decide +kernel, rfl, by decide +kernel, by decide +kernel⟩
  exact clM (g := I.g K) (N := ["deck", "some"]) Tx.d_law_pick sc (fun _ _ _ _ _ _ us hl => match us, hl with | [_, _], _ => rfl) rfl (by decide) (fun f cd B fr t H E hg hr => by
    have hu64 := hr.units; have hu0 := hr.units0; have hu1 := Nat.lt_of_le_of_lt (Nat.add_le_add_left (by decide : 1 ≤ 64) _) hu64
    exact ⟨_, (pss_one (ps_ret (pe_ix ix_any (pv 1) (pe_gc (c_law_draw Tx) hg hr (by decide) rfl (pa_cons (pv 0) (pa_cons (pe_callB call_lenU (by rfl) Tx.b_len (by decide +kernel) (pa_cons (pv 1) pa_nil)) pa_nil))) (fun _ _ => rfl)))),
      (den_ret (den_op do_ix (DenE.o den_var) (DenE.o (den_call0 (imp_draw I) (den_cons den_var (den_cons (den_cb do_len (den_consO (DenE.o den_var) den_nilO)) den_nil))))))⟩)
theorem c_law_are_integers (Tx : Tx K mg) : Cl P w K mg base 2 "_law_are_integers" "_law_are_integers" Hd.s_law_are_integers ["thing", "many"] (spX (I.g K) 2 m_law_are_integers) := by
  have sc : FnScope ["thing", "many", "x"] ["thing", "many"] (defScope Hd.s_law_are_integers) := ⟨rfl, rfl, rfl, by decide +kernel, rfl, by decide +kernel, by decide +kernel⟩
  exact clM (g := I.g K) (N := ["thing", "many", "x"]) Tx.d_law_are_integers sc (fun _ _ _ _ _ _ us hl => match us, hl with | [_, _], _ => rfl) rfl (by decide) (fun f cd B fr t H E hg hr => by
    have hu64 := hr.units; have hu0 := hr.units0; have hu1 := Nat.lt_of_le_of_lt (Nat.add_le_add_left (by decide : 1 ≤ 64) _) hu64
    exact ⟨_, (pss_one (ps_ret (pe_and (pe_callB call_isi (by rfl) Tx.b_isinstance (by decide +kernel) (pa_cons (pv 0) (pa_cons (pe_bltn (by rfl) Tx.b_tuple (by decide +kernel) (show RelV (.ty "tuple") _ from rfl)) pa_nil))) (pe_and (pe_cmpR (op_eqU hu64) (pe_callB call_lenU (by rfl) Tx.b_len (by decide +kernel) (pa_cons (pv 0) pa_nil)) (pv 1) (nomark _)) (pe_one (pe_cmpR (op_eqU hu64) (pe_lc (own := [("x", 2)]) (g := gName 2)  rfl sc.nd (pi_seq (pv 0)) (blkOk_by (N := ["thing", "many", "x"]) (sc := defScope Hd.s_law_are_integers) (by decide +kernel)) (fun _ _ _ _ _ => (pg_name (i := 2) sc.nd rfl (Or.inl rfl))) (fun _ _ _ _ _ => (pts_one (pt_not (pt_val (pe_gc (c_law_is_integer Tx) hg hr (by decide) rfl (pa_cons (pv 2) pa_nil)))))) (fun _ _ _ _ _ => pe_int)) (pe_lst pa_nil) (nomark _))))))),
      (den_ret (den_andV (den_cb do_isi (den_consO (DenE.o den_var) (den_consO (DenE.o den_ty) den_nilO))) (den_andV (den_op do_eq (DenE.o (den_cb do_len (den_consO (DenE.o den_var) den_nilO))) (DenE.o den_var)) (den_op do_eq (DenE.o (DenF.e (den_lc (ps := []) (den_seqI den_var) den_name (den_not (den_B (den_call0 imp_self (den_cons den_var den_nil)))) den_int rfl))) (DenE.o (DenF.e (den_lst den_nil)))))))⟩)
theorem c_law_top (Tx : Tx K mg) : Cl P w K mg base 2 "_law_top" "_law_top" Hd.s_law_top ["number", "size"] (spX (I.g K) 2 m_law_top) := by
  have sc : FnScope ["number", "size", "low", "high", "middle"] ["number", "size"] (defScope Hd.s_law_top) := ⟨rfl, rfl, rfl, by decide +kernel, rfl, by decide +kernel, by decide +kernel⟩
  exact clM (g := I.g K) (N := ["number", "size", "low", "high", "middle"]) Tx.d_law_top sc (fun _ _ _ _ _ _ us hl => match us, hl with | [_, _], _ => rfl) rfl (by decide) (fun f cd B fr t H E hg hr => by
    have hu64 := hr.units; have hu0 := hr.units0; have hu1 := Nat.lt_of_le_of_lt (Nat.add_le_add_left (by decide : 1 ≤ 64) _) hu64
    exact ⟨_, (pss_cons (ps_par (i := 2) (j := 3) rfl sc.nd rfl rfl (by decide) rfl rfl (pa_cons (pv 1) (pa_cons (pe_op op_addU (pv 1) pe_int) pa_nil)) (by rfl))
      (pss_cons (ps_while PassesOwn.never (pt_cmpR op_le (pe_gc (c_law_choose Tx) hg hr (by decide) rfl (pa_cons (pv 3) (pa_cons (pv 1) pa_nil))) (pv 0) (nomark _)) (pss_one (ps_par (i := 2) (j := 3) rfl sc.nd rfl rfl (by decide) rfl rfl (pa_cons (pv 3) (pa_cons (pe_op op_addU (pe_op op_mulU pe_int (pv 3)) pe_int) pa_nil)) (by rfl))))
      (pss_cons (ps_while PassesOwn.never (pt_cmpR op_gt (pe_op op_sub (pv 3) (pv 2)) pe_int (nomark _)) (pss_cons (ps_set (i := 4) sc.nd rfl (Or.inl rfl) (pe_op op_fdivW (pe_op op_addU (pv 2) (pv 3)) pe_int))
      (pss_one (ps_if (pt_cmpR op_le (pe_gc (c_law_choose Tx) hg hr (by decide) rfl (pa_cons (pv 4) (pa_cons (pv 1) pa_nil))) (pv 0) (nomark _)) (pss_one (ps_set (i := 2) sc.nd rfl (Or.inl rfl) (pv 4))) (pss_one (ps_set (i := 3) sc.nd rfl (Or.inl rfl) (pv 4)))))))
      (pss_one (ps_ret (pv 2)))))),
      (den_seq (den_par (den_cons den_var (den_cons (den_op do_add (DenE.o den_var) (DenE.o den_int)) den_nil)))
      (den_seq (den_while (den_test (den_op do_cmp (DenE.o (den_call0 imp_self (den_cons den_var (den_cons den_var den_nil)))) (DenE.o den_var))) (den_par (den_cons den_var (den_cons (den_op do_add (DenE.o (den_op do_mul (DenE.o den_int) (DenE.o den_var))) (DenE.o den_int)) den_nil))))
      (den_seq (den_while (den_test (den_op do_cmp (DenE.o (den_op do_int (DenE.o den_var) (DenE.o den_var))) (DenE.o den_int))) (den_seq (den_asg (den_op do_intC (DenE.o (den_op do_add (DenE.o den_var) (DenE.o den_var))) (DenE.o den_int)) den_name)
      (den_ifS (den_test (den_op do_cmp (DenE.o (den_call0 imp_self (den_cons den_var (den_cons den_var den_nil)))) (DenE.o den_var))) (den_asg den_var den_name) (den_asg den_var den_name))))
      (den_ret den_var))))⟩)
theorem c_law_below (Tx : Tx K mg) : Cl P w K mg base 2 "_law_below" "_law_below" Hd.s_law_below ["deck", "greatest"] (spX (I.g K) 2 m_law_below) := by
  have sc : FnScope ["deck", "greatest", "found", "room"] ["deck", "greatest"] (defScope Hd.s_law_below) := ⟨rfl, rfl, rfl, by decide +kernel, rfl, by decide +kernel, by decide +kernel⟩
  exact clM (g := I.g K) (N := ["deck", "greatest", "found", "room"]) Tx.d_law_below sc (fun _ _ _ _ _ _ us hl => match us, hl with | [_, _], _ => rfl) rfl (by decide) (fun f cd B fr t H E hg hr => by
    have hu64 := hr.units; have hu0 := hr.units0; have hu1 := Nat.lt_of_le_of_lt (Nat.add_le_add_left (by decide : 1 ≤ 64) _) hu64
    exact ⟨_, (pss_cons (ps_asg (pe_tup (pa_cons pe_int (pa_cons pe_int pa_nil))) (pg_tup rfl (pgs_cons (pg_name (i := 2) sc.nd rfl (Or.inl rfl)) (pgs_cons (pg_name (i := 3) sc.nd rfl (Or.inl rfl)) pgs_nil))))
      (pss_cons (ps_while PassesOwn.never (pt_cmpR (op_ltU hu0) (pv 3) (pv 1) (nomark _)) (pss_one (ps_par (i := 2) (j := 3) rfl sc.nd rfl rfl (by decide) rfl rfl (pa_cons (pe_op op_addU (pe_op op_mulU (pv 2) (pe_op op_pow pe_int pe_int)) (pe_gc (c_law_draw Tx) hg hr (by decide) rfl (pa_cons (pv 0) (pa_cons (pe_op op_pow pe_int pe_int) pa_nil)))) (pa_cons (pe_op op_mulU (pv 3) (pe_op op_pow pe_int pe_int)) pa_nil)) (by rfl))))
      (pss_one (ps_ret (pe_op op_mod (pe_callTy call_int1 (by rfl) Tx.b_int (by decide +kernel) (pa_cons (pv 2) pa_nil)) (pv 1)))))),
      (den_seq (den_asg (den_tup (den_cons den_int (den_cons den_int den_nil))) (den_gtup (den_gcons (ws := [2, 3]) den_name (den_gcons (ws := [3]) den_name (den_gnil (vs := [])) (by decide)) (by decide))))
      (den_seq (den_while (den_test (den_op do_lt (DenE.o den_var) (DenE.o den_var))) (den_par (den_cons (den_op do_add (DenE.o (den_op do_mul (DenE.o den_var) (DenE.o (den_op do_intC (DenE.o den_int) (DenE.o den_int))))) (DenE.o (den_call0 (imp_draw I) (den_cons den_var (den_cons (den_op do_intC (DenE.o den_int) (DenE.o den_int)) den_nil))))) (den_cons (den_op do_mul (DenE.o den_var) (DenE.o (den_op do_intC (DenE.o den_int) (DenE.o den_int)))) den_nil))))
      (den_ret (den_op do_intC (DenE.o (den_cb do_int1 (den_consO (DenE.o den_var) den_nilO))) (DenE.o den_var)))))⟩)
theorem c_are_counts (Tx : Tx K mg) : Cl P w K mg base 3 "are_counts" "are_counts" Hd.s_are_counts ["thing"] (spX (I.g K) 1 m_are_counts) := by
  have sc : FnScope ["thing", "item"] ["thing"] (defScope Hd.s_are_counts) := ⟨rfl, rfl, rfl, by decide +kernel, rfl, by decide +kernel, by decide +kernel⟩
  exact clM (g := I.g K) (N := ["thing", "item"]) Tx.d_are_counts sc (fun _ _ _ _ _ _ us hl => match us, hl with | [_], _ => rfl) rfl (by decide) (fun f cd B fr t H E hg hr => by
    have hu64 := hr.units; have hu0 := hr.units0; have hu1 := Nat.lt_of_le_of_lt (Nat.add_le_add_left (by decide : 1 ≤ 64) _) hu64
    exact ⟨_, (pss_one (ps_ret (pe_and (pe_callB call_isi (by rfl) Tx.b_isinstance (by decide +kernel) (pa_cons (pv 0) (pa_cons (pe_bltn (by rfl) Tx.b_tuple (by decide +kernel) (show RelV (.ty "tuple") _ from rfl)) pa_nil))) (pe_one (pe_callB (cr_all rfl) (by rfl) Tx.b_all (by decide +kernel) (pa_cons (pe_lc (own := [("item", 1)]) (g := gName 1) (tt := tYes) rfl sc.nd (pi_seq (pv 0)) (blkOk_by (N := ["thing", "item"]) (sc := defScope Hd.s_are_counts) (by decide +kernel)) (fun _ _ _ _ _ => (pg_name (i := 1) sc.nd rfl (Or.inl rfl))) (fun _ _ _ _ _ => pts_nil) (fun _ _ _ _ _ => (pe_gc (c_is_count Tx) hg hr (by decide) rfl (pa_cons (pv 1) pa_nil)))) pa_nil)))))),
      (den_ret (den_andV (den_cb do_isi (den_consO (DenE.o den_var) (den_consO (DenE.o den_ty) den_nilO))) (den_cb do_all (den_consO (DenE.o (DenF.e (den_lc (ps := []) (den_seqI den_var) den_name den_yes (den_call0 imp_self (den_cons den_var den_nil)) rfl))) den_nilO))))⟩)
theorem c_cascade_by (Tx : Tx K mg) : Cl P w K mg base 3 "cascade_by" "cascade_by" Hd.s_cascade_by ["number", "size"] (spX (I.g K) 2 m_cascade_by) := by
  have sc : FnScope ["number", "size", "found", "many"] ["number", "size"] (defScope Hd.s_cascade_by) := ⟨rfl, rfl, rfl, by decide +kernel, rfl, by decide +kernel, by decide +kernel⟩
  exact clM (g := I.g K) (N := ["number", "size", "found", "many"]) Tx.d_cascade_by sc (fun _ _ _ _ _ _ us hl => match us, hl with | [_, _], _ => rfl) rfl (by decide) (fun f cd B fr t H E hg hr => by
    have hu64 := hr.units; have hu0 := hr.units0; have hu1 := Nat.lt_of_le_of_lt (Nat.add_le_add_left (by decide : 1 ≤ 64) _) hu64
    exact ⟨_, (pss_cons (ps_set (i := 2) sc.nd rfl (Or.inl rfl) (pe_lst pa_nil))
      (pss_cons (ps_while PassesOwn.never (pt_cmpR op_gt (pv 0) pe_int (nomark _)) (pss_cons (ps_set (i := 3) sc.nd rfl (Or.inl rfl) (pe_gc (c_greatest_many Tx) hg hr (by decide) rfl (pa_cons (pv 0) (pa_cons (pv 1) pa_nil))))
      (pss_cons (ps_expr (pe_bm PySem.F.plainAttrs_list PySem.F.slot_list_append PySem.F.type_list_append mt_append (pv 2) (pa_cons (pv 3) pa_nil)))
      (pss_one (ps_par (i := 0) (j := 1) rfl sc.nd rfl rfl (by decide) rfl rfl (pa_cons (pe_op op_sub (pv 0) (pe_gc (c_choose Tx) hg hr (by decide) rfl (pa_cons (pv 3) (pa_cons (pv 1) pa_nil)))) (pa_cons (pe_op op_sub (pv 1) pe_int) pa_nil)) (by rfl))))))
      (pss_one (ps_ret (pe_callTy call_tuple_of (by rfl) Tx.b_tuple (by decide +kernel) (pa_cons (pv 2) pa_nil)))))),
      (den_seq (den_asgO (den_lst den_nil))
      (den_seq (den_while (den_test (den_op do_cmp (DenE.o den_var) (DenE.o den_int))) (den_seq (den_asg (den_call0 imp_self (den_cons den_var (den_cons den_var den_nil))) den_name)
      (den_seq (den_app den_var)
      (den_par (den_cons (den_op do_int (DenE.o den_var) (DenE.o (den_call0 imp_self (den_cons den_var (den_cons den_var den_nil))))) (den_cons (den_op do_int (DenE.o den_var) (DenE.o den_int)) den_nil))))))
      (den_ret (den_cb do_tuple (den_consO den_own den_nilO)))))⟩)
theorem c_is_counts_value (Tx : Tx K mg) : Cl P w K mg base 3 "is_counts_value" "is_counts_value" Hd.s_is_counts_value ["thing"] (spX (I.g K) 1 m_is_counts_value) := by
  have sc : FnScope ["thing", "item"] ["thing"] (defScope Hd.s_is_counts_value) := ⟨rfl, rfl, rfl, by decide +kernel, rfl, by decide +kernel, by decide +kernel⟩
  exact clM (g := I.g K) (N := ["thing", "item"]) Tx.d_is_counts_value sc (fun _ _ _ _ _ _ us hl => match us, hl with | [_], _ => rfl) rfl (by decide) (fun f cd B fr t H E hg hr => by
    have hu64 := hr.units; have hu0 := hr.units0; have hu1 := Nat.lt_of_le_of_lt (Nat.add_le_add_left (by decide : 1 ≤ 64) _) hu64
    exact ⟨_, (pss_one (ps_ret (pe_and (pe_callB call_isi (by rfl) Tx.b_isinstance (by decide +kernel) (pa_cons (pv 0) (pa_cons (pe_bltn (by rfl) Tx.b_tuple (by decide +kernel) (show RelV (.ty "tuple") _ from rfl)) pa_nil))) (pe_and (pe_cmpR op_le (pe_callB call_lenU (by rfl) Tx.b_len (by decide +kernel) (pa_cons (pv 0) pa_nil)) pe_int (nomark _)) (pe_one (pe_callB (cr_all rfl) (by rfl) Tx.b_all (by decide +kernel) (pa_cons (pe_lc (own := [("item", 1)]) (g := gName 1) (tt := tYes) rfl sc.nd (pi_seq (pv 0)) (blkOk_by (N := ["thing", "item"]) (sc := defScope Hd.s_is_counts_value) (by decide +kernel)) (fun _ _ _ _ _ => (pg_name (i := 1) sc.nd rfl (Or.inl rfl))) (fun _ _ _ _ _ => pts_nil) (fun _ _ _ _ _ => (pe_gc (c_is_size Tx) hg hr (by decide) rfl (pa_cons (pv 1) pa_nil)))) pa_nil))))))),
      (den_ret (den_andV (den_cb do_isi (den_consO (DenE.o den_var) (den_consO (DenE.o den_ty) den_nilO))) (den_andV (den_op do_cmp (DenE.o (den_cb do_len (den_consO (DenE.o den_var) den_nilO))) (DenE.o den_int)) (den_cb do_all (den_consO (DenE.o (DenF.e (den_lc (ps := []) (den_seqI den_var) den_name den_yes (den_call0 imp_self (den_cons den_var den_nil)) rfl))) den_nilO)))))⟩)
theorem c_law_cascade (Tx : Tx K mg) : Cl P w K mg base 3 "_law_cascade" "_law_cascade" Hd.s_law_cascade ["number", "size"] (spX (I.g K) 2 m_law_cascade) := by
  have sc : FnScope ["number", "size", "found", "left", "s", "a"] ["number", "size"] (defScope Hd.s_law_cascade) := ⟨rfl, rfl, rfl, by decide +kernel, rfl, by decide +kernel, by decide +kernel⟩
  exact clM (g := I.g K) (N := ["number", "size", "found", "left", "s", "a"]) Tx.d_law_cascade sc (fun _ _ _ _ _ _ us hl => match us, hl with | [_, _], _ => rfl) rfl (by decide) (fun f cd B fr t H E hg hr => by
    have hu64 := hr.units; have hu0 := hr.units0; have hu1 := Nat.lt_of_le_of_lt (Nat.add_le_add_left (by decide : 1 ≤ 64) _) hu64
    exact ⟨_, (pss_cons (ps_par (i := 2) (j := 3) rfl sc.nd rfl rfl (by decide) rfl rfl (pa_cons (pe_lst pa_nil) (pa_cons (pv 0) pa_nil)) (by rfl))
      (pss_cons (ps_for PassesOwn.never rfl (pi_range3 (by rfl) Tx.b_range (pa_cons (pv 1) (pa_cons pe_int (pa_cons (pe_un un_neg pe_int) pa_nil)))) (pg_name (i := 4) sc.nd rfl (Or.inl rfl)) (pss_one (ps_if (pt_cmpR op_gt (pv 3) pe_int (nomark _)) (pss_cons (ps_set (i := 5) sc.nd rfl (Or.inl rfl) (pe_gc (c_law_top Tx) hg hr (by decide) rfl (pa_cons (pv 3) (pa_cons (pv 4) pa_nil))))
      (pss_cons (ps_expr (pe_bm PySem.F.plainAttrs_list PySem.F.slot_list_append PySem.F.type_list_append mt_append (pv 2) (pa_cons (pv 5) pa_nil)))
      (pss_one (ps_set (i := 3) sc.nd rfl (Or.inl rfl) (pe_op op_sub (pv 3) (pe_gc (c_law_choose Tx) hg hr (by decide) rfl (pa_cons (pv 5) (pa_cons (pv 4) pa_nil)))))))) pss_nil)))
      (pss_one (ps_ret (pe_callTy call_tuple_of (by rfl) Tx.b_tuple (by decide +kernel) (pa_cons (pv 2) pa_nil)))))),
      (den_seq (den_parO (den_lst den_nil) den_var)
      (den_seq (den_for (den_rng3 (den_cons den_var (den_cons den_int (den_cons (den_un do_neg (DenE.o den_int)) den_nil)))) den_name (den_ifS (den_test (den_op do_cmp (DenE.o den_var) (DenE.o den_int))) (den_seq (den_asg (den_call0 imp_self (den_cons den_var (den_cons den_var den_nil))) den_name)
      (den_seq (den_app den_var)
      (den_asg (den_op do_int (DenE.o den_var) (DenE.o (den_call0 imp_self (den_cons den_var (den_cons den_var den_nil))))) den_name))) den_next))
      (den_ret (den_cb do_tuple (den_consO den_own den_nilO)))))⟩)
theorem c_lower (Tx : Tx K mg) : Cl P w K mg base 4 "lower" "lower" Hd.s_lower ["number", "size"] (spX (I.g K) 2 m_lower) := by
  have sc : FnScope ["number", "size", "at", "many"] ["number", "size"] (defScope Hd.s_lower) := ⟨rfl, rfl, rfl, by decide +kernel, rfl, by decide +kernel, by decide +kernel⟩
  exact clM (g := I.g K) (N := ["number", "size", "at", "many"]) Tx.d_lower sc (fun _ _ _ _ _ _ us hl => match us, hl with | [_, _], _ => rfl) rfl (by decide) (fun f cd B fr t H E hg hr => by
    have hu64 := hr.units; have hu0 := hr.units0; have hu1 := Nat.lt_of_le_of_lt (Nat.add_le_add_left (by decide : 1 ≤ 64) _) hu64
    exact ⟨_, (pss_one (ps_ret (pe_callB (call_sumU rfl) (by rfl) Tx.b_sum (by decide +kernel) (pa_cons (pe_lc (own := [("at", 2), ("many", 3)]) (g := gTup K 2 (gCons (gName 2) (gCons (gName 3) (gNil)))) (tt := tYes) rfl sc.nd (pi_or (pi_enum (by rfl) Tx.b_enumerate (pa_cons (pe_gc (c_cascade_by Tx) hg hr (by decide) rfl (pa_cons (pv 0) (pa_cons (pv 1) pa_nil))) pa_nil)) (pi_enumT (by rfl) Tx.b_enumerate (pa_cons (pe_gc (c_cascade_by Tx) hg hr (by decide) rfl (pa_cons (pv 0) (pa_cons (pv 1) pa_nil))) pa_nil))) (blkOk_by (N := ["number", "size", "at", "many"]) (sc := defScope Hd.s_lower) (by decide +kernel)) (fun _ _ _ _ _ => (pg_tup rfl (pgs_cons (pg_name (i := 2) sc.nd rfl (Or.inl rfl)) (pgs_cons (pg_name (i := 3) sc.nd rfl (Or.inl rfl)) pgs_nil)))) (fun _ _ _ _ _ => pts_nil) (fun _ _ _ _ _ => (pe_gc (c_choose Tx) hg hr (by decide) rfl (pa_cons (pv 3) (pa_cons (pe_op op_sub (pe_op op_sub (pv 1) (pv 2)) pe_int) pa_nil))))) pa_nil)))),
      (den_ret (den_cb do_sum (den_consO (DenE.o (DenF.e (den_lc (ps := []) (den_orI (den_enumL (den_cons (den_call0 imp_self (den_cons den_var (den_cons den_var den_nil))) den_nil)) (den_enumT (den_cons (den_call0 imp_self (den_cons den_var (den_cons den_var den_nil))) den_nil))) (den_gtup (den_gcons (ws := [2, 3]) den_name (den_gcons (ws := [3]) den_name (den_gnil (vs := [])) (by decide)) (by decide))) den_yes (den_call0 imp_self (den_cons den_var (den_cons (den_op do_int (DenE.o (den_op do_int (DenE.o den_var) (DenE.o den_var))) (DenE.o den_int)) den_nil))) rfl))) den_nilO)))⟩)
theorem c_need_counts_firsts (Tx : Tx K mg) : Cl P w K mg base 4 "need_counts_firsts" "need_counts" Hd.s_need_counts_firsts ["counts"] (spX (I.g K) 1 m_need_counts_firsts) := by
  have sc : FnScope ["counts"] ["counts"] (defScope Hd.s_need_counts_firsts) := ⟨rfl, rfl, rfl, by decide +kernel, rfl, by decide +kernel, by decide +kernel⟩
  exact clM (g := I.g K) (N := ["counts"]) Tx.d_need_counts_firsts sc (fun _ _ _ _ _ _ us hl => match us, hl with | [_], _ => rfl) rfl (by decide) (fun f cd B fr t H E hg hr => by
    have hu64 := hr.units; have hu0 := hr.units0; have hu1 := Nat.lt_of_le_of_lt (Nat.add_le_add_left (by decide : 1 ≤ 64) _) hu64
    exact ⟨_, (pss_one (ps_if (pt_not (pt_val (pe_gc (c_is_counts_value Tx) hg hr (by decide) rfl (pa_cons (pv 0) pa_nil)))) (pss_one ps_never) pss_nil)),
      (den_ifS (den_not (den_B (den_call0 imp_self (den_cons den_var den_nil)))) den_never den_next)⟩)
theorem c_need_counts_rows (Tx : Tx K mg) : Cl P w K mg base 4 "need_counts_rows" "need_counts" Hd.s_need_counts_rows ["thing"] (spX (I.g K) 1 m_need_counts_rows) := by
  have sc : FnScope ["thing"] ["thing"] (defScope Hd.s_need_counts_rows) := ⟨rfl, rfl, rfl, by decide +kernel, rfl, by decide +kernel, by decide +kernel⟩
  exact clM (g := I.g K) (N := ["thing"]) Tx.d_need_counts_rows sc (fun _ _ _ _ _ _ us hl => match us, hl with | [_], _ => rfl) rfl (by decide) (fun f cd B fr t H E hg hr => by
    have hu64 := hr.units; have hu0 := hr.units0; have hu1 := Nat.lt_of_le_of_lt (Nat.add_le_add_left (by decide : 1 ≤ 64) _) hu64
    exact ⟨_, (pss_one (ps_if (PW.pt (pw_or (pt_not (pt_val (pe_gc (c_is_counts_value Tx) hg hr (by decide) rfl (pa_cons (pv 0) pa_nil)))) (pw_or1 (pt_cmpR (op_eqU hu64) (pv 0) (pe_tup pa_nil) (nomark _))))) (pss_one ps_never) pss_nil)),
      (den_ifS (den_or (den_not (den_B (den_call0 imp_self (den_cons den_var den_nil)))) (den_test (den_op do_eq (DenE.o den_var) (DenE.o (den_tup den_nil))))) den_never den_next)⟩)
theorem c_law_lower_sets (Tx : Tx K mg) : Cl P w K mg base 4 "_law_lower_sets" "_law_lower_sets" Hd.s_law_lower_sets ["number", "size"] (spX (I.g K) 2 m_law_lower_sets) := by
  have sc : FnScope ["number", "size", "at", "a"] ["number", "size"] (defScope Hd.s_law_lower_sets) := ⟨rfl, rfl, rfl, by decide +kernel, rfl, by decide +kernel, by decide +kernel⟩
  exact clM (g := I.g K) (N := ["number", "size", "at", "a"]) Tx.d_law_lower_sets sc (fun _ _ _ _ _ _ us hl => match us, hl with | [_, _], _ => rfl) rfl (by decide) (fun f cd B fr t H E hg hr => by
    have hu64 := hr.units; have hu0 := hr.units0; have hu1 := Nat.lt_of_le_of_lt (Nat.add_le_add_left (by decide : 1 ≤ 64) _) hu64
    exact ⟨_, (pss_one (ps_ret (pe_callB (call_sumU rfl) (by rfl) Tx.b_sum (by decide +kernel) (pa_cons (pe_lc (own := [("at", 2), ("a", 3)]) (g := gTup K 2 (gCons (gName 2) (gCons (gName 3) (gNil)))) (tt := tYes) rfl sc.nd (pi_or (pi_enum (by rfl) Tx.b_enumerate (pa_cons (pe_gc (c_law_cascade Tx) hg hr (by decide) rfl (pa_cons (pv 0) (pa_cons (pv 1) pa_nil))) pa_nil)) (pi_enumT (by rfl) Tx.b_enumerate (pa_cons (pe_gc (c_law_cascade Tx) hg hr (by decide) rfl (pa_cons (pv 0) (pa_cons (pv 1) pa_nil))) pa_nil))) (blkOk_by (N := ["number", "size", "at", "a"]) (sc := defScope Hd.s_law_lower_sets) (by decide +kernel)) (fun _ _ _ _ _ => (pg_tup rfl (pgs_cons (pg_name (i := 2) sc.nd rfl (Or.inl rfl)) (pgs_cons (pg_name (i := 3) sc.nd rfl (Or.inl rfl)) pgs_nil)))) (fun _ _ _ _ _ => pts_nil) (fun _ _ _ _ _ => (pe_gc (c_law_choose Tx) hg hr (by decide) rfl (pa_cons (pv 3) (pa_cons (pe_op op_sub (pe_op op_sub (pv 1) (pv 2)) pe_int) pa_nil))))) pa_nil)))),
      (den_ret (den_cb do_sum (den_consO (DenE.o (DenF.e (den_lc (ps := []) (den_orI (den_enumL (den_cons (den_call0 imp_self (den_cons den_var (den_cons den_var den_nil))) den_nil)) (den_enumT (den_cons (den_call0 imp_self (den_cons den_var (den_cons den_var den_nil))) den_nil))) (den_gtup (den_gcons (ws := [2, 3]) den_name (den_gcons (ws := [3]) den_name (den_gnil (vs := [])) (by decide)) (by decide))) den_yes (den_call0 imp_self (den_cons den_var (den_cons (den_op do_int (DenE.o (den_op do_int (DenE.o den_var) (DenE.o den_var))) (DenE.o den_int)) den_nil))) rfl))) den_nilO)))⟩)
theorem c_lowers_of (Tx : Tx K mg) : Cl P w K mg base 5 "lowers_of" "lowers_of" Hd.s_lowers_of ["counts"] (spX (I.g K) 1 m_lowers_of) := by
  have sc : FnScope ["counts", "k"] ["counts"] (defScope Hd.s_lowers_of) := ⟨rfl, rfl, rfl, by decide +kernel, rfl, by decide +kernel, by decide +kernel⟩
  exact clM (g := I.g K) (N := ["counts", "k"]) Tx.d_lowers_of sc (fun _ _ _ _ _ _ us hl => match us, hl with | [_], _ => rfl) rfl (by decide) (fun f cd B fr t H E hg hr => by
    have hu64 := hr.units; have hu0 := hr.units0; have hu1 := Nat.lt_of_le_of_lt (Nat.add_le_add_left (by decide : 1 ≤ 64) _) hu64
    exact ⟨_, (pss_one (ps_ret (pe_callTy call_tuple_of (by rfl) Tx.b_tuple (by decide +kernel) (pa_cons (pe_lc (own := [("k", 1)]) (g := gName 1) (tt := tYes) rfl sc.nd (pi_range2 (by rfl) Tx.b_range (pa_cons pe_int (pa_cons (pe_callB call_lenU (by rfl) Tx.b_len (by decide +kernel) (pa_cons (pv 0) pa_nil)) pa_nil))) (blkOk_by (N := ["counts", "k"]) (sc := defScope Hd.s_lowers_of) (by decide +kernel)) (fun _ _ _ _ _ => (pg_name (i := 1) sc.nd rfl (Or.inl rfl))) (fun _ _ _ _ _ => pts_nil) (fun _ _ _ _ _ => (pe_gc (c_lower Tx) hg hr (by decide) rfl (pa_cons (pe_ix ix_any (pv 0) (pv 1) (fun _ _ => rfl)) (pa_cons (pe_op op_addU (pv 1) pe_int) pa_nil))))) pa_nil)))),
      (den_ret (den_cb do_tuple (den_consO (DenE.o (DenF.e (den_lc (ps := []) (den_rng2 (den_cons den_int (den_cons (den_cb do_len (den_consO (DenE.o den_var) den_nilO)) den_nil))) den_name den_yes (den_call0 imp_self (den_cons (den_op do_ix (DenE.o den_var) (DenE.o den_var)) (den_cons (den_op do_add (DenE.o den_var) (DenE.o den_int)) den_nil))) rfl))) den_nilO)))⟩)
theorem c_least_rest (Tx : Tx K mg) : Cl P w K mg base 5 "least_rest" "least_rest" Hd.s_least_rest ["many", "size"] (spX (I.g K) 2 m_least_rest) := by
  have sc : FnScope ["many", "size", "low", "high", "middle"] ["many", "size"] (defScope Hd.s_least_rest) := ⟨rfl, rfl, rfl, by decide +kernel, rfl, by decide +kernel, by decide +kernel⟩
  exact clM (g := I.g K) (N := ["many", "size", "low", "high", "middle"]) Tx.d_least_rest sc (fun _ _ _ _ _ _ us hl => match us, hl with | [_, _], _ => rfl) rfl (by decide) (fun f cd B fr t H E hg hr => by
    have hu64 := hr.units; have hu0 := hr.units0; have hu1 := Nat.lt_of_le_of_lt (Nat.add_le_add_left (by decide : 1 ≤ 64) _) hu64
    exact ⟨_, (pss_cons (ps_par (i := 2) (j := 3) rfl sc.nd rfl rfl (by decide) rfl rfl (pa_cons pe_int (pa_cons (pv 0) pa_nil)) (by rfl))
      (pss_cons (ps_while PassesOwn.never (pt_cmpR (op_ltU hu0) (pv 2) (pv 3) (nomark _)) (pss_cons (ps_set (i := 4) sc.nd rfl (Or.inl rfl) (pe_op op_fdivW (pe_op op_addU (pv 2) (pv 3)) pe_int))
      (pss_one (ps_if (pt_cmpR op_le (pe_gc (c_lower Tx) hg hr (by decide) rfl (pa_cons (pe_op op_sub (pv 0) (pv 4)) (pa_cons (pv 1) pa_nil))) (pv 4) (nomark _)) (pss_one (ps_set (i := 3) sc.nd rfl (Or.inl rfl) (pv 4))) (pss_one (ps_set (i := 2) sc.nd rfl (Or.inl rfl) (pe_op op_addU (pv 4) pe_int)))))))
      (pss_one (ps_ret (pv 2))))),
      (den_seq (den_par (den_cons den_int (den_cons den_var den_nil)))
      (den_seq (den_while (den_test (den_op do_lt (DenE.o den_var) (DenE.o den_var))) (den_seq (den_asg (den_op do_intC (DenE.o (den_op do_add (DenE.o den_var) (DenE.o den_var))) (DenE.o den_int)) den_name)
      (den_ifS (den_test (den_op do_cmp (DenE.o (den_call0 imp_self (den_cons (den_op do_int (DenE.o den_var) (DenE.o den_var)) (den_cons den_var den_nil)))) (DenE.o den_var))) (den_asg den_var den_name) (den_asg (den_op do_add (DenE.o den_var) (DenE.o den_int)) den_name))))
      (den_ret den_var)))⟩)
theorem c_law_does_fit (Tx : Tx K mg) : Cl P w K mg base 5 "_law_does_fit" "_law_does_fit" Hd.s_law_does_fit ["counts", "holes"] (spX (I.g K) 2 m_law_does_fit) := by
  have sc : FnScope ["counts", "holes", "rests", "k"] ["counts", "holes"] (defScope Hd.s_law_does_fit) := ⟨rfl, rfl, rfl, by decide +kernel, rfl, by decide +kernel, by decide +kernel⟩
  exact clM (g := I.g K) (N := ["counts", "holes", "rests", "k"]) Tx.d_law_does_fit sc (fun _ _ _ _ _ _ us hl => match us, hl with | [_, _], _ => rfl) rfl (by decide) (fun f cd B fr t H E hg hr => by
    have hu64 := hr.units; have hu0 := hr.units0; have hu1 := Nat.lt_of_le_of_lt (Nat.add_le_add_left (by decide : 1 ≤ 64) _) hu64
    exact ⟨_, (pss_cons (ps_set (i := 2) sc.nd rfl (Or.inl rfl) (pe_gc (c_law_rests Tx) hg hr (by decide) rfl (pa_cons (pv 0) (pa_cons (pv 1) pa_nil))))
      (pss_cons (ps_if (PW.pt (pw_or (pt_cmpR (op_neU hu64) (pe_ix ix_any (pv 2) pe_int (fun _ _ => rfl)) pe_int (nomark _)) (pw_or1 (pt_cmpR (op_ltU hu0) (pe_callB (call_minU rfl) (by rfl) Tx.b_min (by decide +kernel) (pa_cons (pv 2) pa_nil)) pe_int (nomark _))))) (pss_one (ps_ret pe_bl)) pss_nil)
      (pss_cons (ps_for PassesOwn.never rfl (pi_range2 (by rfl) Tx.b_range (pa_cons pe_int (pa_cons (pe_callB call_lenU (by rfl) Tx.b_len (by decide +kernel) (pa_cons (pv 0) pa_nil)) pa_nil))) (pg_name (i := 3) sc.nd rfl (Or.inl rfl)) (pss_one (ps_if (pt_cmpR op_gt (pe_gc (c_law_lower_sets Tx) hg hr (by decide) rfl (pa_cons (pe_op op_addU (pe_ix ix_any (pv 2) (pe_op op_addU (pv 3) pe_int) (fun _ _ => rfl)) (pe_ix ix_any (pv 1) (pv 3) (fun _ _ => rfl))) (pa_cons (pe_op op_addU (pv 3) pe_int) pa_nil))) (pe_ix ix_any (pv 2) (pv 3) (fun _ _ => rfl)) (nomark _)) (pss_one (ps_ret pe_bl)) pss_nil)))
      (pss_one (ps_ret pe_bl))))),
      (den_seq (den_asg (den_call0 imp_self (den_cons den_var (den_cons den_var den_nil))) den_name)
      (den_seq (den_ifS (den_or (den_test (den_op do_ne (DenE.o (den_op do_ix (DenE.o den_var) (DenE.o den_int))) (DenE.o den_int))) (den_test (den_op do_lt (DenE.o (den_cb do_min (den_consO (DenE.o den_var) den_nilO))) (DenE.o den_int)))) (den_ret den_bl) den_next)
      (den_seq (den_for (den_rng2 (den_cons den_int (den_cons (den_cb do_len (den_consO (DenE.o den_var) den_nilO)) den_nil))) den_name (den_ifS (den_test (den_op do_cmp (DenE.o (den_call0 imp_self (den_cons (den_op do_add (DenE.o (den_op do_ix (DenE.o den_var) (DenE.o (den_op do_add (DenE.o den_var) (DenE.o den_int))))) (DenE.o (den_op do_ix (DenE.o den_var) (DenE.o den_var)))) (den_cons (den_op do_add (DenE.o den_var) (DenE.o den_int)) den_nil)))) (DenE.o (den_op do_ix (DenE.o den_var) (DenE.o den_var))))) (den_ret den_bl) den_next))
      (den_ret den_bl))))⟩)
theorem c_law_some_counts (Tx : Tx K mg) : Cl P w K mg base 5 "_law_some_counts" "_law_some_counts" Hd.s_law_some_counts ["deck", "d", "greatest"] (spX (I.g K) 3 m_law_some_counts) := by
  have sc : FnScope ["deck", "d", "greatest", "found", "k", "least"] ["deck", "d", "greatest"] (defScope Hd.s_law_some_counts) := ⟨rfl, rfl, rfl, by decide +kernel, rfl, by decide +kernel, by decide +kernel⟩
  exact clM (g := I.g K) (N := ["deck", "d", "greatest", "found", "k", "least"]) Tx.d_law_some_counts sc (fun _ _ _ _ _ _ us hl => match us, hl with | [_, _, _], _ => rfl) rfl (by decide) (fun f cd B fr t H E hg hr => by
    have hu64 := hr.units; have hu0 := hr.units0; have hu1 := Nat.lt_of_le_of_lt (Nat.add_le_add_left (by decide : 1 ≤ 64) _) hu64
    exact ⟨_, (pss_cons (ps_set (i := 3) sc.nd rfl (Or.inl rfl) (pe_lst (pa_cons (pe_op op_addU pe_int (pe_gc (c_law_below Tx) hg hr (by decide) rfl (pa_cons (pv 0) (pa_cons (pv 2) pa_nil)))) pa_nil)))
      (pss_cons (ps_for PassesOwn.never rfl (pi_range3 (by rfl) Tx.b_range (pa_cons (pe_op op_sub (pv 1) pe_int) (pa_cons pe_int (pa_cons (pe_un un_neg pe_int) pa_nil)))) (pg_name (i := 4) sc.nd rfl (Or.inl rfl)) (pss_cons (ps_set (i := 5) sc.nd rfl (Or.inl rfl) (pe_gc (c_law_lower_sets Tx) hg hr (by decide) rfl (pa_cons (pe_ix ix_any (pv 3) pe_int (fun _ _ => rfl)) (pa_cons (pe_op op_addU (pv 4) pe_int) pa_nil))))
      (pss_one (ps_set (i := 3) sc.nd rfl (Or.inl rfl) (pe_op op_addU (pe_lst (pa_cons (pe_op op_addU (pv 5) (pe_ifExp (pt_cmpR (op_eqU hu64) (pe_gc (c_law_draw Tx) hg hr (by decide) rfl (pa_cons (pv 0) (pa_cons pe_int pa_nil))) pe_int (nomark _)) (pe_gc (c_law_draw Tx) hg hr (by decide) rfl (pa_cons (pv 0) (pa_cons pe_int pa_nil))) pe_int)) pa_nil)) (pv 3))))))
      (pss_one (ps_ret (pe_callTy call_tuple_of (by rfl) Tx.b_tuple (by decide +kernel) (pa_cons (pv 3) pa_nil)))))),
      (den_seq (den_asg (DenF.e (den_lst (den_cons (den_op do_add (DenE.o den_int) (DenE.o (den_call0 imp_self (den_cons den_var (den_cons den_var den_nil))))) den_nil))) den_name)
      (den_seq (den_for (den_rng3 (den_cons (den_op do_int (DenE.o den_var) (DenE.o den_int)) (den_cons den_int (den_cons (den_un do_neg (DenE.o den_int)) den_nil)))) den_name (den_seq (den_asg (den_call0 imp_self (den_cons (den_op do_ix (DenE.o den_var) (DenE.o den_int)) (den_cons (den_op do_add (DenE.o den_var) (DenE.o den_int)) den_nil))) den_name)
      (den_asg (den_op do_add (DenE.o (DenF.e (den_lst (den_cons (den_op do_add (DenE.o den_var) (DenE.o (den_if (den_test (den_op do_eq (DenE.o (den_call0 (imp_draw I) (den_cons den_var (den_cons den_int den_nil)))) (DenE.o den_int))) (den_call0 (imp_draw I) (den_cons den_var (den_cons den_int den_nil))) den_int))) den_nil)))) (DenE.o den_var)) den_name)))
      (den_ret (den_cb do_tuple (den_consO (DenE.o den_var) den_nilO)))))⟩)
theorem c_law_is_least (Tx : Tx K mg) : Cl P w K mg base 5 "_law_is_least" "_law_is_least" Hd.s_law_is_least ["counts", "k", "c"] (spX (I.g K) 3 m_law_is_least) := by
  have sc : FnScope ["counts", "k", "c"] ["counts", "k", "c"] (defScope Hd.s_law_is_least) := ⟨rfl, rfl, rfl, by decide +kernel, rfl, by decide +kernel, by decide +kernel⟩
  exact clM (g := I.g K) (N := ["counts", "k", "c"]) Tx.d_law_is_least sc (fun _ _ _ _ _ _ us hl => match us, hl with | [_, _, _], _ => rfl) rfl (by decide) (fun f cd B fr t H E hg hr => by
    have hu64 := hr.units; have hu0 := hr.units0; have hu1 := Nat.lt_of_le_of_lt (Nat.add_le_add_left (by decide : 1 ≤ 64) _) hu64
    exact ⟨_, (pss_cons (ps_if (PW.pt (pw_or (pt_cmpR (op_ltU hu0) (pv 2) pe_int (nomark _)) (pw_or1 (pt_cmpR op_gt (pe_gc (c_law_lower_sets Tx) hg hr (by decide) rfl (pa_cons (pe_op op_sub (pe_ix ix_any (pv 0) (pv 1) (fun _ _ => rfl)) (pv 2)) (pa_cons (pe_op op_addU (pv 1) pe_int) pa_nil))) (pv 2) (nomark _))))) (pss_one (ps_ret pe_bl)) pss_nil)
      (pss_one (ps_ret (pe_or (pe_cmpR (op_eqU hu64) (pv 2) pe_int (nomark _)) (pe_one (pe_cmpR op_gt (pe_gc (c_law_lower_sets Tx) hg hr (by decide) rfl (pa_cons (pe_op op_addU (pe_op op_sub (pe_ix ix_any (pv 0) (pv 1) (fun _ _ => rfl)) (pv 2)) pe_int) (pa_cons (pe_op op_addU (pv 1) pe_int) pa_nil))) (pe_op op_sub (pv 2) pe_int) (nomark _))))))),
      (den_seq (den_ifS (den_or (den_test (den_op do_lt (DenE.o den_var) (DenE.o den_int))) (den_test (den_op do_cmp (DenE.o (den_call0 imp_self (den_cons (den_op do_int (DenE.o (den_op do_ix (DenE.o den_var) (DenE.o den_var))) (DenE.o den_var)) (den_cons (den_op do_add (DenE.o den_var) (DenE.o den_int)) den_nil)))) (DenE.o den_var)))) (den_ret den_bl) den_next)
      (den_ret (den_orV (den_op do_eq (DenE.o den_var) (DenE.o den_int)) (den_op do_cmp (DenE.o (den_call0 imp_self (den_cons (den_op do_add (DenE.o (den_op do_int (DenE.o (den_op do_ix (DenE.o den_var) (DenE.o den_var))) (DenE.o den_var))) (DenE.o den_int)) (den_cons (den_op do_add (DenE.o den_var) (DenE.o den_int)) den_nil)))) (DenE.o (den_op do_int (DenE.o den_var) (DenE.o den_int)))))))⟩)
theorem c_counts_paper (Tx : Tx K mg) : Cl P w K mg base 6 "counts_paper" "counts_paper" Hd.s_counts_paper ["counts"] (spX (I.g K) 1 m_counts_paper) := by
  have sc : FnScope ["counts", "lowers", "at", "number"] ["counts"] (defScope Hd.s_counts_paper) := ⟨rfl, rfl, rfl, by decide +kernel, rfl, by decide +kernel, by decide +kernel⟩
  exact clM (g := I.g K) (N := ["counts", "lowers", "at", "number"]) Tx.d_counts_paper sc (fun _ _ _ _ _ _ us hl => match us, hl with | [_], _ => rfl) rfl (by decide) (fun f cd B fr t H E hg hr => by
    have hu64 := hr.units; have hu0 := hr.units0; have hu1 := Nat.lt_of_le_of_lt (Nat.add_le_add_left (by decide : 1 ≤ 64) _) hu64
    exact ⟨_, (pss_cons (ps_set (i := 1) sc.nd rfl (Or.inl rfl) (pe_gc (c_lowers_of Tx) hg hr (by decide) rfl (pa_cons (pv 0) pa_nil)))
      (pss_cons (ps_for PassesOwn.never rfl (pi_or (pi_enum (by rfl) Tx.b_enumerate (pa_cons (pv 1) pa_nil)) (pi_enumT (by rfl) Tx.b_enumerate (pa_cons (pv 1) pa_nil))) (pg_tup rfl (pgs_cons (pg_name (i := 2) sc.nd rfl (Or.inl rfl)) (pgs_cons (pg_name (i := 3) sc.nd rfl (Or.inl rfl)) pgs_nil))) (pss_one (ps_if (pt_cmpR op_gt (pv 3) (pe_ix ix_any (pv 0) (pv 2) (fun _ _ => rfl)) (nomark _)) (pss_one (ps_ret (pe_tup (pa_cons pe_str (pa_cons (pe_op op_addU (pv 2) pe_int) pa_nil))))) pss_nil)))
      (pss_one (ps_ret (pe_tup (pa_cons pe_str (pa_cons (pv 1) pa_nil))))))),
      (den_seq (den_asg (den_call0 imp_self (den_cons den_var den_nil)) den_name)
      (den_seq (den_for (den_orI (den_enumL (den_cons den_var den_nil)) (den_enumT (den_cons den_var den_nil))) (den_gtup (den_gcons (ws := [2, 3]) den_name (den_gcons (ws := [3]) den_name (den_gnil (vs := [])) (by decide)) (by decide))) (den_ifS (den_test (den_op do_cmp (DenE.o den_var) (DenE.o (den_op do_ix (DenE.o den_var) (DenE.o den_var))))) (den_ret (den_tup (den_cons den_str (den_cons (den_op do_add (DenE.o den_var) (DenE.o den_int)) den_nil)))) den_next))
      (den_ret (den_tup (den_cons den_str (den_cons den_var den_nil))))))⟩)
theorem c_least_by (Tx : Tx K mg) : Cl P w K mg base 6 "least_by" "least_by" Hd.s_least_by ["counts"] (spX (I.g K) 1 m_least_by) := by
  have sc : FnScope ["counts", "k"] ["counts"] (defScope Hd.s_least_by) := ⟨rfl, rfl, rfl, by decide +kernel, rfl, by decide +kernel, by decide +kernel⟩
  exact clM (g := I.g K) (N := ["counts", "k"]) Tx.d_least_by sc (fun _ _ _ _ _ _ us hl => match us, hl with | [_], _ => rfl) rfl (by decide) (fun f cd B fr t H E hg hr => by
    have hu64 := hr.units; have hu0 := hr.units0; have hu1 := Nat.lt_of_le_of_lt (Nat.add_le_add_left (by decide : 1 ≤ 64) _) hu64
    exact ⟨_, (pss_one (ps_ret (pe_op op_addU (pe_op op_addU (pe_tup (pa_cons pe_int pa_nil)) (pe_callTy call_tuple_of (by rfl) Tx.b_tuple (by decide +kernel) (pa_cons (pe_lc (own := [("k", 1)]) (g := gName 1) (tt := tYes) rfl sc.nd (pi_range2 (by rfl) Tx.b_range (pa_cons pe_int (pa_cons (pe_callB call_lenU (by rfl) Tx.b_len (by decide +kernel) (pa_cons (pv 0) pa_nil)) pa_nil))) (blkOk_by (N := ["counts", "k"]) (sc := defScope Hd.s_least_by) (by decide +kernel)) (fun _ _ _ _ _ => (pg_name (i := 1) sc.nd rfl (Or.inl rfl))) (fun _ _ _ _ _ => pts_nil) (fun _ _ _ _ _ => (pe_gc (c_least_rest Tx) hg hr (by decide) rfl (pa_cons (pe_ix ix_any (pv 0) (pv 1) (fun _ _ => rfl)) (pa_cons (pe_op op_addU (pv 1) pe_int) pa_nil))))) pa_nil))) (pe_tup (pa_cons pe_int pa_nil))))),
      (den_ret (den_op do_add (DenE.o (den_op do_add (DenE.o (den_tup (den_cons den_int den_nil))) (DenE.o (den_cb do_tuple (den_consO (DenE.o (DenF.e (den_lc (ps := []) (den_rng2 (den_cons den_int (den_cons (den_cb do_len (den_consO (DenE.o den_var) den_nilO)) den_nil))) den_name den_yes (den_call0 imp_self (den_cons (den_op do_ix (DenE.o den_var) (DenE.o den_var)) (den_cons (den_op do_add (DenE.o den_var) (DenE.o den_int)) den_nil))) rfl))) den_nilO))))) (DenE.o (den_tup (den_cons den_int den_nil)))))⟩)
theorem c_judge_counts (Tx : Tx K mg) : Cl P w K mg base 7 "judge_counts" "judge_counts" Hd.s_judge_counts ["counts"] (spX (I.g K) 1 m_judge_counts) := by
  have sc : FnScope ["counts"] ["counts"] (defScope Hd.s_judge_counts) := ⟨rfl, rfl, rfl, by decide +kernel, rfl, by decide +kernel, by decide +kernel⟩
  exact clM (g := I.g K) (N := ["counts"]) Tx.d_judge_counts sc (fun _ _ _ _ _ _ us hl => match us, hl with | [_], _ => rfl) rfl (by decide) (fun f cd B fr t H E hg hr => by
    have hu64 := hr.units; have hu0 := hr.units0; have hu1 := Nat.lt_of_le_of_lt (Nat.add_le_add_left (by decide : 1 ≤ 64) _) hu64
    exact ⟨_, (pss_cons (ps_expr (pe_gc (c_need_counts_firsts Tx) hg hr (by decide) rfl (pa_cons (pv 0) pa_nil)))
      (pss_one (ps_ret (pe_gc (c_counts_paper Tx) hg hr (by decide) rfl (pa_cons (pv 0) pa_nil))))),
      (den_seq (den_drop (den_call0 imp_self (den_cons den_var den_nil)))
      (den_ret (den_call0 imp_self (den_cons den_var den_nil))))⟩)
theorem c_most_by (Tx : Tx K mg) : Cl P w K mg base 7 "most_by" "most_by" Hd.s_most_by ["counts"] (spX (I.g K) 1 m_most_by) := by
  have sc : FnScope ["counts", "least", "k", "many"] ["counts"] (defScope Hd.s_most_by) := ⟨rfl, rfl, rfl, by decide +kernel, rfl, by decide +kernel, by decide +kernel⟩
  exact clM (g := I.g K) (N := ["counts", "least", "k", "many"]) Tx.d_most_by sc (fun _ _ _ _ _ _ us hl => match us, hl with | [_], _ => rfl) rfl (by decide) (fun f cd B fr t H E hg hr => by
    have hu64 := hr.units; have hu0 := hr.units0; have hu1 := Nat.lt_of_le_of_lt (Nat.add_le_add_left (by decide : 1 ≤ 64) _) hu64
    exact ⟨_, (pss_cons (ps_set (i := 1) sc.nd rfl (Or.inr rfl) (pe_gc (c_least_by Tx) hg hr (by decide) rfl (pa_cons (pv 0) pa_nil)))
      (pss_one (ps_ret (pe_callTy call_tuple_of (by rfl) Tx.b_tuple (by decide +kernel) (pa_cons (pe_lc (own := [("k", 2), ("many", 3)]) (g := gTup K 2 (gCons (gName 2) (gCons (gName 3) (gNil)))) (tt := tYes) rfl sc.nd (pi_or (pi_enum (by rfl) Tx.b_enumerate (pa_cons (pv 0) pa_nil)) (pi_enumT (by rfl) Tx.b_enumerate (pa_cons (pv 0) pa_nil))) (blkOk_by (N := ["counts", "least", "k", "many"]) (sc := defScope Hd.s_most_by) (by decide +kernel)) (fun _ _ _ _ _ => (pg_tup rfl (pgs_cons (pg_name (i := 2) sc.nd rfl (Or.inl rfl)) (pgs_cons (pg_name (i := 3) sc.nd rfl (Or.inl rfl)) pgs_nil)))) (fun _ _ _ _ _ => pts_nil) (fun _ _ _ _ _ => (pe_op op_sub (pe_op op_sub (pv 3) (pe_ix ix_any (pv 1) (pv 2) (fun _ _ => rfl))) (pe_ix ix_any (pv 1) (pe_op op_addU (pv 2) pe_int) (fun _ _ => rfl))))) pa_nil))))),
      (den_seq (den_asg (den_call0 imp_self (den_cons den_var den_nil)) den_name)
      (den_ret (den_cb do_tuple (den_consO (DenE.o (DenF.e (den_lc (ps := []) (den_orI (den_enumL (den_cons den_var den_nil)) (den_enumT (den_cons den_var den_nil))) (den_gtup (den_gcons (ws := [2, 3]) den_name (den_gcons (ws := [3]) den_name (den_gnil (vs := [])) (by decide)) (by decide))) den_yes (den_op do_int (DenE.o (den_op do_int (DenE.o den_var) (DenE.o (den_op do_ix (DenE.o den_var) (DenE.o den_var))))) (DenE.o (den_op do_ix (DenE.o den_var) (DenE.o (den_op do_add (DenE.o den_var) (DenE.o den_int)))))) rfl))) den_nilO))))⟩)
theorem c_need_fitting (Tx : Tx K mg) : Cl P w K mg base 8 "need_fitting" "need_fitting" Hd.s_need_fitting ["counts"] (spX (I.g K) 1 m_need_fitting) := by
  have sc : FnScope ["counts", "paper"] ["counts"] (defScope Hd.s_need_fitting) := ⟨rfl, rfl, rfl, by decide +kernel, rfl, by decide +kernel, by decide +kernel⟩
  exact clM (g := I.g K) (N := ["counts", "paper"]) Tx.d_need_fitting sc (fun _ _ _ _ _ _ us hl => match us, hl with | [_], _ => rfl) rfl (by decide) (fun f cd B fr t H E hg hr => by
    have hu64 := hr.units; have hu0 := hr.units0; have hu1 := Nat.lt_of_le_of_lt (Nat.add_le_add_left (by decide : 1 ≤ 64) _) hu64
    exact ⟨_, (pss_cons (ps_expr (pe_gc (c_need_counts_rows Tx) hg hr (by decide) rfl (pa_cons (pv 0) pa_nil)))
      (pss_cons (ps_set (i := 1) sc.nd rfl (Or.inl rfl) (pe_gc (c_judge_counts Tx) hg hr (by decide) rfl (pa_cons (pv 0) pa_nil)))
      (pss_one (ps_if (pt_cmpR (op_neU hu64) (pe_ix ix_any (pv 1) pe_int (fun _ _ => rfl)) pe_str (nomark _)) (pss_one ps_never) pss_nil)))),
      (den_seq (den_drop (den_call0 imp_self (den_cons den_var den_nil)))
      (den_seq (den_asg (den_call0 imp_self (den_cons den_var den_nil)) den_name)
      (den_ifS (den_test (den_op do_ne (DenE.o (den_op do_ix (DenE.o den_var) (DenE.o den_int))) (DenE.o den_str))) den_never den_next)))⟩)
theorem c_least_rests (Tx : Tx K mg) : Cl P w K mg base 9 "least_rests" "least_rests" Hd.s_least_rests ["counts"] (spX (I.g K) 1 m_least_rests) := by
  have sc : FnScope ["counts"] ["counts"] (defScope Hd.s_least_rests) := ⟨rfl, rfl, rfl, by decide +kernel, rfl, by decide +kernel, by decide +kernel⟩
  exact clM (g := I.g K) (N := ["counts"]) Tx.d_least_rests sc (fun _ _ _ _ _ _ us hl => match us, hl with | [_], _ => rfl) rfl (by decide) (fun f cd B fr t H E hg hr => by
    have hu64 := hr.units; have hu0 := hr.units0; have hu1 := Nat.lt_of_le_of_lt (Nat.add_le_add_left (by decide : 1 ≤ 64) _) hu64
    exact ⟨_, (pss_cons (ps_expr (pe_gc (c_need_fitting Tx) hg hr (by decide) rfl (pa_cons (pv 0) pa_nil)))
      (pss_one (ps_ret (pe_gc (c_least_by Tx) hg hr (by decide) rfl (pa_cons (pv 0) pa_nil))))),
      (den_seq (den_drop (den_call0 imp_self (den_cons den_var den_nil)))
      (den_ret (den_call0 imp_self (den_cons den_var den_nil))))⟩)
theorem c_most_holes (Tx : Tx K mg) : Cl P w K mg base 9 "most_holes" "most_holes" Hd.s_most_holes ["counts"] (spX (I.g K) 1 m_most_holes) := by
  have sc : FnScope ["counts"] ["counts"] (defScope Hd.s_most_holes) := ⟨rfl, rfl, rfl, by decide +kernel, rfl, by decide +kernel, by decide +kernel⟩
  exact clM (g := I.g K) (N := ["counts"]) Tx.d_most_holes sc (fun _ _ _ _ _ _ us hl => match us, hl with | [_], _ => rfl) rfl (by decide) (fun f cd B fr t H E hg hr => by
    have hu64 := hr.units; have hu0 := hr.units0; have hu1 := Nat.lt_of_le_of_lt (Nat.add_le_add_left (by decide : 1 ≤ 64) _) hu64
    exact ⟨_, (pss_cons (ps_expr (pe_gc (c_need_fitting Tx) hg hr (by decide) rfl (pa_cons (pv 0) pa_nil)))
      (pss_one (ps_ret (pe_gc (c_most_by Tx) hg hr (by decide) rfl (pa_cons (pv 0) pa_nil))))),
      (den_seq (den_drop (den_call0 imp_self (den_cons den_var den_nil)))
      (den_ret (den_call0 imp_self (den_cons den_var den_nil))))⟩)
theorem c_least_holes (Tx : Tx K mg) : Cl P w K mg base 9 "least_holes" "least_holes" Hd.s_least_holes ["counts"] (spX (I.g K) 1 m_least_holes) := by
  have sc : FnScope ["counts", "least", "found", "k", "many", "ahead", "behind"] ["counts"] (defScope Hd.s_least_holes) := ⟨rfl, rfl, rfl, by decide +kernel, rfl, by decide +kernel, by decide +kernel⟩
  exact clM (g := I.g K) (N := ["counts", "least", "found", "k", "many", "ahead", "behind"]) Tx.d_least_holes sc (fun _ _ _ _ _ _ us hl => match us, hl with | [_], _ => rfl) rfl (by decide) (fun f cd B fr t H E hg hr => by
    have hu64 := hr.units; have hu0 := hr.units0; have hu1 := Nat.lt_of_le_of_lt (Nat.add_le_add_left (by decide : 1 ≤ 64) _) hu64
    exact ⟨_, (pss_cons (ps_expr (pe_gc (c_need_fitting Tx) hg hr (by decide) rfl (pa_cons (pv 0) pa_nil)))
      (pss_cons (ps_par (i := 1) (j := 2) rfl sc.nd rfl rfl (by decide) rfl rfl (pa_cons (pe_gc (c_least_by Tx) hg hr (by decide) rfl (pa_cons (pv 0) pa_nil)) (pa_cons (pe_lst pa_nil) pa_nil)) (by rfl))
      (pss_cons (ps_for PassesOwn.never rfl (pi_or (pi_enum (by rfl) Tx.b_enumerate (pa_cons (pv 0) pa_nil)) (pi_enumT (by rfl) Tx.b_enumerate (pa_cons (pv 0) pa_nil))) (pg_tup rfl (pgs_cons (pg_name (i := 3) sc.nd rfl (Or.inl rfl)) (pgs_cons (pg_name (i := 4) sc.nd rfl (Or.inl rfl)) pgs_nil))) (pss_cons (ps_set (i := 5) sc.nd rfl (Or.inl rfl) (pe_ifExp (pt_cmpR (op_eqU hu64) (pv 3) pe_int (nomark _)) pe_int (pe_op op_sub (pe_ix ix_any (pv 0) (pe_op op_sub (pv 3) pe_int) (fun _ _ => rfl)) (pe_ix ix_any (pv 1) (pe_op op_sub (pv 3) pe_int) (fun _ _ => rfl)))))
      (pss_cons (ps_set (i := 6) sc.nd rfl (Or.inl rfl) (pe_ifExp (pt_cmpR (op_eqU hu64) (pe_op op_addU (pv 3) pe_int) (pe_callB call_lenU (by rfl) Tx.b_len (by decide +kernel) (pa_cons (pv 0) pa_nil)) (nomark _)) pe_int (pe_op op_sub (pe_ix ix_any (pv 0) (pe_op op_addU (pv 3) pe_int) (fun _ _ => rfl)) (pe_ix ix_any (pv 1) (pe_op op_addU (pv 3) pe_int) (fun _ _ => rfl)))))
      (pss_one (ps_expr (pe_bm PySem.F.plainAttrs_list PySem.F.slot_list_append PySem.F.type_list_append mt_append (pv 2) (pa_cons (pe_callB (call_maxU rfl) (by rfl) Tx.b_max (by decide +kernel) (pa_cons pe_int (pa_cons (pe_op op_sub (pe_op op_sub (pv 4) (pv 5)) (pv 6)) pa_nil))) pa_nil)))))))
      (pss_one (ps_ret (pe_callTy call_tuple_of (by rfl) Tx.b_tuple (by decide +kernel) (pa_cons (pv 2) pa_nil))))))),
      (den_seq (den_drop (den_call0 imp_self (den_cons den_var den_nil)))
      (den_seq (den_parP (den_call0 imp_self (den_cons den_var den_nil)) (den_lst den_nil))
      (den_seq (den_for (den_orI (den_enumL (den_cons den_var den_nil)) (den_enumT (den_cons den_var den_nil))) (den_gtup (den_gcons (ws := [3, 4]) den_name (den_gcons (ws := [4]) den_name (den_gnil (vs := [])) (by decide)) (by decide))) (den_seq (den_asg (den_if (den_test (den_op do_eq (DenE.o den_var) (DenE.o den_int))) den_int (den_op do_int (DenE.o (den_op do_ix (DenE.o den_var) (DenE.o (den_op do_int (DenE.o den_var) (DenE.o den_int))))) (DenE.o (den_op do_ix (DenE.o den_var) (DenE.o (den_op do_int (DenE.o den_var) (DenE.o den_int))))))) den_name)
      (den_seq (den_asg (den_if (den_test (den_op do_eq (DenE.o (den_op do_add (DenE.o den_var) (DenE.o den_int))) (DenE.o (den_cb do_len (den_consO (DenE.o den_var) den_nilO))))) den_int (den_op do_int (DenE.o (den_op do_ix (DenE.o den_var) (DenE.o (den_op do_add (DenE.o den_var) (DenE.o den_int))))) (DenE.o (den_op do_ix (DenE.o den_var) (DenE.o (den_op do_add (DenE.o den_var) (DenE.o den_int))))))) den_name)
      (den_app (den_cb do_max (den_consO (DenE.o den_int) (den_consO (DenE.o (den_op do_int (DenE.o (den_op do_int (DenE.o den_var) (DenE.o den_var))) (DenE.o den_var))) den_nilO)))))))
      (den_ret (den_cb do_tuple (den_consO den_own den_nilO))))))⟩)
theorem c_has_hole_row (Tx : Tx K mg) : Cl P w K mg base 9 "has_hole_row" "has_hole_row" Hd.s_has_hole_row ["counts", "thing"] (spX (I.g K) 2 m_has_hole_row) := by
  have sc : FnScope ["counts", "thing", "rests", "near", "far"] ["counts", "thing"] (defScope Hd.s_has_hole_row) := ⟨rfl, rfl, rfl, by decide +kernel, rfl, by decide +kernel, by decide +kernel⟩
  exact clM (g := I.g K) (N := ["counts", "thing", "rests", "near", "far"]) Tx.d_has_hole_row sc (fun _ _ _ _ _ _ us hl => match us, hl with | [_, _], _ => rfl) rfl (by decide) (fun f cd B fr t H E hg hr => by
    have hu64 := hr.units; have hu0 := hr.units0; have hu1 := Nat.lt_of_le_of_lt (Nat.add_le_add_left (by decide : 1 ≤ 64) _) hu64
    exact ⟨_, (pss_cons (ps_expr (pe_gc (c_need_fitting Tx) hg hr (by decide) rfl (pa_cons (pv 0) pa_nil)))
      (pss_cons (ps_if (PW.pt (pw_or (pt_not (pt_val (pe_gc (c_are_counts Tx) hg hr (by decide) rfl (pa_cons (pv 1) pa_nil)))) (pw_or1 (pt_cmpR (op_neU hu64) (pe_callB call_lenU (by rfl) Tx.b_len (by decide +kernel) (pa_cons (pv 1) pa_nil)) (pe_callB call_lenU (by rfl) Tx.b_len (by decide +kernel) (pa_cons (pv 0) pa_nil)) (nomark _))))) (pss_one (ps_ret pe_bl)) pss_nil)
      (pss_cons (ps_set (i := 2) sc.nd rfl (Or.inl rfl) (pe_gc (c_rests_by Tx) hg hr (by decide) rfl (pa_cons (pv 0) (pa_cons (pv 1) pa_nil))))
      (pss_one (ps_ret (pe_and (pe_cmpR (op_eqU hu64) (pe_ix ix_any (pv 2) pe_int (fun _ _ => rfl)) pe_int (nomark _)) (pe_one (pe_callB (cr_all rfl) (by rfl) Tx.b_all (by decide +kernel) (pa_cons (pe_lc (own := [("near", 3), ("far", 4)]) (g := gTup K 2 (gCons (gName 3) (gCons (gName 4) (gNil)))) (tt := tYes) rfl sc.nd (pi_zipM (by rfl) Tx.b_zip (pa_cons (pv 2) (pa_cons (pe_gc (c_least_by Tx) hg hr (by decide) rfl (pa_cons (pv 0) pa_nil)) pa_nil))) (blkOk_by (N := ["counts", "thing", "rests", "near", "far"]) (sc := defScope Hd.s_has_hole_row) (by decide +kernel)) (fun _ _ _ _ _ => (pg_tup rfl (pgs_cons (pg_name (i := 3) sc.nd rfl (Or.inl rfl)) (pgs_cons (pg_name (i := 4) sc.nd rfl (Or.inl rfl)) pgs_nil)))) (fun _ _ _ _ _ => pts_nil) (fun _ _ _ _ _ => (pe_cmpR op_ge (pv 3) (pv 4) (nomark _)))) pa_nil))))))))),
      (den_seq (den_drop (den_call0 imp_self (den_cons den_var den_nil)))
      (den_seq (den_ifS (den_or (den_not (den_B (den_call0 imp_self (den_cons den_var den_nil)))) (den_test (den_op do_ne (DenE.o (den_cb do_len (den_consO (DenE.o den_var) den_nilO))) (DenE.o (den_cb do_len (den_consO (DenE.o den_var) den_nilO)))))) (den_ret den_bl) den_next)
      (den_seq (den_asg (den_call0 imp_self (den_cons den_var (den_cons den_var den_nil))) den_name)
      (den_ret (den_andV (den_op do_eq (DenE.o (den_op do_ix (DenE.o den_var) (DenE.o den_int))) (DenE.o den_int)) (den_cb do_all (den_consO (DenE.o (DenF.e (den_lc (ps := []) (den_zipM (den_cons den_var (den_cons (den_call0 imp_self (den_cons den_var den_nil)) den_nil))) (den_gtup (den_gcons (ws := [3, 4]) den_name (den_gcons (ws := [4]) den_name (den_gnil (vs := [])) (by decide)) (by decide))) den_yes (den_op do_cmp (DenE.o den_var) (DenE.o den_var)) rfl))) den_nilO)))))))⟩)
theorem c_law (Tx : Tx K mg) : Cl P w K mg base 10 "law" "law" Hd.s_law ["script"] (spLaw K) := by
  have sc : FnScope ["script", "deck", "greatest", "counts", "least", "d", "most", "few", "at", "more", "other", "row", "due", "k", "x", "y"] ["script"] (defScope Hd.s_law) := ⟨rfl, rfl, rfl, by decide +kernel, rfl, by decide +kernel, by decide +kernel⟩
  exact clLaw (I := I) (xr := fun _ _ _ _ _ _ => False) (N := ["script", "deck", "greatest", "counts", "least", "d", "most", "few", "at", "more", "other", "row", "due", "k", "x", "y"]) (ms := m_law) Tx.d_law sc (fun _ _ _ _ _ _ us hl => match us, hl with | [_], _ => rfl) rfl (by decide) law_ok (fun f cd B fr t H E hg hr => by
    have hu64 := hr.units; have hu0 := hr.units0; have hu1 := Nat.lt_of_le_of_lt (Nat.add_le_add_left (by decide : 1 ≤ 64) _) hu64
    exact ⟨_, (pss_cons (ps_set (i := 1) sc.nd rfl (Or.inr rfl) (pe_gc (c_law_deck Tx) hg hr (by decide) rfl (pa_cons (pv 0) pa_nil)))
      (pss_cons (ps_set (i := 2) sc.nd rfl (Or.inl rfl) (pe_ifExp (pt_cmpR (op_eqU hu64) (pe_gc (c_law_draw Tx) hg hr (by decide) rfl (pa_cons (pv 1) (pa_cons pe_int pa_nil))) pe_int (nomark _)) (pe_gc (c_law_pick Tx) hg hr (by decide) rfl (pa_cons (pv 1) (pa_cons (pe_lst (pa_cons (pe_op op_pow pe_int pe_int) (pa_cons (pe_op op_pow pe_int pe_int) (pa_cons (pe_op op_pow pe_int pe_int) pa_nil)))) pa_nil))) pe_int))
      (pss_cons (ps_set (i := 3) sc.nd rfl (Or.inr rfl) (pe_gc (c_law_some_counts Tx) hg hr (by decide) rfl (pa_cons (pv 1) (pa_cons (pe_op op_addU pe_int (pe_gc (c_law_draw Tx) hg hr (by decide) rfl (pa_cons (pv 1) (pa_cons pe_int pa_nil)))) (pa_cons (pv 2) pa_nil)))))
      (pss_cons (ps_set (i := 4) sc.nd rfl (Or.inr rfl) (pe_ifExp (pt_cmpR (op_eqU hu64) (pe_gc (c_law_draw Tx) hg hr (by decide) rfl (pa_cons (pv 1) (pa_cons pe_int pa_nil))) pe_int (nomark _)) (pe_gc (c_least_rests Tx) hg hr (by decide) rfl (pa_cons (pv 3) pa_nil)) (pe_kc (ks := ["counts"]) (is := pm_least_rests_counts) (c_least_rests Tx) hg hr (by decide) (by rfl) kb_least_rests_counts (pk_cons (pv 3) pk_nil))))
      (pss_cons (ps_set (i := 5) sc.nd rfl (Or.inl rfl) (pe_callB call_lenU (by rfl) Tx.b_len (by decide +kernel) (pa_cons (pv 3) pa_nil)))
      (pss_cons (ps_if (PW.pt (pw_or (pt_not (pt_val (pe_gc (c_law_are_integers Tx) hg hr (by decide) rfl (pa_cons (pv 4) (pa_cons (pe_op op_addU (pv 5) pe_int) pa_nil))))) (pw_or (pt_cmpR (op_neU hu64) (pe_ix ix_any (pv 4) pe_int (fun _ _ => rfl)) pe_int (nomark _)) (pw_or1 (pt_cmpR (op_neU hu64) (pe_ix ix_any (pv 4) (pv 5) (fun _ _ => rfl)) pe_int (nomark _)))))) (pss_one (ps_ret pe_bl)) pss_nil)
      (pss_cons (ps_if (pt_cmpR (op_neU hu64) (pe_lc (own := [("k", 13)]) (g := gName 13)  rfl sc.nd (pi_range2 (by rfl) Tx.b_range (pa_cons pe_int (pa_cons (pv 5) pa_nil))) (blkOk_by (N := ["script", "deck", "greatest", "counts", "least", "d", "most", "few", "at", "more", "other", "row", "due", "k", "x", "y"]) (sc := defScope Hd.s_law) (by decide +kernel)) (fun _ _ _ _ _ => (pg_name (i := 13) sc.nd rfl (Or.inl rfl))) (fun _ _ _ _ _ => (pts_one (pt_not (pt_val (pe_gc (c_law_is_least Tx) hg hr (by decide) rfl (pa_cons (pv 3) (pa_cons (pv 13) (pa_cons (pe_ix ix_any (pv 4) (pv 13) (fun _ _ => rfl)) pa_nil)))))))) (fun _ _ _ _ _ => pe_int)) (pe_lst pa_nil) (nomark _)) (pss_one (ps_ret pe_bl)) pss_nil)
      (pss_cons (ps_set (i := 6) sc.nd rfl (Or.inl rfl) (pe_callTy call_tuple_of (by rfl) Tx.b_tuple (by decide +kernel) (pa_cons (pe_lc (own := [("k", 13)]) (g := gName 13) (tt := tYes) rfl sc.nd (pi_range1 (by rfl) Tx.b_range (pa_cons (pv 5) pa_nil)) (blkOk_by (N := ["script", "deck", "greatest", "counts", "least", "d", "most", "few", "at", "more", "other", "row", "due", "k", "x", "y"]) (sc := defScope Hd.s_law) (by decide +kernel)) (fun _ _ _ _ _ => (pg_name (i := 13) sc.nd rfl (Or.inl rfl))) (fun _ _ _ _ _ => pts_nil) (fun _ _ _ _ _ => (pe_op op_sub (pe_op op_sub (pe_ix ix_any (pv 3) (pv 13) (fun _ _ => rfl)) (pe_ix ix_any (pv 4) (pv 13) (fun _ _ => rfl))) (pe_ix ix_any (pv 4) (pe_op op_addU (pv 13) pe_int) (fun _ _ => rfl))))) pa_nil)))
      (pss_cons (ps_set (i := 7) sc.nd rfl (Or.inl rfl) (pe_gc (c_law_least_holes Tx) hg hr (by decide) rfl (pa_cons (pv 3) (pa_cons (pv 4) pa_nil))))
      (pss_cons (ps_if (PW.pt (pw_or (pt_cmpR (op_neU hu64) (pe_callB (call_reprU hg hu64) (by rfl) Tx.b_repr (by decide +kernel) (pa_cons (pe_gc (c_most_holes Tx) hg hr (by decide) rfl (pa_cons (pv 3) pa_nil)) pa_nil)) (pe_callB (call_reprU hg hu64) (by rfl) Tx.b_repr (by decide +kernel) (pa_cons (pv 6) pa_nil)) (nomark _)) (pw_or1 (pt_cmpR (op_neU hu64) (pe_callB (call_reprU hg hu64) (by rfl) Tx.b_repr (by decide +kernel) (pa_cons (pe_kc (ks := ["counts"]) (is := pm_least_holes_counts) (c_least_holes Tx) hg hr (by decide) (by rfl) kb_least_holes_counts (pk_cons (pv 3) pk_nil)) pa_nil)) (pe_callB (call_reprU hg hu64) (by rfl) Tx.b_repr (by decide +kernel) (pa_cons (pv 7) pa_nil)) (nomark _))))) (pss_one (ps_ret pe_bl)) pss_nil)
      (pss_cons (ps_if (PW.pt (pw_or (pt_cmpR (op_neU hu64) (pe_lc (own := [("x", 14), ("y", 15)]) (g := gTup K 2 (gCons (gName 14) (gCons (gName 15) (gNil))))  rfl sc.nd (pi_zipM (by rfl) Tx.b_zip (pa_cons (pv 7) (pa_cons (pv 6) pa_nil))) (blkOk_by (N := ["script", "deck", "greatest", "counts", "least", "d", "most", "few", "at", "more", "other", "row", "due", "k", "x", "y"]) (sc := defScope Hd.s_law) (by decide +kernel)) (fun _ _ _ _ _ => (pg_tup rfl (pgs_cons (pg_name (i := 14) sc.nd rfl (Or.inl rfl)) (pgs_cons (pg_name (i := 15) sc.nd rfl (Or.inl rfl)) pgs_nil)))) (fun _ _ _ _ _ => (pts_one (pt_cmpR op_gt (pv 14) (pv 15) (nomark _)))) (fun _ _ _ _ _ => pe_int)) (pe_lst pa_nil) (nomark _)) (pw_or1 (pt_cmpR op_nisU (pe_gc (c_has_hole_row Tx) hg hr (by decide) rfl (pa_cons (pv 3) (pa_cons (pv 6) pa_nil))) pe_bl (nomark _))))) (pss_one (ps_ret pe_bl)) pss_nil)
      (pss_cons (ps_par (i := 8) (j := 9) rfl sc.nd rfl rfl (by decide) rfl rfl (pa_cons (pe_gc (c_law_draw Tx) hg hr (by decide) rfl (pa_cons (pv 1) (pa_cons (pv 5) pa_nil))) (pa_cons (pe_op op_sub pe_int (pe_op op_mulU pe_int (pe_gc (c_law_draw Tx) hg hr (by decide) rfl (pa_cons (pv 1) (pa_cons pe_int pa_nil))))) pa_nil)) (by rfl))
      (pss_cons (ps_set (i := 10) sc.nd rfl (Or.inl rfl) (pe_op op_addU (pe_op op_addU (pe_slice sl_any (pv 6) po_none (po_some (pv 8))) (pe_tup (pa_cons (pe_op op_addU (pe_ix ix_any (pv 6) (pv 8) (fun _ _ => rfl)) (pv 9)) pa_nil))) (pe_slice sl_any (pv 6) (po_some (pe_op op_addU (pv 8) pe_int)) po_none)))
      (pss_cons (ps_if (pt_cmpR op_nisU (pe_gc (c_has_hole_row Tx) hg hr (by decide) rfl (pa_cons (pv 3) (pa_cons (pv 10) pa_nil))) pe_bl (nomark _)) (pss_one (ps_ret pe_bl)) pss_nil)
      (pss_cons (ps_setLc (i := 11) (own := [("k", 13)]) (g := gName 13) (tt := tYes) rfl sc.nd rfl rfl (sw_true rfl rfl rfl (by decide +kernel)) (pi_range1 (by rfl) Tx.b_range (pa_cons (pv 5) pa_nil)) (blkOk_by (N := ["script", "deck", "greatest", "counts", "least", "d", "most", "few", "at", "more", "other", "row", "due", "k", "x", "y"]) (sc := defScope Hd.s_law) (by decide +kernel)) (fun _ _ _ _ _ => (pg_name (i := 13) sc.nd rfl (Or.inl rfl))) (fun _ _ _ _ _ => pts_nil) (fun _ _ _ _ _ => (pe_gc (c_law_draw Tx) hg hr (by decide) rfl (pa_cons (pv 1) (pa_cons pe_int pa_nil)))))
      (pss_cons (ps_set (i := 10) sc.nd rfl (Or.inl rfl) (pe_callTy call_tuple_of (by rfl) Tx.b_tuple (by decide +kernel) (pa_cons (pe_lc (own := [("x", 14), ("y", 15)]) (g := gTup K 2 (gCons (gName 14) (gCons (gName 15) (gNil)))) (tt := tYes) rfl sc.nd (pi_zipM (by rfl) Tx.b_zip (pa_cons (pv 6) (pa_cons (pv 11) pa_nil))) (blkOk_by (N := ["script", "deck", "greatest", "counts", "least", "d", "most", "few", "at", "more", "other", "row", "due", "k", "x", "y"]) (sc := defScope Hd.s_law) (by decide +kernel)) (fun _ _ _ _ _ => (pg_tup rfl (pgs_cons (pg_name (i := 14) sc.nd rfl (Or.inl rfl)) (pgs_cons (pg_name (i := 15) sc.nd rfl (Or.inl rfl)) pgs_nil)))) (fun _ _ _ _ _ => pts_nil) (fun _ _ _ _ _ => (pe_callB (call_maxU rfl) (by rfl) Tx.b_max (by decide +kernel) (pa_cons pe_int (pa_cons (pe_op op_sub (pv 14) (pv 15)) pa_nil))))) pa_nil)))
      (pss_cons (ps_set (i := 12) sc.nd rfl (Or.inl rfl) (pe_gc (c_law_does_fit Tx) hg hr (by decide) rfl (pa_cons (pv 3) (pa_cons (pv 10) pa_nil))))
      (pss_one (ps_ret (pe_cmpR (op_eqU hu64) (pe_callB (call_reprU hg hu64) (by rfl) Tx.b_repr (by decide +kernel) (pa_cons (pe_kc (ks := ["thing", "counts"]) (is := pm_has_hole_row_thing_counts) (c_has_hole_row Tx) hg hr (by decide) (by rfl) kb_has_hole_row_thing_counts (pk_cons (pv 10) (pk_cons (pv 3) pk_nil))) pa_nil)) (pe_callB (call_reprU hg hu64) (by rfl) Tx.b_repr (by decide +kernel) (pa_cons (pv 12) pa_nil)) (nomark _))))))))))))))))))))),
      (den_seq (den_asg (den_if (den_test (den_op do_eq (DenE.o (den_call0 (imp_draw I) (den_cons den_var (den_cons den_int den_nil)))) (DenE.o den_int))) (den_call0 imp_self (den_cons den_var (den_cons (DenF.e (den_lst (den_cons (den_op do_intC (DenE.o den_int) (DenE.o den_int)) (den_cons (den_op do_intC (DenE.o den_int) (DenE.o den_int)) (den_cons (den_op do_intC (DenE.o den_int) (DenE.o den_int)) den_nil))))) den_nil))) den_int) den_name)
      (den_seq (den_asg (den_call0 imp_self (den_cons den_var (den_cons (den_op do_add (DenE.o den_int) (DenE.o (den_call0 (imp_draw I) (den_cons den_var (den_cons den_int den_nil))))) (den_cons den_var den_nil)))) den_name)
      (den_seq (den_asg (den_if (den_test (den_op do_eq (DenE.o (den_call0 (imp_draw I) (den_cons den_var (den_cons den_int den_nil)))) (DenE.o den_int))) (den_call0 imp_self (den_cons den_var den_nil)) (den_callK0 imp_self (den_cons den_var den_nil))) den_name)
      (den_seq (den_asg (den_cb do_len (den_consO (DenE.o den_var) den_nilO)) den_name)
      (den_seq (den_ifS (den_or (den_not (den_B (den_call0 imp_self (den_cons den_var (den_cons (den_op do_add (DenE.o den_var) (DenE.o den_int)) den_nil))))) (den_or (den_test (den_op do_ne (DenE.o (den_op do_ix (DenE.o den_var) (DenE.o den_int))) (DenE.o den_int))) (den_test (den_op do_ne (DenE.o (den_op do_ix (DenE.o den_var) (DenE.o den_var))) (DenE.o den_int))))) (den_ret den_bl) den_next)
      (den_seq (den_ifS (den_test (den_op do_ne (DenE.o (DenF.e (den_lc (ps := []) (den_rng2 (den_cons den_int (den_cons den_var den_nil))) den_name (den_not (den_B (den_call0 imp_self (den_cons den_var (den_cons den_var (den_cons (den_op do_ix (DenE.o den_var) (DenE.o den_var)) den_nil)))))) den_int rfl))) (DenE.o (DenF.e (den_lst den_nil))))) (den_ret den_bl) den_next)
      (den_seq (den_asg (den_cb do_tuple (den_consO (DenE.o (DenF.e (den_lc (ps := []) (den_rng1 (den_cons den_var den_nil)) den_name den_yes (den_op do_int (DenE.o (den_op do_int (DenE.o (den_op do_ix (DenE.o den_var) (DenE.o den_var))) (DenE.o (den_op do_ix (DenE.o den_var) (DenE.o den_var))))) (DenE.o (den_op do_ix (DenE.o den_var) (DenE.o (den_op do_add (DenE.o den_var) (DenE.o den_int)))))) rfl))) den_nilO)) den_name)
      (den_seq (den_asg (den_call0 imp_self (den_cons den_var (den_cons den_var den_nil))) den_name)
      (den_seq (den_ifS (den_or (den_test (den_op do_ne (DenE.o (den_cb do_repr (den_consO (DenE.o (den_call0 imp_self (den_cons den_var den_nil))) den_nilO))) (DenE.o (den_cb do_repr (den_consO (DenE.o den_var) den_nilO))))) (den_test (den_op do_ne (DenE.o (den_cb do_repr (den_consO (DenE.o (den_callK0 imp_self (den_cons den_var den_nil))) den_nilO))) (DenE.o (den_cb do_repr (den_consO (DenE.o den_var) den_nilO)))))) (den_ret den_bl) den_next)
      (den_seq (den_ifS (den_or (den_test (den_op do_ne (DenE.o (DenF.e (den_lc (ps := []) (den_zipM (den_cons den_var (den_cons den_var den_nil))) (den_gtup (den_gcons (ws := [14, 15]) den_name (den_gcons (ws := [15]) den_name (den_gnil (vs := [])) (by decide)) (by decide))) (den_test (den_op do_cmp (DenE.o den_var) (DenE.o den_var))) den_int rfl))) (DenE.o (DenF.e (den_lst den_nil))))) (den_test (den_op do_nis (DenE.o (den_call0 imp_self (den_cons den_var (den_cons den_var den_nil)))) (DenE.o den_bl)))) (den_ret den_bl) den_next)
      (den_seq (den_par (den_cons (den_call0 (imp_draw I) (den_cons den_var (den_cons den_var den_nil))) (den_cons (den_op do_int (DenE.o den_int) (DenE.o (den_op do_mul (DenE.o den_int) (DenE.o (den_call0 (imp_draw I) (den_cons den_var (den_cons den_int den_nil))))))) den_nil)))
      (den_seq (den_asg (den_op do_add (DenE.o (den_op do_add (DenE.o (den_sl (DenE.o den_var) den_nop (den_p den_var))) (DenE.o (den_tup (den_cons (den_op do_add (DenE.o (den_op do_ix (DenE.o den_var) (DenE.o den_var))) (DenE.o den_var)) den_nil))))) (DenE.o (den_sl (DenE.o den_var) (den_p (den_op do_add (DenE.o den_var) (DenE.o den_int))) den_nop))) den_name)
      (den_seq (den_ifS (den_test (den_op do_nis (DenE.o (den_call0 imp_self (den_cons den_var (den_cons den_var den_nil)))) (DenE.o den_bl))) (den_ret den_bl) den_next)
      (den_seq (den_asg (DenF.e (den_lc (ps := []) (den_rng1 (den_cons den_var den_nil)) den_name den_yes (den_call0 (imp_draw I) (den_cons den_var (den_cons den_int den_nil))) rfl)) den_name)
      (den_seq (den_asg (den_cb do_tuple (den_consO (DenE.o (DenF.e (den_lc (ps := []) (den_zipM (den_cons den_var (den_cons den_var den_nil))) (den_gtup (den_gcons (ws := [14, 15]) den_name (den_gcons (ws := [15]) den_name (den_gnil (vs := [])) (by decide)) (by decide))) den_yes (den_cb do_max (den_consO (DenE.o den_int) (den_consO (DenE.o (den_op do_int (DenE.o den_var) (DenE.o den_var))) den_nilO))) rfl))) den_nilO)) den_name)
      (den_seq (den_asg (den_call0 imp_self (den_cons den_var (den_cons den_var den_nil))) den_name)
      (den_ret (den_op do_eq (DenE.o (den_cb do_repr (den_consO (DenE.o (den_callK0 imp_self (den_cons den_var (den_cons den_var den_nil)))) den_nilO))) (DenE.o (den_cb do_repr (den_consO (DenE.o den_var) den_nilO)))))))))))))))))))))⟩)
end
end Dv
namespace Ok
open PySem PySem.Spec PyProof.Rows L2 HG HL Dv
theorem tx {K : PySem.W.Frag} {h : Heap} {mg : Str → Option Value} (X : K.In h) (G : h.Ns mainGlobals mg) (c : He.SaysD Hd.fa Hd.fn K) : Tx K mg := by
  constructor
  · obtain ⟨fd, F⟩ := c.def_ (fn := Hd.fn) 0
    exact ⟨_, fd, F, He.glo_ok X G (c.fact (fa := Hd.fa) 0)⟩
  · obtain ⟨fd, F⟩ := c.def_ (fn := Hd.fn) 1
    exact ⟨_, fd, F, He.glo_ok X G (c.fact (fa := Hd.fa) 1)⟩
  · obtain ⟨fd, F⟩ := c.def_ (fn := Hd.fn) 2
    exact ⟨_, fd, F, He.glo_ok X G (c.fact (fa := Hd.fa) 2)⟩
  · obtain ⟨fd, F⟩ := c.def_ (fn := Hd.fn) 3
    exact ⟨_, fd, F, He.glo_ok X G (c.fact (fa := Hd.fa) 3)⟩
  · obtain ⟨fd, F⟩ := c.def_ (fn := Hd.fn) 4
    exact ⟨_, fd, F, He.glo_ok X G (c.fact (fa := Hd.fa) 4)⟩
  · obtain ⟨fd, F⟩ := c.def_ (fn := Hd.fn) 5
    exact ⟨_, fd, F, He.glo_ok X G (c.fact (fa := Hd.fa) 5)⟩
  · obtain ⟨fd, F⟩ := c.def_ (fn := Hd.fn) 6
    exact ⟨_, fd, F, He.glo_ok X G (c.fact (fa := Hd.fa) 6)⟩
  · obtain ⟨fd, F⟩ := c.def_ (fn := Hd.fn) 7
    exact ⟨_, fd, F, He.glo_ok X G (c.fact (fa := Hd.fa) 7)⟩
  · obtain ⟨fd, F⟩ := c.def_ (fn := Hd.fn) 8
    exact ⟨_, fd, F, He.glo_ok X G (c.fact (fa := Hd.fa) 8)⟩
  · obtain ⟨fd, F⟩ := c.def_ (fn := Hd.fn) 9
    exact ⟨_, fd, F, He.glo_ok X G (c.fact (fa := Hd.fa) 9)⟩
  · obtain ⟨fd, F⟩ := c.def_ (fn := Hd.fn) 10
    exact ⟨_, fd, F, He.glo_ok X G (c.fact (fa := Hd.fa) 10)⟩
  · obtain ⟨fd, F⟩ := c.def_ (fn := Hd.fn) 11
    exact ⟨_, fd, F, He.glo_ok X G (c.fact (fa := Hd.fa) 11)⟩
  · obtain ⟨fd, F⟩ := c.def_ (fn := Hd.fn) 12
    exact ⟨_, fd, F, He.glo_ok X G (c.fact (fa := Hd.fa) 12)⟩
  · obtain ⟨fd, F⟩ := c.def_ (fn := Hd.fn) 13
    exact ⟨_, fd, F, He.glo_ok X G (c.fact (fa := Hd.fa) 13)⟩
  · obtain ⟨fd, F⟩ := c.def_ (fn := Hd.fn) 14
    exact ⟨_, fd, F, He.glo_ok X G (c.fact (fa := Hd.fa) 14)⟩
  · obtain ⟨fd, F⟩ := c.def_ (fn := Hd.fn) 15
    exact ⟨_, fd, F, He.glo_ok X G (c.fact (fa := Hd.fa) 15)⟩
  · obtain ⟨fd, F⟩ := c.def_ (fn := Hd.fn) 16
    exact ⟨_, fd, F, He.glo_ok X G (c.fact (fa := Hd.fa) 16)⟩
  · obtain ⟨fd, F⟩ := c.def_ (fn := Hd.fn) 17
    exact ⟨_, fd, F, He.glo_ok X G (c.fact (fa := Hd.fa) 17)⟩
  · obtain ⟨fd, F⟩ := c.def_ (fn := Hd.fn) 18
    exact ⟨_, fd, F, He.glo_ok X G (c.fact (fa := Hd.fa) 18)⟩
  · obtain ⟨fd, F⟩ := c.def_ (fn := Hd.fn) 19
    exact ⟨_, fd, F, He.glo_ok X G (c.fact (fa := Hd.fa) 19)⟩
  · obtain ⟨fd, F⟩ := c.def_ (fn := Hd.fn) 20
    exact ⟨_, fd, F, He.glo_ok X G (c.fact (fa := Hd.fa) 20)⟩
  · obtain ⟨fd, F⟩ := c.def_ (fn := Hd.fn) 21
    exact ⟨_, fd, F, He.glo_ok X G (c.fact (fa := Hd.fa) 21)⟩
  · obtain ⟨fd, F⟩ := c.def_ (fn := Hd.fn) 22
    exact ⟨_, fd, F, He.glo_ok X G (c.fact (fa := Hd.fa) 22)⟩
  · obtain ⟨fd, F⟩ := c.def_ (fn := Hd.fn) 23
    exact ⟨_, fd, F, He.glo_ok X G (c.fact (fa := Hd.fa) 23)⟩
  · obtain ⟨fd, F⟩ := c.def_ (fn := Hd.fn) 24
    exact ⟨_, fd, F, He.glo_ok X G (c.fact (fa := Hd.fa) 24)⟩
  · obtain ⟨fd, F⟩ := c.def_ (fn := Hd.fn) 25
    exact ⟨_, fd, F, He.glo_ok X G (c.fact (fa := Hd.fa) 25)⟩
  · obtain ⟨fd, F⟩ := c.def_ (fn := Hd.fn) 26
    exact ⟨_, fd, F, He.glo_ok X G (c.fact (fa := Hd.fa) 26)⟩
  · obtain ⟨fd, F⟩ := c.def_ (fn := Hd.fn) 27
    exact ⟨_, fd, F, He.glo_ok X G (c.fact (fa := Hd.fa) 27)⟩
  · obtain ⟨fd, F⟩ := c.def_ (fn := Hd.fn) 28
    exact ⟨_, fd, F, He.glo_ok X G (c.fact (fa := Hd.fa) 28)⟩
  · obtain ⟨fd, F⟩ := c.def_ (fn := Hd.fn) 29
    exact ⟨_, fd, F, He.glo_ok X G (c.fact (fa := Hd.fa) 29)⟩
  · obtain ⟨fd, F⟩ := c.def_ (fn := Hd.fn) 30
    exact ⟨_, fd, F, He.glo_ok X G (c.fact (fa := Hd.fa) 30)⟩
  · obtain ⟨fd, F⟩ := c.def_ (fn := Hd.fn) 31
    exact ⟨_, fd, F, He.glo_ok X G (c.fact (fa := Hd.fa) 31)⟩
  · obtain ⟨fd, F⟩ := c.def_ (fn := Hd.fn) 32
    exact ⟨_, fd, F, He.glo_ok X G (c.fact (fa := Hd.fa) 32)⟩
  · obtain ⟨fd, F⟩ := c.def_ (fn := Hd.fn) 33
    exact ⟨_, fd, F, He.glo_ok X G (c.fact (fa := Hd.fa) 33)⟩
  · obtain ⟨fd, F⟩ := c.def_ (fn := Hd.fn) 34
    exact ⟨_, fd, F, He.glo_ok X G (c.fact (fa := Hd.fa) 34)⟩
  · obtain ⟨fd, F⟩ := c.def_ (fn := Hd.fn) 35
    exact ⟨_, fd, F, He.glo_ok X G (c.fact (fa := Hd.fa) 35)⟩
  · obtain ⟨fd, F⟩ := c.def_ (fn := Hd.fn) 36
    exact ⟨_, fd, F, He.glo_ok X G (c.fact (fa := Hd.fa) 36)⟩
  · obtain ⟨fd, F⟩ := c.def_ (fn := Hd.fn) 37
    exact ⟨_, fd, F, He.glo_ok X G (c.fact (fa := Hd.fa) 37)⟩
  · obtain ⟨fd, F⟩ := c.def_ (fn := Hd.fn) 38
    exact ⟨_, fd, F, He.glo_ok X G (c.fact (fa := Hd.fa) 38)⟩
  · exact He.free_ok X G (c.fact (fa := Hd.fa) 39)
  · exact He.free_ok X G (c.fact (fa := Hd.fa) 40)
  · exact He.free_ok X G (c.fact (fa := Hd.fa) 41)
  · exact He.free_ok X G (c.fact (fa := Hd.fa) 42)
  · exact He.free_ok X G (c.fact (fa := Hd.fa) 43)
  · exact He.free_ok X G (c.fact (fa := Hd.fa) 44)
  · exact He.free_ok X G (c.fact (fa := Hd.fa) 45)
  · exact He.free_ok X G (c.fact (fa := Hd.fa) 46)
  · exact He.free_ok X G (c.fact (fa := Hd.fa) 47)
  · exact He.free_ok X G (c.fact (fa := Hd.fa) 48)
  · exact He.free_ok X G (c.fact (fa := Hd.fa) 49)
  · exact He.free_ok X G (c.fact (fa := Hd.fa) 50)
  · exact He.free_ok X G (c.fact (fa := Hd.fa) 51)
  · exact He.free_ok X G (c.fact (fa := Hd.fa) 52)
end Ok
open PySem PySem.W PySem.Calls PyProof.Rows
theorem PySem.Challenge.cw_holerows_k34_least_rests_and_most_holes_holds : PySem.Challenge.rw_holerows_k34_least_rests_and_most_holes.Holds := by
  w_on; o_law
  refine HandSHeadRun.head_any (r := OpenLaw.row PySem.Challenge.rw_holerows_k34_least_rests_and_most_holes) (q := view (OpenLaw.row PySem.Challenge.rw_holerows_k34_least_rests_and_most_holes).prog [49]) (H := Hd.hk) (ob := Hd.ob) (M := 2000) (loose := Hd.names) (d := HandSHeadRun.topDef (OpenLaw.row PySem.Challenge.rw_holerows_k34_least_rests_and_most_holes).prog 49) (kwd := []) Hd.ob_eq
    (by kernel_rfl) (fun s => by kernel_rfl) Hd.run (by kernel_rfl) (by kernel_rfl) (by kernel_rfl) (by rfl) (by first | assumption | decide +kernel) (by decide +kernel) ⟨rfl, rfl, rfl, rfl, rfl, by decide +kernel⟩ ?hw ?hc
  case hw => w_witness2
  case hc =>
    refine HE.walkC (l := PySem.Challenge.rw_holerows_k34_least_rests_and_most_holes) (n := 10) (N := 63) (x := "script") (lw := "law") (st := Hd.s_law) rfl (by decide) (by kernel_rfl) ⟨rfl, by decide, by decide⟩ (by kernel_rfl) (fun _ _ _ _ _ _ us hl => match us, hl with | [_], _ => rfl) ?F
    intro w mg h Y G
    obtain ⟨K, KX, c⟩ := Y
    have T := Ok.tx KX G c
    exact ⟨K, VM.spLaw K, KX, T.d_law, fun H a ns hl hS hF => ⟨a, ns, rfl, hS, hl, fun _ => rfl⟩, fun base => Dv.c_law T⟩
