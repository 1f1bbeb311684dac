import PyProof.Rows.All
import Wide.All
import OpenK.AllK
import Wide.FinOn
import KE.KStateDown
import KE.DatumOrd
import KE.KDictCopyH
import KE.GoesEnum
import Lean
import HandS.ForMost
import HandS.More
import HandS.WordsExc
import HandS.Defaults
import HandS.Head0
import HandS.Head1
import HandS.Head2
import HandS.HeadEnd
import HandS.HeadHook1
import HandS.HeadHook2
import HandS.Evl
import HandS.Conv
import HandS.IsInst
import HandS.SetFor
import HandS.SortRule
import HandS.SortInts
import HandS.TupLe
import HandS.TupAny
import HandS.TupSets
import HandS.Wide
import HandS.WideBits
import PySem.Challenge.RW_leastenvy_k74_whole_dealers_keep
import KE.KEqSeq
set_option Elab.async false
set_option linter.all false
set_option maxRecDepth 100000
set_option maxHeartbeats 4000000
/-! Sums below n; what a heap is worth. -/
namespace LE
def S : Nat → (Nat → Int) → Int
  | 0, _ => 0
  | n + 1, f => S n f + f n
theorem S_succ (n : Nat) (f : Nat → Int) : S (n + 1) f = S n f + f n := rfl
theorem S_congr {n : Nat} {f g : Nat → Int} (h : ∀ t, t < n → f t = g t) : S n f = S n g := by
  induction n with
  | zero => rfl
  | succ n ih => rw [S_succ, S_succ, ih fun t ht => h t (by omega), h n (by omega)]
theorem S_le {n : Nat} {f g : Nat → Int} (h : ∀ t, t < n → f t ≤ g t) : S n f ≤ S n g := by
  induction n with
  | zero => exact Int.le_refl _
  | succ n ih => have a := ih fun t ht => h t (by omega); have b := h n (by omega); rw [S_succ, S_succ]; omega
theorem S_zero {n : Nat} {f : Nat → Int} (h : ∀ t, t < n → f t = 0) : S n f = 0 := by
  induction n with
  | zero => rfl
  | succ n ih => rw [S_succ, ih fun t ht => h t (by omega), h n (by omega)]; rfl
theorem S_nonneg {n : Nat} {f : Nat → Int} (h : ∀ t, t < n → 0 ≤ f t) : 0 ≤ S n f := by
  have a := S_le (f := fun _ => 0) (g := f) (n := n) h
  rw [S_zero (f := fun _ => 0) fun _ _ => rfl] at a
  exact a
theorem S_add {n : Nat} {f g : Nat → Int} : S n (fun t => f t + g t) = S n f + S n g := by
  induction n with
  | zero => rfl
  | succ n ih => rw [S_succ, S_succ, S_succ, ih]; omega
theorem S_sub {n : Nat} {f g : Nat → Int} : S n (fun t => f t - g t) = S n f - S n g := by
  induction n with
  | zero => rfl
  | succ n ih => rw [S_succ, S_succ, S_succ, ih]; omega
theorem S_mul {n : Nat} {c : Int} {f : Nat → Int} : S n (fun t => c * f t) = c * S n f := by
  induction n with
  | zero => simp [S]
  | succ n ih => rw [S_succ, S_succ, ih, Int.mul_add]
theorem S_upd {n : Nat} {f : Nat → Int} {g : Nat} {c : Int} (hg : g < n) : S n (fun t => if t = g then c else f t) = S n f - f g + c := by
  induction n with
  | zero => omega
  | succ n ih =>
    rw [S_succ, S_succ]
    by_cases e : g = n
    · subst e
      rw [if_pos rfl, S_congr (g := f) fun t ht => if_neg (by omega)]
      omega
    · rw [ih (by omega), if_neg (by omega)]
      omega
theorem S_one {n : Nat} {f : Nat → Int} {g : Nat} (hg : g < n) (h : ∀ t, t < n → 0 ≤ f t) : f g ≤ S n f := by
  have a : 0 ≤ S n (fun t => if t = g then 0 else f t) := S_nonneg fun t ht => by
    show 0 ≤ (if t = g then 0 else f t)
    split
    · exact Int.le_refl _
    · exact h t ht
  rw [S_upd hg] at a
  omega
theorem S_two {n : Nat} {f : Nat → Int} {a b : Nat} (ha : a < n) (hb : b < n) (ne : a ≠ b) (h : ∀ t, t < n → 0 ≤ f t) : f a + f b ≤ S n f := by
  have q : (fun t => if t = a then 0 else f t) b ≤ S n (fun t => if t = a then 0 else f t) := S_one hb fun t ht => by
    show 0 ≤ (if t = a then 0 else f t)
    split
    · exact Int.le_refl _
    · exact h t ht
  rw [S_upd ha] at q
  have e : (fun t => if t = a then 0 else f t) b = f b := if_neg (fun z => ne z.symm)
  rw [e] at q
  omega
theorem S_pos {n : Nat} {f : Nat → Int} (h : ∀ t, t < n → 0 ≤ f t) (p : 0 < S n f) : ∃ t, t < n ∧ 0 < f t := by
  by_cases e : ∃ t, t < n ∧ 0 < f t
  · exact e
  · have z : S n f = 0 := S_zero fun t ht => by
      have a := h t ht
      by_cases b : 0 < f t
      · exact absurd ⟨t, ht, b⟩ e
      · omega
    omega
theorem S_lt {n : Nat} {f g : Nat → Int} (h : ∀ t, t < n → f t ≤ g t) {a : Nat} (ha : a < n) (s : f a < g a) : S n f < S n g := by
  have q := S_one (f := fun t => g t - f t) ha fun t ht => by have := h t ht; show 0 ≤ g t - f t; omega
  rw [S_sub] at q
  have q' : g a - f a ≤ S n g - S n f := q
  omega
theorem S_comm {n h : Nat} {F : Nat → Nat → Int} : S h (fun i => S n (fun t => F i t)) = S n (fun t => S h (fun i => F i t)) := by
  induction n with
  | zero => exact S_zero fun _ _ => rfl
  | succ n ih =>
    rw [S_succ, ← ih, ← S_add]
    exact S_congr fun t _ => rfl
/-- a sum of which one place alone is not 0 -/
theorem S_at {n : Nat} {g : Nat} {c : Int} (hg : g < n) : S n (fun t => if t = g then c else 0) = c := by
  rw [S_upd (f := fun _ => 0) hg, S_zero fun _ _ => rfl]
  omega
theorem S_eq_of_le {n : Nat} {f g : Nat → Int} (h : ∀ t, t < n → f t ≤ g t) (e : S n g ≤ S n f) : ∀ t, t < n → f t = g t := fun t ht => by
  have a := h t ht
  by_cases b : f t < g t
  · have := S_lt h ht b
    omega
  · omega

/-- what the heap of j is worth to i -/
def val (w : Nat → Nat → Int) (n : Nat) (D : Nat → Option Nat) (i j : Nat) : Int := S n fun t => if D t = some j then w i t else 0
abbrev shr (w : Nat → Nat → Int) (n : Nat) (D : Nat → Option Nat) (i : Nat) : Int := val w n D i i
/-- t goes to o -/
def put (D : Nat → Option Nat) (t : Nat) (o : Option Nat) : Nat → Option Nat := fun s => if s = t then o else D s
/-- nobody envies another one beyond a thing -/
def EF1 (w : Nat → Nat → Int) (n h : Nat) (D : Nat → Option Nat) : Prop :=
  ∀ i j, i < h → j < h → i ≠ j → (∀ t, t < n → D t ≠ some j) ∨ ∃ g, g < n ∧ D g = some j ∧ val w n D i j - w i g ≤ val w n D i i
/-- each thing is dealt -/
def Whole (n h : Nat) (D : Nat → Option Nat) : Prop := ∀ t, t < n → ∃ k, k < h ∧ D t = some k
def Best (w : Nat → Nat → Int) (n h : Nat) (D : Nat → Option Nat) : Prop :=
  ∀ E, Whole n h E → (∀ i, i < h → shr w n D i ≤ shr w n E i) → ∀ i, i < h → shr w n E i = shr w n D i
/-- by any parting of all things -/
def Half (w : Nat → Nat → Int) (n h : Nat) (D : Nat → Option Nat) : Prop :=
  ∀ E, Whole n h E → ∀ i, i < h → ∃ j, j < h ∧ val w n E i j ≤ 2 * shr w n D i

section
variable {w : Nat → Nat → Int} {n h : Nat} {D : Nat → Option Nat} {i j t : Nat}
def Pos (w : Nat → Nat → Int) : Prop := ∀ i t, 0 ≤ w i t
theorem ite_nonneg {p : Prop} [Decidable p] {a : Int} (h : 0 ≤ a) : 0 ≤ if p then a else 0 := by
  split
  · exact h
  · exact Int.le_refl _
theorem val_nonneg (hw : Pos w) : 0 ≤ val w n D i j := S_nonneg fun t _ => ite_nonneg (hw i t)
theorem val_one (hw : Pos w) (ht : t < n) (e : D t = some j) : w i t ≤ val w n D i j := by
  have a := S_one (f := fun t => if D t = some j then w i t else 0) ht fun t _ => ite_nonneg (hw i t)
  have b : (if D t = some j then w i t else 0) = w i t := if_pos e
  have a' : (if D t = some j then w i t else 0) ≤ val w n D i j := a
  rw [b] at a'
  exact a'
theorem val_none (hn : ∀ t, t < n → D t ≠ some j) : val w n D i j = 0 := S_zero fun t ht => if_neg (hn t ht)
theorem val_put {o : Option Nat} (ht : t < n) : val w n (put D t o) i j = val w n D i j - (if D t = some j then w i t else 0) + (if o = some j then w i t else 0) := by
  have e : val w n (put D t o) i j = S n (fun s => if s = t then (if o = some j then w i t else 0) else (if D s = some j then w i s else 0)) := by
    refine S_congr fun s _ => ?_
    unfold put
    by_cases q : s = t
    · subst q
      rw [if_pos rfl, if_pos rfl]
    · rw [if_neg q, if_neg q]
  rw [e, S_upd ht]
  rfl
theorem val_congr {D' : Nat → Option Nat} (e : ∀ t, t < n → D t = D' t) : val w n D i j = val w n D' i j := S_congr fun t ht => by rw [e t ht]
end
end LE

/-! Turns: each hand in its turn takes what is worth most to it of the things left; so nobody envies beyond a thing. -/
namespace LE
section
variable {w : Nat → Nat → Int} {n h c : Nat} {D : Nat → Option Nat}
structure R0 (w : Nat → Nat → Int) (n h c : Nat) (D : Nat → Option Nat) (f : Nat → Nat) : Prop where
  one : ∀ j, j < c → f j < n ∧ D (f j) = some j ∧ ∀ i, val w n D i j = w i (f j)
  non : ∀ j, c ≤ j → ∀ t, t < n → D t ≠ some j
  top : ∀ i, i < c → ∀ t, t < n → D t = none → w i t ≤ val w n D i i
structure R1 (w : Nat → Nat → Int) (n h c : Nat) (D : Nat → Option Nat) (f : Nat → Nat) (M : Nat → Int) : Prop where
  one : ∀ j, j < h → f j < n ∧ D (f j) = some j
  pos : ∀ i, 0 ≤ M i
  top : ∀ i, i < h → ∀ t, t < n → D t = none → w i t ≤ M i
  aa : ∀ i j, i < h → j < h → i ≠ j → c ≤ i → c ≤ j → val w n D i j - w i (f j) + M i ≤ val w n D i i
  ab : ∀ i j, i < h → j < h → i ≠ j → c ≤ i → j < c → val w n D i j - w i (f j) ≤ val w n D i i
  bb : ∀ i j, i < h → j < h → i ≠ j → i < c → j < c → val w n D i j - w i (f j) + M i ≤ val w n D i i
  ba : ∀ i j, i < h → j < h → i ≠ j → i < c → c ≤ j → val w n D i j - w i (f j) + 2 * M i ≤ val w n D i i
def Turn (w : Nat → Nat → Int) (n h c : Nat) (D : Nat → Option Nat) : Prop := (∃ f, R0 w n h c D f) ∨ ∃ f M, R1 w n h c D f M
theorem turn_start : Turn w n h 0 (fun _ => none) := .inl ⟨fun _ => 0, fun _ h => absurd h (by omega), fun _ _ _ _ => by simp, fun _ h => absurd h (by omega)⟩
theorem turn_step (hw : Pos w) (T : Turn w n h c D) (hc : c < h) {t : Nat} (ht : t < n) (hd : D t = none) (best : ∀ s, s < n → D s = none → w c s ≤ w c t) : Turn w n h (c + 1) (put D t (some c)) := by
  have vp : ∀ i j, val w n (put D t (some c)) i j = val w n D i j + (if c = j then w i t else 0) := fun i j => by
    rw [val_put ht, if_neg (by rw [hd]; simp)]
    have e : (some c = some j) = (c = j) := by simp
    rw [show (if some c = some j then w i t else 0) = (if c = j then w i t else 0) by simp]
    omega
  have vc : ∀ i, val w n (put D t (some c)) i c = val w n D i c + w i t := fun i => by rw [vp, if_pos rfl]
  have vn : ∀ i j, j ≠ c → val w n (put D t (some c)) i j = val w n D i j := fun i j ne => by rw [vp, if_neg (Ne.symm ne)]; omega
  have pn : ∀ s, put D t (some c) s = none → D s = none ∧ s ≠ t := fun s e => by
    unfold put at e
    by_cases q : s = t
    · rw [if_pos q] at e; cases e
    · rw [if_neg q] at e; exact ⟨e, q⟩
  have pt : put D t (some c) t = some c := if_pos rfl
  have pk : ∀ s, s ≠ t → put D t (some c) s = D s := fun s q => if_neg q
  rcases T with ⟨f, R⟩ | ⟨f, M, R⟩
  · refine .inl ⟨fun j => if j = c then t else f j, fun j hj => ?_, fun j hj s hs e => ?_, fun i hi s hs e => ?_⟩
    · by_cases q : j = c
      · subst q
        rw [if_pos rfl]
        refine ⟨ht, pt, fun i => ?_⟩
        rw [vc, val_none (R.non j (Nat.le_refl _))]
        omega
      · rw [if_neg q]
        obtain ⟨a, b, e⟩ := R.one j (by omega)
        refine ⟨a, by rw [pk _ (fun z => by rw [z, hd] at b; cases b)]; exact b, fun i => by rw [vn _ _ q]; exact e i⟩
    · by_cases q : s = t
      · rw [q, pt] at e; cases e; omega
      · rw [pk s q] at e; exact R.non j (by omega) s hs e
    · obtain ⟨e1, q⟩ := pn s e
      by_cases z : i = c
      · subst z
        have := best s hs e1
        have p := val_nonneg hw (n := n) (D := D) (i := i) (j := i)
        rw [vc]
        omega
      · rw [vn _ _ z]
        exact R.top i (by omega) s hs e1
  · refine .inr ⟨f, fun i => if i = c then w c t else M i, fun j hj => ?_, fun i => ?_, fun i hi s hs e => ?_, fun i j hi hj ne h1 h2 => ?_, fun i j hi hj ne h1 h2 => ?_, fun i j hi hj ne h1 h2 => ?_, fun i j hi hj ne h1 h2 => ?_⟩
    · obtain ⟨a, b⟩ := R.one j hj
      exact ⟨a, by rw [pk _ (fun z => by rw [z, hd] at b; cases b)]; exact b⟩
    · show 0 ≤ if i = c then w c t else M i
      split
      · exact hw _ _
      · exact R.pos i
    · obtain ⟨e1, q⟩ := pn s e
      show w i s ≤ if i = c then w c t else M i
      split
      · rename_i z; subst z; exact best s hs e1
      · exact R.top i hi s hs e1
    · show _ + (if i = c then w c t else M i) ≤ _
      rw [if_neg (by omega), vn _ _ (by omega), vn _ _ (by omega)]
      exact R.aa i j hi hj ne (by omega) (by omega)
    · rw [vn i i (by omega)]
      by_cases q : j = c
      · subst q
        have a := R.aa i j hi hj ne (by omega) (by omega)
        have b := R.top i hi t ht hd
        rw [vc]
        omega
      · rw [vn _ _ q]
        exact R.ab i j hi hj ne (by omega) (by omega)
    · show _ + (if i = c then w c t else M i) ≤ _
      by_cases q : i = c
      · subst q
        rw [if_pos rfl, vc, vn _ _ (by omega)]
        have a := R.ab i j hi hj ne (by omega) (by omega)
        omega
      · rw [if_neg q, vn i i q]
        by_cases q2 : j = c
        · subst q2
          have a := R.ba i j hi hj ne (by omega) (by omega)
          have b := R.top i hi t ht hd
          rw [vc]
          omega
        · rw [vn _ _ q2]
          exact R.bb i j hi hj ne (by omega) (by omega)
    · show _ + 2 * (if i = c then w c t else M i) ≤ _
      rw [vn i j (by omega)]
      by_cases q : i = c
      · subst q
        have a := R.aa i j hi hj ne (by omega) (by omega)
        have b := R.top i hi t ht hd
        rw [if_pos rfl, vc]
        omega
      · rw [if_neg q, vn i i q]
        exact R.ba i j hi hj ne (by omega) (by omega)
theorem turn_wrap (hw : Pos w) (T : Turn w n h h D) : Turn w n h 0 D := by
  rcases T with ⟨f, R⟩ | ⟨f, M, R⟩
  · refine .inr ⟨f, fun i => val w n D i i, fun j hj => ⟨(R.one j hj).1, (R.one j hj).2.1⟩, fun i => val_nonneg hw, fun i hi t ht e => R.top i hi t ht e, fun i j hi hj ne _ _ => ?_, fun _ _ _ _ _ _ q => absurd q (by omega), fun _ _ _ _ _ q => absurd q (by omega), fun _ _ _ _ _ q => absurd q (by omega)⟩
    have := (R.one j hj).2.2 i
    omega
  · exact .inr ⟨f, M, R.one, R.pos, R.top, fun i j hi hj ne _ _ => R.bb i j hi hj ne hi hj, fun _ _ _ _ _ _ q => absurd q (by omega), fun _ _ _ _ _ q => absurd q (by omega), fun _ _ _ _ _ q => absurd q (by omega)⟩
theorem turn_end (hw : Pos w) (T : Turn w n h c D) : EF1 w n h D := by
  intro i j hi hj ne
  rcases T with ⟨f, R⟩ | ⟨f, M, R⟩
  · by_cases q : j < c
    · obtain ⟨a, b, e⟩ := R.one j q
      refine .inr ⟨f j, a, b, ?_⟩
      have := e i
      have p := val_nonneg hw (n := n) (D := D) (i := i) (j := i)
      omega
    · exact .inl fun t ht => R.non j (by omega) t ht
  · obtain ⟨a, b⟩ := R.one j hj
    refine .inr ⟨f j, a, b, ?_⟩
    have p := R.pos i
    by_cases q1 : i < c <;> by_cases q2 : j < c
    · have := R.bb i j hi hj ne q1 q2; omega
    · have := R.ba i j hi hj ne q1 (by omega); omega
    · have := R.ab i j hi hj ne (by omega) q2; omega
    · have := R.aa i j hi hj ne (by omega) (by omega); omega
end
end LE

/-! Rings of envy: found, turned; a thing given to a hand that nobody envies. -/
namespace LE
section
variable {w : Nat → Nat → Int} {n h : Nat} {D D' : Nat → Option Nat}
theorem ef1_none : EF1 w n h (fun _ => none) := fun _ _ _ _ _ => .inl fun _ _ => by simp
theorem ef1_give (hw : Pos w) (F : EF1 w n h D) {t u : Nat} (ht : t < n) (hd : D t = none) (un : ∀ i, i < h → i ≠ u → val w n D i u ≤ val w n D i i) : EF1 w n h (put D t (some u)) := by
  intro i j hi hj ne
  have vp : ∀ i j, val w n (put D t (some u)) i j = val w n D i j + (if u = j then w i t else 0) := fun i j => by
    rw [val_put ht, if_neg (by rw [hd]; simp), show (if some u = some j then w i t else 0) = (if u = j then w i t else 0) by simp]
    omega
  have own : val w n D i i ≤ val w n (put D t (some u)) i i := by
    rw [vp]
    have : 0 ≤ (if u = i then w i t else 0) := ite_nonneg (hw i t)
    omega
  by_cases q : j = u
  · subst q
    refine .inr ⟨t, ht, if_pos rfl, ?_⟩
    rw [vp i j, if_pos rfl]
    have := un i hi ne
    omega
  · have e : val w n (put D t (some u)) i j = val w n D i j := by rw [vp, if_neg (Ne.symm q)]; omega
    rcases F i j hi hj ne with z | ⟨g, hg, dg, le⟩
    · refine .inl fun s hs z2 => ?_
      unfold put at z2
      by_cases q2 : s = t
      · rw [if_pos q2] at z2; cases z2; exact q rfl
      · rw [if_neg q2] at z2; exact z s hs z2
    · refine .inr ⟨g, hg, ?_, by rw [e]; omega⟩
      have : g ≠ t := fun z => by rw [z, hd] at dg; cases dg
      show (if g = t then _ else D g) = _
      rw [if_neg this]
      exact dg
/-- the hands' heaps pass on: j has what τ j had -/
structure Passed (n : Nat) (D D' : Nat → Option Nat) (τ : Nat → Nat) : Prop where
  at_ : ∀ t j, t < n → (D' t = some j ↔ D t = some (τ j))
theorem val_passed {τ : Nat → Nat} (P : Passed n D D' τ) (i j : Nat) : val w n D' i j = val w n D i (τ j) := S_congr fun t ht => by
  by_cases e : D' t = some j
  · rw [if_pos e, if_pos ((P.at_ t j ht).mp e)]
  · rw [if_neg e, if_neg fun z => e ((P.at_ t j ht).mpr z)]
theorem ef1_passed {τ : Nat → Nat} (P : Passed n D D' τ) (F : EF1 w n h D) (lt : ∀ i, i < h → τ i < h) (up : ∀ i, i < h → val w n D i i ≤ val w n D i (τ i)) (hw : Pos w) : EF1 w n h D' := by
  intro i j hi hj ne
  rw [val_passed P i i, val_passed P i j]
  have u := up i hi
  have tr : ∀ g, g < n → (D' g = some j ↔ D g = some (τ j)) := fun g hg => P.at_ g j hg
  by_cases q : τ j = i
  · by_cases z : ∃ g, g < n ∧ D' g = some j
    · obtain ⟨g, hg, e⟩ := z
      refine .inr ⟨g, hg, e, ?_⟩
      have := hw i g
      rw [q]
      omega
    · exact .inl fun t ht e => z ⟨t, ht, e⟩
  · rcases F i (τ j) hi (lt j hj) (Ne.symm q) with z | ⟨g, hg, dg, le⟩
    · exact .inl fun t ht e => z t ht ((tr t ht).mp e)
    · exact .inr ⟨g, hg, (tr g hg).mpr dg, by omega⟩
/-- what is lacking of all -/
def lack (w : Nat → Nat → Int) (n h : Nat) (D : Nat → Option Nat) : Nat := (S h (fun i => S n (w i)) - S h (fun i => val w n D i i)).toNat
theorem lack_passed {τ : Nat → Nat} (P : Passed n D D' τ) (hw : Pos w) (up : ∀ i, i < h → val w n D i i ≤ val w n D i (τ i)) {i : Nat} (hi : i < h) (st : val w n D i i < val w n D i (τ i)) : lack w n h D' < lack w n h D := by
  have a : S h (fun i => val w n D i i) < S h (fun i => val w n D' i i) := S_lt (fun i hi => by rw [val_passed P]; exact up i hi) hi (by rw [val_passed P]; exact st)
  have b : S h (fun i => val w n D' i i) ≤ S h (fun i => S n (w i)) := S_le fun i _ => S_le fun t _ => by
    have := hw i t
    split <;> omega
  unfold lack
  omega

/-! ### the list of a ring -/
def nextOf (r : List Nat) (j : Nat) : Nat := if j ∈ r then r.getD ((r.idxOf j + 1) % r.length) 0 else j
def prevOf (r : List Nat) (j : Nat) : Nat := if j ∈ r then r.getD ((r.idxOf j + (r.length - 1)) % r.length) 0 else j
theorem idx_at {r : List Nat} (nd : r.Nodup) {k : Nat} (hk : k < r.length) : r.idxOf (r.getD k 0) = k := by
  have e : r.getD k 0 = r[k] := by simp [List.getD, hk]
  rw [e]
  have m : r[k] ∈ r := List.getElem_mem hk
  have l := List.idxOf_lt_length_of_mem m
  have g : r[r.idxOf r[k]] = r[k] := List.getElem_idxOf l
  exact (List.getElem_inj nd).mp g
theorem mem_at {r : List Nat} {k : Nat} (hk : k < r.length) : r.getD k 0 ∈ r := by
  have e : r.getD k 0 = r[k] := by simp [List.getD, hk]
  rw [e]; exact List.getElem_mem hk
theorem at_idx {r : List Nat} {j : Nat} (m : j ∈ r) : r.getD (r.idxOf j) 0 = j := by
  have l := List.idxOf_lt_length_of_mem m
  have e : r.getD (r.idxOf j) 0 = r[r.idxOf j] := by simp [List.getD, l]
  rw [e]; exact List.getElem_idxOf l
theorem mod_back {k L : Nat} (h : k < L) : ((k + (L - 1)) % L + 1) % L = k := by
  by_cases z : k = 0
  · subst z
    rw [Nat.zero_add, Nat.mod_eq_of_lt (by omega : L - 1 < L), Nat.sub_add_cancel (by omega), Nat.mod_self]
  · have e : k + (L - 1) = (k - 1) + L := by omega
    rw [e, Nat.add_mod_right, Nat.mod_eq_of_lt (by omega : k - 1 < L), Nat.sub_add_cancel (by omega), Nat.mod_eq_of_lt h]
theorem mod_forth {k L : Nat} (h : k < L) : ((k + 1) % L + (L - 1)) % L = k := by
  by_cases z : k + 1 = L
  · subst z
    rw [Nat.mod_self, Nat.zero_add, Nat.mod_eq_of_lt (by omega)]
    omega
  · rw [Nat.mod_eq_of_lt (by omega : k + 1 < L), show k + 1 + (L - 1) = k + L by omega, Nat.add_mod_right, Nat.mod_eq_of_lt h]
theorem next_mem {r : List Nat} {j : Nat} (m : j ∈ r) : nextOf r j ∈ r := by
  unfold nextOf
  rw [if_pos m]
  exact mem_at (Nat.mod_lt _ (by have := List.idxOf_lt_length_of_mem m; omega))
theorem prev_mem {r : List Nat} {j : Nat} (m : j ∈ r) : prevOf r j ∈ r := by
  unfold prevOf
  rw [if_pos m]
  exact mem_at (Nat.mod_lt _ (by have := List.idxOf_lt_length_of_mem m; omega))
theorem next_prev {r : List Nat} (nd : r.Nodup) (j : Nat) : nextOf r (prevOf r j) = j := by
  by_cases m : j ∈ r
  · have l := List.idxOf_lt_length_of_mem m
    have m2 := prev_mem m
    unfold nextOf
    rw [if_pos m2]
    have e : prevOf r j = r.getD ((r.idxOf j + (r.length - 1)) % r.length) 0 := by unfold prevOf; rw [if_pos m]
    rw [e, idx_at nd (Nat.mod_lt _ (by omega)), mod_back l, at_idx m]
  · have e : prevOf r j = j := by unfold prevOf; rw [if_neg m]
    rw [e]; unfold nextOf; rw [if_neg m]
theorem prev_next {r : List Nat} (nd : r.Nodup) (j : Nat) : prevOf r (nextOf r j) = j := by
  by_cases m : j ∈ r
  · have l := List.idxOf_lt_length_of_mem m
    have m2 := next_mem m
    unfold prevOf
    rw [if_pos m2]
    have e : nextOf r j = r.getD ((r.idxOf j + 1) % r.length) 0 := by unfold nextOf; rw [if_pos m]
    rw [e, idx_at nd (Nat.mod_lt _ (by omega)), mod_forth l, at_idx m]
  · have e : nextOf r j = j := by unfold nextOf; rw [if_neg m]
    rw [e]; unfold prevOf; rw [if_neg m]
structure Ring (w : Nat → Nat → Int) (n h : Nat) (D : Nat → Option Nat) (r : List Nat) : Prop where
  nd : r.Nodup
  two : 2 ≤ r.length
  lt : ∀ x, x ∈ r → x < h
  envy : ∀ k, k < r.length → val w n D (r.getD k 0) (r.getD k 0) < val w n D (r.getD k 0) (r.getD ((k + 1) % r.length) 0)
theorem ring_next {r : List Nat} (R : Ring w n h D r) {x : Nat} (m : x ∈ r) : val w n D x x < val w n D x (nextOf r x) := by
  have l := List.idxOf_lt_length_of_mem m
  have e := R.envy (r.idxOf x) l
  rw [at_idx m] at e
  unfold nextOf
  rw [if_pos m]
  exact e
theorem ring_up {r : List Nat} (R : Ring w n h D r) (i : Nat) : val w n D i i ≤ val w n D i (nextOf r i) := by
  by_cases m : i ∈ r
  · exact Int.le_of_lt (ring_next R m)
  · unfold nextOf; rw [if_neg m]; exact Int.le_refl _
theorem ring_lt {r : List Nat} (R : Ring w n h D r) (i : Nat) (hi : i < h) : nextOf r i < h := by
  by_cases m : i ∈ r
  · exact R.lt _ (next_mem m)
  · unfold nextOf; rw [if_neg m]; exact hi
/-- the ring r turned -/
def turned (r : List Nat) (D : Nat → Option Nat) : Nat → Option Nat := fun t => (D t).map (prevOf r)
theorem turned_passed {r : List Nat} (nd : r.Nodup) : Passed n D (turned r D) (nextOf r) := ⟨fun t j _ => by
  unfold turned
  cases e : D t with
  | none => simp
  | some o =>
    simp only [Option.map_some, Option.some.injEq]
    constructor
    · intro z; rw [← z, next_prev nd]
    · intro z; rw [z, prev_next nd]⟩
theorem ef1_turned {r : List Nat} (hw : Pos w) (R : Ring w n h D r) (F : EF1 w n h D) : EF1 w n h (turned r D) :=
  ef1_passed (turned_passed R.nd) F (ring_lt R) (fun i _ => ring_up R i) hw
theorem lack_turned {r : List Nat} (hw : Pos w) (R : Ring w n h D r) : lack w n h (turned r D) < lack w n h D := by
  have l : 0 < r.length := by have := R.two; omega
  have m : r.getD 0 0 ∈ r := mem_at l
  exact lack_passed (turned_passed R.nd) hw (fun i _ => ring_up R i) (R.lt _ m) (ring_next R m)

/-! ### the hands from which envy leads on, and a way among them -/
/-- the first one of some hands that a hand envies -/
def among (ps : List (Nat × Nat)) (x : Nat) (hs : List Nat) : Option Nat := (ps.find? fun p => p.1 == x && hs.contains p.2).map (·.2)
theorem among_some {ps : List (Nat × Nat)} {x y : Nat} {hs : List Nat} (e : among ps x hs = some y) : (x, y) ∈ ps ∧ y ∈ hs := by
  unfold among at e
  cases f : ps.find? fun p => p.1 == x && hs.contains p.2 with
  | none => rw [f] at e; cases e
  | some p =>
    rw [f] at e
    have e2 : p.2 = y := Option.some.inj e
    have m := List.mem_of_find?_eq_some f
    have q := List.find?_some f
    simp only [Bool.and_eq_true, beq_iff_eq, List.contains_iff_mem] at q
    obtain ⟨a, b⟩ := p
    cases q.1; cases e2
    exact ⟨m, q.2⟩
theorem among_none {ps : List (Nat × Nat)} {x : Nat} {hs : List Nat} (e : among ps x hs = none) {y : Nat} (hy : y ∈ hs) : (x, y) ∉ ps := fun m => by
  unfold among at e
  rw [Option.map_eq_none_iff, List.find?_eq_none] at e
  have := e (x, y) m
  simp [hy] at this
structure Left (ps : List (Nat × Nat)) (all left : List Nat) : Prop where
  sub : ∀ x, x ∈ left → x ∈ all
  out : ∀ y, y ∈ all → y ∉ left → ∀ x, x ∈ left → (y, x) ∉ ps
  free : left ≠ [] ∨ ∃ x, x ∈ all ∧ ∀ y, y ∈ all → (y, x) ∉ ps
theorem left_start {ps : List (Nat × Nat)} {all : List Nat} (ne : all ≠ []) : Left ps all all := ⟨fun _ h => h, fun _ h n => absurd h n, .inl ne⟩
def keptOf (ps : List (Nat × Nat)) (left : List Nat) : List Nat := left.filter fun x => (among ps x left).isSome
theorem left_step {ps : List (Nat × Nat)} {all left : List Nat} (L : Left ps all left) : Left ps all (keptOf ps left) := by
  have sub : ∀ x, x ∈ keptOf ps left → x ∈ left := fun x hx => (List.mem_filter.mp hx).1
  have gone : ∀ y, y ∈ left → y ∉ keptOf ps left → ∀ x, x ∈ left → (y, x) ∉ ps := fun y hy ny x hx => by
    have e : among ps y left = none := by
      cases q : among ps y left with
      | none => rfl
      | some z => exact absurd (List.mem_filter.mpr ⟨hy, by rw [q]; rfl⟩) ny
    exact among_none e hx
  refine ⟨fun x hx => L.sub x (sub x hx), fun y hy ny x hx => ?_, ?_⟩
  · by_cases m : y ∈ left
    · exact gone y m ny x (sub x hx)
    · exact L.out y hy m x (sub x hx)
  · by_cases e : keptOf ps left = []
    · rcases L.free with ne | f
      · obtain ⟨x, hx⟩ := List.exists_mem_of_ne_nil _ ne
        refine .inr ⟨x, L.sub x hx, fun y hy => ?_⟩
        by_cases m : y ∈ left
        · exact gone y m (by rw [e]; exact List.not_mem_nil) x hx
        · exact L.out y hy m x hx
      · exact .inr f
    · exact .inl e
theorem left_end {ps : List (Nat × Nat)} {left : List Nat} (e : (keptOf ps left).length = left.length) : keptOf ps left = left ∧ ∀ x, x ∈ left → ∃ y, among ps x left = some y := by
  have q : ∀ x, x ∈ left → (among ps x left).isSome = true := List.length_filter_eq_length_iff.mp e
  exact ⟨List.filter_eq_self.mpr q, fun x hx => Option.isSome_iff_exists.mp (q x hx)⟩
theorem left_less {ps : List (Nat × Nat)} {left : List Nat} (e : (keptOf ps left).length ≠ left.length) : (keptOf ps left).length < left.length :=
  Nat.lt_of_le_of_ne (List.length_filter_le _ _) e
theorem nodup_sub_len : ∀ {l m : List Nat}, l.Nodup → (∀ x, x ∈ l → x ∈ m) → l.length ≤ m.length
  | [], _, _, _ => Nat.zero_le _
  | x :: l, m, nd, sub => by
    have hx : x ∈ m := sub x List.mem_cons_self
    rw [List.nodup_cons] at nd
    have := nodup_sub_len (l := l) (m := m.erase x) nd.2 fun y hy => (List.mem_erase_of_ne (fun z => nd.1 (by rw [← z]; exact hy))).mpr (sub y (List.mem_cons_of_mem _ hy))
    rw [List.length_erase_of_mem hx] at this
    have p : 0 < m.length := List.length_pos_of_mem hx
    rw [List.length_cons]
    omega
/-- a way along envies -/
structure Way (ps : List (Nat × Nat)) (hs way : List Nat) : Prop where
  nd : way.Nodup
  sub : ∀ x, x ∈ way → x ∈ hs
  ne : way ≠ []
  go : ∀ k, k + 1 < way.length → (way.getD k 0, way.getD (k + 1) 0) ∈ ps
def lastOf (way : List Nat) : Nat := way.getD (way.length - 1) 0
theorem way_start {ps : List (Nat × Nat)} {hs : List Nat} {x : Nat} (h : x ∈ hs) : Way ps hs [x] := ⟨by simp, fun y hy => by rw [List.mem_singleton.mp hy]; exact h, by simp, fun k hk => by simp at hk⟩
theorem last_mem {way : List Nat} (ne : way ≠ []) : lastOf way ∈ way := mem_at (by have := List.length_pos_iff.mpr ne; omega)
theorem way_more {ps : List (Nat × Nat)} {hs way : List Nat} (W : Way ps hs way) {f : Nat} (e : among ps (lastOf way) hs = some f) (nf : f ∉ way) : Way ps hs (way ++ [f]) := by
  obtain ⟨hp, hf⟩ := among_some e
  refine ⟨?_, fun x hx => ?_, by simp, fun k hk => ?_⟩
  · rw [List.nodup_append]
    refine ⟨W.nd, by simp, fun a ha b hb z => ?_⟩
    rw [List.mem_singleton] at hb
    exact nf (by rw [← hb, ← z]; exact ha)
  · rcases List.mem_append.mp hx with z | z
    · exact W.sub x z
    · rw [List.mem_singleton.mp z]; exact hf
  · rw [List.length_append, List.length_singleton] at hk
    by_cases z : k + 1 < way.length
    · have a : (way ++ [f]).getD k 0 = way.getD k 0 := by simp [List.getD, List.getElem?_append_left (show k < way.length by omega)]
      have b : (way ++ [f]).getD (k + 1) 0 = way.getD (k + 1) 0 := by simp [List.getD, List.getElem?_append_left z]
      rw [a, b]
      exact W.go k z
    · have a : (way ++ [f]).getD k 0 = way.getD k 0 := by simp [List.getD, List.getElem?_append_left (show k < way.length by omega)]
      have e1 : k + 1 = way.length := by omega
      have b : (way ++ [f]).getD (k + 1) 0 = f := by simp [List.getD, e1]
      rw [a, b]
      have e2 : k = way.length - 1 := by omega
      rw [e2]
      exact hp
theorem way_len {ps : List (Nat × Nat)} {hs way : List Nat} (W : Way ps hs way) : way.length ≤ hs.length := nodup_sub_len W.nd W.sub
theorem way_ring {ps : List (Nat × Nat)} {hs way : List Nat} (W : Way ps hs way) (envy : ∀ x y, (x, y) ∈ ps → val w n D x x < val w n D x y) (lt : ∀ x, x ∈ hs → x < h) {f : Nat} (e : among ps (lastOf way) hs = some f) (hf : f ∈ way) :
    Ring w n h D (way.drop (way.idxOf f)) := by
  obtain ⟨hp, _⟩ := among_some e
  have l := List.idxOf_lt_length_of_mem hf
  have ix := at_idx hf
  generalize hi : way.idxOf f = i at *
  have len : (way.drop i).length = way.length - i := List.length_drop
  have gd : ∀ k, (way.drop i).getD k 0 = way.getD (i + k) 0 := fun k => by simp [List.getD, List.getElem?_drop]
  have ne : i ≠ way.length - 1 := fun z => by
    have a : lastOf way = f := by unfold lastOf; rw [← z]; exact ix
    have b := envy _ _ hp
    rw [a] at b
    omega
  refine ⟨W.nd.sublist (List.drop_sublist _ _), by rw [len]; omega, fun x hx => lt x (W.sub x (List.mem_of_mem_drop hx)), fun k hk => ?_⟩
  rw [len] at hk ⊢
  rw [gd k, gd]
  by_cases z : k + 1 < way.length - i
  · rw [Nat.mod_eq_of_lt z]
    exact envy _ _ (W.go (i + k) (by omega))
  · have e1 : k + 1 = way.length - i := by omega
    rw [e1, Nat.mod_self, Nat.add_zero, ix]
    have e2 : i + k = way.length - 1 := by omega
    rw [e2]
    exact envy _ _ hp
end
end LE

namespace LE
/-! ### how often rings can be turned before a thing is given: by ranks -/
section
variable {w : Nat → Nat → Int} {n h : Nat} {D D0 : Nat → Option Nat}
theorem S_const (n : Nat) (c : Int) : S n (fun _ => c) = n * c := by
  induction n with
  | zero => simp [S]
  | succ n ih => rw [S_succ, ih, Int.natCast_succ, Int.add_mul, Int.one_mul]
def rank (w : Nat → Nat → Int) (n h : Nat) (D0 : Nat → Option Nat) (c : Nat → Int) : Int := S h fun i => S h fun j => if c i < val w n D0 i j then 1 else 0
theorem rank_nonneg {c : Nat → Int} : 0 ≤ rank w n h D0 c := S_nonneg fun i _ => S_nonneg fun j _ => ite_nonneg (by omega)
theorem rank_top {c : Nat → Int} : rank w n h D0 c ≤ h * h := by
  have z : rank w n h D0 c ≤ S h fun _ => (h : Int) := S_le fun i _ => by
    have z : S h (fun j => if c i < val w n D0 i j then (1 : Int) else 0) ≤ S h fun _ => (1 : Int) := S_le fun j _ => by split <;> omega
    rw [S_const] at z
    omega
  rw [S_const] at z
  exact z
def Moved (w : Nat → Nat → Int) (n h : Nat) (D0 D : Nat → Option Nat) : Prop := ∃ π : Nat → Nat, (∀ j, j < h → π j < h) ∧ ∀ i j, j < h → val w n D i j = val w n D0 i (π j)
theorem moved_refl : Moved w n h D D := ⟨fun j => j, fun _ l => l, fun _ _ _ => rfl⟩
theorem moved_turned {r : List Nat} (M : Moved w n h D0 D) (R : Ring w n h D r) : Moved w n h D0 (turned r D) := by
  obtain ⟨π, h1, h2⟩ := M
  refine ⟨fun j => π (nextOf r j), fun j hj => h1 _ (ring_lt R j hj), fun i j hj => ?_⟩
  rw [val_passed (turned_passed R.nd) i j]
  exact h2 i _ (ring_lt R j hj)
def rankN (w : Nat → Nat → Int) (n h : Nat) (D0 D : Nat → Option Nat) : Nat := (rank w n h D0 fun i => val w n D i i).toNat
theorem rankN_top : rankN w n h D0 D ≤ h * h := by
  have := rank_top (w := w) (n := n) (h := h) (D0 := D0) (c := fun i => val w n D i i)
  unfold rankN
  have e : ((h * h : Nat) : Int) = (h : Int) * h := Int.natCast_mul h h
  omega
theorem rank_turned {r : List Nat} (M : Moved w n h D0 D) (R : Ring w n h D r) : rankN w n h D0 (turned r D) < rankN w n h D0 D := by
  obtain ⟨π, h1, h2⟩ := M
  have up : ∀ i, val w n D i i ≤ val w n (turned r D) i i := fun i => by
    rw [val_passed (turned_passed R.nd) i i]
    exact ring_up R i
  obtain ⟨x, m⟩ : ∃ x, x ∈ r := List.exists_mem_of_length_pos (by have := R.two; omega)
  have hx := R.lt x m
  have st := ring_next R m
  have e1 : val w n (turned r D) x x = val w n D x (nextOf r x) := val_passed (turned_passed R.nd) x x
  have hn := ring_lt R x hx
  have e2 : val w n D x (nextOf r x) = val w n D0 x (π (nextOf r x)) := h2 x _ hn
  have z : rank w n h D0 (fun i => val w n (turned r D) i i) < rank w n h D0 fun i => val w n D i i := by
    refine S_lt (a := x) (fun i _ => S_le fun j _ => ?_) hx (S_lt (a := π (nextOf r x)) (fun j _ => ?_) (h1 _ hn) ?_)
    · have := up i
      show (if val w n (turned r D) i i < val w n D0 i j then (1 : Int) else 0) ≤ if val w n D i i < val w n D0 i j then 1 else 0
      split <;> split <;> omega
    · have := up x
      show (if val w n (turned r D) x x < val w n D0 x j then (1 : Int) else 0) ≤ if val w n D x x < val w n D0 x j then 1 else 0
      split <;> split <;> omega
    · show (if val w n (turned r D) x x < val w n D0 x (π (nextOf r x)) then (1 : Int) else 0) < if val w n D x x < val w n D0 x (π (nextOf r x)) then 1 else 0
      rw [if_neg (by omega), if_pos (by omega)]
      omega
  have p := rank_nonneg (w := w) (n := n) (h := h) (D0 := D0) (c := fun i => val w n (turned r D) i i)
  unfold rankN
  omega
end
end LE

namespace LE
/-! ### deals that no other one betters, by weights -/
section
variable {w : Nat → Nat → Int} {n h : Nat} {D : Nat → Option Nat} {c : Nat → Int}
def tot (w : Nat → Nat → Int) (n h : Nat) (c : Nat → Int) (D : Nat → Option Nat) : Int := S h fun i => c i * shr w n D i
theorem tot_by (c : Nat → Int) (D : Nat → Option Nat) : tot w n h c D = S n fun t => S h fun i => if D t = some i then c i * w i t else 0 := by
  unfold tot
  rw [← S_comm]
  refine S_congr fun i _ => ?_
  unfold shr val
  rw [← S_mul]
  refine S_congr fun t _ => ?_
  show c i * (if D t = some i then w i t else 0) = _
  split
  · rfl
  · exact Int.mul_zero _
theorem tot_at {t k : Nat} (hk : k < h) (e : D t = some k) : S h (fun i => if D t = some i then c i * w i t else 0) = c k * w k t := by
  have z : S h (fun i => if D t = some i then c i * w i t else 0) = S h fun i => if i = k then c k * w k t else 0 := S_congr fun i _ => by
    rw [e]
    by_cases q : i = k
    · subst q; rw [if_pos rfl, if_pos rfl]
    · rw [if_neg (fun z => q (Option.some.inj z).symm), if_neg q]
  rw [z, S_at hk]
theorem best_of_weights (cp : ∀ i, i < h → 0 < c i) (W : Whole n h D) (top : ∀ t, t < n → ∀ k, D t = some k → ∀ j, j < h → c j * w j t ≤ c k * w k t) : Best w n h D := by
  intro E WE le i hi
  have a : tot w n h c E ≤ tot w n h c D := by
    rw [tot_by, tot_by]
    refine S_le fun t ht => ?_
    obtain ⟨k, hk, ek⟩ := W t ht
    obtain ⟨j, hj, ej⟩ := WE t ht
    rw [tot_at hk ek, tot_at hj ej]
    exact top t ht k ek j hj
  have z := S_eq_of_le (f := fun i => c i * shr w n D i) (g := fun i => c i * shr w n E i) (fun i hi => Int.mul_le_mul_of_nonneg_left (le i hi) (Int.le_of_lt (cp i hi))) a i hi
  exact (Int.eq_of_mul_eq_mul_left (Int.ne_of_gt (cp i hi)) z).symm
end
end LE

namespace LE
/-! ### halves -/
def lsum (f : Nat → Int) (L : List Nat) : Int := (L.map f).sum
theorem lsum_nil (f : Nat → Int) : lsum f [] = 0 := rfl
theorem lsum_cons (f : Nat → Int) (x : Nat) (L : List Nat) : lsum f (x :: L) = f x + lsum f L := by
  unfold lsum; rw [List.map_cons, List.sum_cons]
theorem lsum_app (f : Nat → Int) (L M : List Nat) : lsum f (L ++ M) = lsum f L + lsum f M := by
  unfold lsum; rw [List.map_append, List.sum_append]
theorem lsum_le {f g : Nat → Int} : ∀ {L : List Nat}, (∀ t, t ∈ L → f t ≤ g t) → lsum f L ≤ lsum g L
  | [], _ => Int.le_refl _
  | x :: L, h => by
    have a := h x List.mem_cons_self
    have b := lsum_le (L := L) fun t m => h t (List.mem_cons_of_mem _ m)
    rw [lsum_cons, lsum_cons]; omega
theorem lsum_nonneg {f : Nat → Int} {L : List Nat} (h : ∀ t, t ∈ L → 0 ≤ f t) : 0 ≤ lsum f L := by
  have a := lsum_le (f := fun _ => 0) (g := f) (L := L) h
  have z : ∀ L : List Nat, lsum (fun _ => (0 : Int)) L = 0 := fun L => by
    induction L with
    | nil => rfl
    | cons x L ih => rw [lsum_cons, ih]; rfl
  rw [z] at a
  exact a
theorem lsum_filter (f : Nat → Int) (p : Nat → Bool) : ∀ L : List Nat, lsum f (L.filter p) = lsum (fun t => if p t = true then f t else 0) L
  | [] => rfl
  | x :: L => by
    rw [lsum_cons, ← lsum_filter f p L, List.filter_cons]
    by_cases h : p x = true
    · rw [if_pos h, if_pos h, lsum_cons]
    · rw [if_neg h, if_neg h, Int.zero_add]
theorem lsum_heaps (f : Nat → Int) (F : Nat → Nat) (k : Nat) : ∀ L : List Nat, (∀ t, t ∈ L → F t < k) → S k (fun j => lsum (fun t => if F t = j then f t else 0) L) = lsum f L
  | [], _ => S_zero fun _ _ => rfl
  | x :: L, h => by
    have ih := lsum_heaps f F k L fun t m => h t (List.mem_cons_of_mem _ m)
    rw [lsum_cons, ← ih]
    have e : S k (fun j => lsum (fun t => if F t = j then f t else 0) (x :: L)) = S k (fun j => (if j = F x then f x else 0) + lsum (fun t => if F t = j then f t else 0) L) := S_congr fun j _ => by
      rw [lsum_cons]
      by_cases q : F x = j
      · rw [if_pos q, if_pos q.symm]
      · rw [if_neg q, if_neg (Ne.symm q)]
    rw [e, S_add, S_at (h x List.mem_cons_self)]
/-- what a list of things is worth, as a sum over all things -/
theorem lsum_S {n : Nat} (f : Nat → Int) : ∀ {B : List Nat}, B.Nodup → (∀ t, t ∈ B → t < n) → S n (fun t => if t ∈ B then f t else 0) = lsum f B
  | [], _, _ => S_zero fun _ _ => by simp
  | x :: B, nd, lt => by
    rw [List.nodup_cons] at nd
    have ih := lsum_S (n := n) f nd.2 fun t m => lt t (List.mem_cons_of_mem _ m)
    rw [lsum_cons, ← ih]
    have e : S n (fun t => if t ∈ x :: B then f t else 0) = S n (fun t => if t = x then f x else (fun t => if t ∈ B then f t else 0) t) := S_congr fun t _ => by
      by_cases q : t = x
      · subst q; rw [if_pos List.mem_cons_self, if_pos rfl]
      · rw [if_neg q]
        show _ = if t ∈ B then f t else 0
        by_cases m : t ∈ B
        · rw [if_pos m, if_pos (List.mem_cons_of_mem _ m)]
        · rw [if_neg m, if_neg (fun z => (List.mem_cons.mp z).elim q m)]
    rw [e, S_upd (lt x List.mem_cons_self)]
    show _ - (if x ∈ B then f x else 0) + _ = _
    rw [if_neg nd.1]
    omega
section
variable {w : Nat → Nat → Int} {n h k : Nat} {L : List Nat} {i : Nat} {μ : Int}
/-- all things can be parted into h heaps that are worth μ to i -/
def Feas (w : Nat → Nat → Int) (n h i : Nat) (μ : Int) : Prop := ∃ E, Whole n h E ∧ ∀ j, j < h → μ ≤ val w n E i j
def PhA (w : Nat → Nat → Int) (i k : Nat) (L : List Nat) (μ : Int) : Prop := ∃ F : Nat → Nat, (∀ t, t ∈ L → F t < k) ∧ ∀ j, j < k → μ ≤ lsum (fun t => if F t = j then w i t else 0) L
def NoBig (w : Nat → Nat → Int) (i k : Nat) (L : List Nat) : Prop := ∀ t, t ∈ L → 2 * (k : Int) * w i t < lsum (w i) L
theorem pha_sum (a : PhA w i k L μ) : (k : Int) * μ ≤ lsum (w i) L := by
  obtain ⟨F, h1, h2⟩ := a
  have z := S_le (n := k) (f := fun _ => μ) h2
  rw [S_const, lsum_heaps _ _ _ _ h1] at z
  exact z
theorem pha_start (f : Feas w n h i μ) : PhA w i h (List.range n) μ := by
  obtain ⟨E, W, le⟩ := f
  refine ⟨fun t => (E t).getD 0, fun t m => ?_, fun j hj => ?_⟩
  · obtain ⟨k, hk, e⟩ := W t (List.mem_range.mp m)
    show (E t).getD 0 < h
    rw [e]
    exact hk
  · have z := le j hj
    have e : ∀ m, m ≤ n → S m (fun t => if E t = some j then w i t else 0) = lsum (fun t => if (E t).getD 0 = j then w i t else 0) (List.range m) := fun m => by
      induction m with
      | zero => intro _; rfl
      | succ m ih =>
        intro hm
        rw [S_succ, ih (by omega), List.range_succ, lsum_app, lsum_cons, lsum_nil, Int.add_zero]
        obtain ⟨k, hk, ek⟩ := W m (by omega)
        rw [ek]
        by_cases q : k = j
        · subst q; rw [if_pos rfl, if_pos (by rfl)]
        · rw [if_neg (fun y => q (Option.some.inj y)), if_neg (by exact q)]
    unfold val at z
    rw [e n (Nat.le_refl _)] at z
    exact z
theorem pha_one (hw : Pos w) (a : PhA w i k L μ) {g : Nat} (m : g ∈ L) (k2 : 2 ≤ k) : PhA w i (k - 1) (L.filter fun t => !([g] : List Nat).contains t) μ := by
  obtain ⟨F, h1, h2⟩ := a
  have hj0 := h1 g m
  refine ⟨fun t => if F t = F g then 0 else if F t = k - 1 then F g else F t, fun t mt => ?_, fun j hj => ?_⟩
  · have mt' := h1 t (List.mem_filter.mp mt).1
    show (if F t = F g then 0 else if F t = k - 1 then F g else F t) < k - 1
    split
    · omega
    · split <;> omega
  · have z := h2 (if j = F g then k - 1 else j) (by split <;> omega)
    refine Int.le_trans z ?_
    rw [lsum_filter]
    refine lsum_le fun t mt => ?_
    have mt' := h1 t mt
    have p := hw i t
    show (if F t = if j = F g then k - 1 else j then w i t else 0) ≤ if (!([g] : List Nat).contains t) = true then (if (if F t = F g then 0 else if F t = k - 1 then F g else F t) = j then w i t else 0) else 0
    by_cases q : F t = if j = F g then k - 1 else j
    · rw [if_pos q]
      have ng : t ≠ g := fun e => by
        subst e
        by_cases q2 : j = F t
        · rw [if_pos q2] at q; omega
        · rw [if_neg q2] at q; omega
      rw [if_pos (by simp [ng])]
      by_cases q2 : j = F g
      · rw [if_pos q2] at q
        rw [if_neg (by omega : ¬ F t = F g), if_pos q, if_pos q2.symm]
        exact Int.le_refl _
      · rw [if_neg q2] at q
        rw [if_neg (by omega : ¬ F t = F g), if_neg (by omega : ¬ F t = k - 1), if_pos q]
        exact Int.le_refl _
    · rw [if_neg q]
      split
      · split <;> omega
      · exact Int.le_refl _
theorem take_out : ∀ {L : List Nat} (m : Nat), L.Nodup → L.filter (fun t => !(L.take m).contains t) = L.drop m := fun {L} m nd => by
  have e : L.filter (fun t => !(L.take m).contains t) = (L.take m ++ L.drop m).filter (fun t => !(L.take m).contains t) := by rw [List.take_append_drop]
  rw [e, List.filter_append]
  have a : (L.take m).filter (fun t => !(L.take m).contains t) = [] := List.filter_eq_nil_iff.mpr fun t mt => by simp [mt]
  have b : (L.drop m).filter (fun t => !(L.take m).contains t) = L.drop m := List.filter_eq_self.mpr fun t mt => by
    have d := nd
    rw [← List.take_append_drop m L, List.nodup_append] at d
    have z : t ∉ L.take m := fun z => d.2.2 t z t mt rfl
    cases q : (L.take m).contains t with
    | false => rfl
    | true => exact absurd (List.contains_iff_mem.mp q) z
  rw [a, b, List.nil_append]
/-- a bag is taken by another one -/
theorem bag_on (k2 : 2 ≤ k) (k4 : k ≤ 4) (nb : NoBig w i k L) (sm : (k : Int) * μ ≤ lsum (w i) L) {m : Nat} (hm : m < L.length) (small : 2 * (k : Int) * lsum (w i) (L.take m) < lsum (w i) L) :
    NoBig w i (k - 1) (L.drop (m + 1)) ∧ ((k - 1 : Nat) : Int) * μ ≤ lsum (w i) (L.drop (m + 1)) := by
  have e := lsum_app (w i) (L.take (m + 1)) (L.drop (m + 1))
  rw [List.take_append_drop] at e
  have e2 : lsum (w i) (L.take (m + 1)) = lsum (w i) (L.take m) + w i L[m] := by
    rw [List.take_add_one, lsum_app, List.getElem?_eq_getElem hm]
    show _ + lsum (w i) [L[m]] = _
    rw [lsum_cons, lsum_nil, Int.add_zero]
  have b := nb L[m] (List.getElem_mem hm)
  refine ⟨fun t mt => ?_, ?_⟩
  · have c := nb t (List.mem_of_mem_drop mt)
    rcases (by omega : k = 2 ∨ k = 3 ∨ k = 4) with rfl | rfl | rfl <;> omega
  · rcases (by omega : k = 2 ∨ k = 3 ∨ k = 4) with rfl | rfl | rfl <;> omega
/-- that is not all there is, so far as a hand has no big thing -/
theorem bag_all (hw : Pos w) (k2 : 2 ≤ k) (nb : NoBig w i k L) (small : ∀ m, m < L.length → 2 * (k : Int) * lsum (w i) (L.take m) < lsum (w i) L) : L = [] := by
  rcases Nat.eq_zero_or_pos L.length with z | z
  · exact List.length_eq_zero_iff.mp z
  · exfalso
    have a := small (L.length - 1) (by omega)
    have hm : L.length - 1 < L.length := by omega
    have b := nb L[L.length - 1] (List.getElem_mem hm)
    have e2 : lsum (w i) (L.take (L.length - 1 + 1)) = lsum (w i) (L.take (L.length - 1)) + w i L[L.length - 1] := by
      rw [List.take_add_one, lsum_app, List.getElem?_eq_getElem hm]
      show _ + lsum (w i) [L[L.length - 1]] = _
      rw [lsum_cons, lsum_nil, Int.add_zero]
    rw [show L.length - 1 + 1 = L.length by omega, List.take_length] at e2
    have p := hw i L[L.length - 1]
    have q : 0 ≤ lsum (w i) (L.take (L.length - 1)) := lsum_nonneg fun t _ => hw i t
    have kk : (2 : Int) ≤ k := by omega
    have m1 := Int.mul_le_mul_of_nonneg_right kk p
    have m2 := Int.mul_le_mul_of_nonneg_right kk q
    rw [Int.mul_assoc] at a b
    omega
/-- hands: who still waits; L: what is left -/
structure HSt (w : Nat → Nat → Int) (n h : Nat) (hands L : List Nat) (D : Nat → Option Nat) : Prop where
  nd : hands.Nodup
  lt : ∀ i, i ∈ hands → i < h
  ndL : L.Nodup
  left : ∀ t, t ∈ L ↔ t < n ∧ D t = none
  own : ∀ t k, t < n → D t = some k → k < h ∧ k ∉ hands
  done : ∀ i, i < h → i ∉ hands → ∀ μ, Feas w n h i μ → μ ≤ 2 * shr w n D i
  fin : hands = [] → L = []
  ph : (∀ i, i ∈ hands → ∀ μ, Feas w n h i μ → PhA w i hands.length L μ) ∨ (∀ i, i ∈ hands → NoBig w i hands.length L ∧ ∀ μ, Feas w n h i μ → (hands.length : Int) * μ ≤ lsum (w i) L)
/-- j takes B -/
def giveAll (D : Nat → Option Nat) (j : Nat) (B : List Nat) : Nat → Option Nat := fun t => if t ∈ B then some j else D t
variable {D : Nat → Option Nat} {hands B : List Nat} {j : Nat}
theorem hst_start (h1 : 1 ≤ h) : HSt w n h (List.range h) (List.range n) (fun _ => none) := by
  refine ⟨List.nodup_range, fun i m => List.mem_range.mp m, List.nodup_range, fun t => by simp, fun t k _ e => (nomatch e), fun i hi m => absurd (List.mem_range.mpr hi) m, fun e => ?_, .inl fun i m μ f => ?_⟩
  · exact absurd (List.range_eq_nil.mp e) (by omega)
  · rw [List.length_range]
    exact pha_start f
theorem hst_sum (S : HSt w n h hands L D) (m : i ∈ hands) (f : Feas w n h i μ) : (hands.length : Int) * μ ≤ lsum (w i) L := by
  rcases S.ph with a | a
  · exact pha_sum (a i m μ f)
  · exact (a i m).2 μ f
theorem shr_give (S : HSt w n h hands L D) (m : j ∈ hands) (sub : ∀ t, t ∈ B → t ∈ L) (nd : B.Nodup) : shr w n (giveAll D j B) j = lsum (w j) B := by
  rw [← lsum_S (n := n) (w j) nd fun t mt => ((S.left t).mp (sub t mt)).1]
  refine S_congr fun t ht => ?_
  unfold giveAll
  by_cases q : t ∈ B
  · rw [if_pos q, if_pos q, if_pos rfl]
  · rw [if_neg q, if_neg q, if_neg fun e => (S.own t j ht e).2 m]
theorem shr_keep (S : HSt w n h hands L D) (ne : i ≠ j) (sub : ∀ t, t ∈ B → t ∈ L) : shr w n (giveAll D j B) i = shr w n D i := S_congr fun t ht => by
  unfold giveAll
  by_cases q : t ∈ B
  · rw [if_pos q, if_neg (fun e => ne (Option.some.inj e).symm), ((S.left t).mp (sub t q)).2, if_neg (by simp)]
  · rw [if_neg q]
/-- a step, told by what the taker gets and by how the others go on -/
theorem hst_step (S : HSt w n h hands L D) (m : j ∈ hands) (sub : ∀ t, t ∈ B → t ∈ L) (nd : B.Nodup) (get : ∀ μ, Feas w n h j μ → μ ≤ 2 * lsum (w j) B)
    (all : hands.length = 1 → ∀ t, t ∈ L → t ∈ B)
    (ph : 2 ≤ hands.length → (∀ i, i ∈ hands → i ≠ j → ∀ μ, Feas w n h i μ → PhA w i (hands.length - 1) (L.filter fun t => !B.contains t) μ) ∨
      (∀ i, i ∈ hands → i ≠ j → NoBig w i (hands.length - 1) (L.filter fun t => !B.contains t) ∧ ∀ μ, Feas w n h i μ → ((hands.length - 1 : Nat) : Int) * μ ≤ lsum (w i) (L.filter fun t => !B.contains t))) :
    HSt w n h (hands.erase j) (L.filter fun t => !B.contains t) (giveAll D j B) := by
  have me : ∀ i, i ∈ hands.erase j ↔ i ≠ j ∧ i ∈ hands := fun i => S.nd.mem_erase_iff
  have le : (hands.erase j).length = hands.length - 1 := List.length_erase_of_mem m
  have lp := List.length_pos_of_mem m
  have mf : ∀ t, t ∈ (L.filter fun t => !B.contains t) ↔ t ∈ L ∧ t ∉ B := fun t => by
    rw [List.mem_filter]
    constructor
    · rintro ⟨a, b⟩
      refine ⟨a, fun z => ?_⟩
      rw [List.contains_iff_mem.mpr z] at b
      cases b
    · rintro ⟨a, b⟩
      refine ⟨a, ?_⟩
      cases q : B.contains t with
      | false => rfl
      | true => exact absurd (List.contains_iff_mem.mp q) b
  refine ⟨S.nd.erase j, fun i mi => S.lt i ((me i).mp mi).2, S.ndL.filter _, fun t => ?_, fun t k ht e => ?_, fun i hi ni μ f => ?_, fun e => ?_, ?_⟩
  · rw [mf t, S.left t]
    unfold giveAll
    by_cases q : t ∈ B
    · rw [if_pos q]
      constructor
      · intro z; exact absurd q z.2
      · rintro ⟨_, z⟩; cases z
    · rw [if_neg q]
      constructor
      · intro z; exact z.1
      · intro z; exact ⟨z, q⟩
  · unfold giveAll at e
    by_cases q : t ∈ B
    · rw [if_pos q] at e
      cases e
      exact ⟨S.lt j m, fun z => ((me j).mp z).1 rfl⟩
    · rw [if_neg q] at e
      obtain ⟨a, b⟩ := S.own t k ht e
      exact ⟨a, fun z => b ((me k).mp z).2⟩
  · by_cases q : i = j
    · subst q
      rw [shr_give S m sub nd]
      exact get μ f
    · rw [shr_keep S q sub]
      exact S.done i hi (fun z => ni ((me i).mpr ⟨q, z⟩)) μ f
  · have l1 : hands.length = 1 := by rw [e] at le; simp at le; omega
    refine List.eq_nil_iff_forall_not_mem.mpr fun t mt => ?_
    obtain ⟨a, b⟩ := (mf t).mp mt
    exact b (all l1 t a)
  · by_cases q : 2 ≤ hands.length
    · rw [le]
      rcases ph q with a | a
      · exact .inl fun i mi => a i ((me i).mp mi).2 ((me i).mp mi).1
      · exact .inr fun i mi => a i ((me i).mp mi).2 ((me i).mp mi).1
    · have e : hands.erase j = [] := List.length_eq_zero_iff.mp (by omega)
      rw [e]
      exact .inl fun i mi => absurd mi List.not_mem_nil
theorem hst_len (S : HSt w n h hands L D) : hands.length ≤ h := by
  have := nodup_sub_len (m := List.range h) S.nd fun x m => List.mem_range.mpr (S.lt x m)
  rwa [List.length_range] at this
/-- one thing that is half enough -/
theorem hst_one (hw : Pos w) (h4 : h ≤ 4) (S : HSt w n h hands L D) (k2 : 2 ≤ hands.length) (m : j ∈ hands) {g : Nat} (mg : g ∈ L) (big : lsum (w j) L ≤ 2 * (hands.length : Int) * w j g) :
    HSt w n h (hands.erase j) (L.filter fun t => !([g] : List Nat).contains t) (giveAll D j [g]) := by
  have hl := hst_len S
  refine hst_step S m (fun t mt => by rw [List.mem_singleton.mp mt]; exact mg) (by simp) (fun μ f => ?_) (fun e => by omega) fun _ => .inl fun i mi ne μ f => ?_
  · have z := hst_sum S m f
    rw [lsum_cons, lsum_nil, Int.add_zero]
    rcases (by omega : hands.length = 2 ∨ hands.length = 3 ∨ hands.length = 4) with e | e | e <;> rw [e] at z big <;> omega
  · rcases S.ph with a | a
    · exact pha_one hw (a i mi μ f) mg k2
    · have := (a j m).1 g mg
      omega
/-- a bag: the shortest row of things that is half enough for one -/
theorem hst_bag (hw : Pos w) (h4 : h ≤ 4) (S : HSt w n h hands L D) (k2 : 2 ≤ hands.length) (m : j ∈ hands) (no : ∀ i, i ∈ hands → NoBig w i hands.length L) {b : Nat} (hb : b < L.length)
    (small : ∀ a, a < b → ∀ i, i ∈ hands → 2 * (hands.length : Int) * lsum (w i) (L.take a) < lsum (w i) L) (big : lsum (w j) L ≤ 2 * (hands.length : Int) * lsum (w j) (L.take b)) :
    HSt w n h (hands.erase j) (L.filter fun t => !(L.take b).contains t) (giveAll D j (L.take b)) := by
  have hl := hst_len S
  have nb := no j m
  have l0 : 0 < L.length := by omega
  have b0 : b ≠ 0 := fun e => by
    subst e
    have z := nb L[0] (List.getElem_mem l0)
    have p := hw j L[0]
    rw [List.take_zero, lsum_nil, Int.mul_zero] at big
    have q : (0 : Int) ≤ (2 * (hands.length : Int)) * w j L[0] := Int.mul_nonneg (by omega) p
    exact absurd (Int.lt_of_lt_of_le (Int.lt_of_le_of_lt q z) big) (Int.lt_irrefl _)
  refine hst_step S m (fun t mt => List.mem_of_mem_take mt) (S.ndL.sublist (List.take_sublist _ _)) (fun μ f => ?_) (fun e => by omega) fun _ => .inr fun i mi ne => ?_
  · have z := hst_sum S m f
    rcases (by omega : hands.length = 2 ∨ hands.length = 3 ∨ hands.length = 4) with e | e | e <;> rw [e] at z big <;> omega
  · rw [take_out b S.ndL]
    obtain ⟨a, rfl⟩ : ∃ a, b = a + 1 := ⟨b - 1, by omega⟩
    have sm := small a (by omega) i mi
    have y := fun μ (sm' : (hands.length : Int) * μ ≤ lsum (w i) L) => bag_on (μ := μ) k2 (by omega) (no i mi) sm' (m := a) (by omega) sm
    have z0 : (hands.length : Int) * 0 ≤ lsum (w i) L := by rw [Int.mul_zero]; exact lsum_nonneg fun t _ => hw i t
    exact ⟨(y 0 z0).1, fun μ f => (y μ (hst_sum S mi f)).2⟩
/-- nothing is left -/
theorem hst_empty (h4 : h ≤ 4) (S : HSt w n h hands [] D) (m : j ∈ hands) : HSt w n h (hands.erase j) [] (giveAll D j []) := by
  have hl := hst_len S
  have lp := List.length_pos_of_mem m
  refine hst_step (B := []) S m (fun t mt => mt) (by simp) (fun μ f => ?_) (fun _ t mt => mt) fun _ => .inr fun i mi ne => ⟨fun t mt => absurd mt List.not_mem_nil, fun μ f => ?_⟩
  · have z := hst_sum S m f
    rw [lsum_nil] at z ⊢
    rcases (by omega : hands.length = 1 ∨ hands.length = 2 ∨ hands.length = 3 ∨ hands.length = 4) with e | e | e | e <;> rw [e] at z <;> omega
  · have z := hst_sum S mi f
    rw [lsum_nil] at z
    show _ ≤ lsum (w i) []
    rw [lsum_nil]
    rcases (by omega : hands.length = 1 ∨ hands.length = 2 ∨ hands.length = 3 ∨ hands.length = 4) with e | e | e | e <;> rw [e] at z ⊢ <;> omega
/-- the last hand -/
theorem hst_last (hw : Pos w) (S : HSt w n h hands L D) (m : j ∈ hands) (l1 : hands.length = 1) : HSt w n h (hands.erase j) (L.filter fun t => !L.contains t) (giveAll D j L) := by
  refine hst_step (B := L) S m (fun t mt => mt) S.ndL (fun μ f => ?_) (fun _ t mt => mt) fun z => by omega
  have z := hst_sum S m f
  have p : 0 ≤ lsum (w j) L := lsum_nonneg fun t _ => hw j t
  rw [l1] at z
  omega
theorem hst_end (S : HSt w n h [] L D) : Half w n h D ∧ Whole n h D := by
  refine ⟨fun E W i hi => ?_, fun t ht => ?_⟩
  · refine Classical.byContradiction fun no => ?_
    have f : Feas w n h i (2 * shr w n D i + 1) := ⟨E, W, fun j hj => by
      have : ¬ val w n E i j ≤ 2 * shr w n D i := fun q => no ⟨j, hj, q⟩
      omega⟩
    have := S.done i hi List.not_mem_nil _ f
    omega
  · cases e : D t with
    | some k => exact ⟨k, (S.own t k ht e).1, rfl⟩
    | none =>
      have := (S.left t).mpr ⟨ht, e⟩
      rw [S.fin rfl] at this
      exact absurd this List.not_mem_nil
end
end LE

namespace LE
/-! ### leasts: sorted shares, by the first difference -/
def lexLt : List Int → List Int → Bool
  | [], [] => false
  | [], _ :: _ => true
  | _ :: _, [] => false
  | x :: xs, y :: ys => if x = y then lexLt xs ys else decide (x < y)
theorem lex_irr : ∀ a : List Int, lexLt a a = false
  | [] => rfl
  | x :: a => by
    show (if x = x then lexLt a a else decide (x < x)) = false
    rw [if_pos rfl, lex_irr a]
theorem lex_cons (x y : Int) (a b : List Int) : lexLt (x :: a) (y :: b) = true ↔ x < y ∨ (x = y ∧ lexLt a b = true) := by
  show (if x = y then lexLt a b else decide (x < y)) = true ↔ _
  by_cases h : x = y
  · rw [if_pos h]
    constructor
    · intro z; exact .inr ⟨h, z⟩
    · rintro (z | z)
      · omega
      · exact z.2
  · rw [if_neg h]
    constructor
    · intro z; exact .inl (of_decide_eq_true z)
    · rintro (z | z)
      · exact decide_eq_true z
      · exact absurd z.1 h
theorem lex_trans : ∀ {a b c : List Int}, lexLt a b = true → lexLt b c = true → lexLt a c = true
  | [], [], _, h, _ => by cases h
  | [], _ :: _, [], _, h => by cases h
  | [], _ :: _, _ :: _, _, _ => rfl
  | _ :: _, [], _, h, _ => by cases h
  | _ :: _, _ :: _, [], _, h => by cases h
  | x :: a, y :: b, z :: c, h1, h2 => by
    rw [lex_cons] at h1 h2 ⊢
    rcases h1 with h1 | ⟨h1, h1'⟩
    · rcases h2 with h2 | ⟨h2, _⟩
      · exact .inl (by omega)
      · exact .inl (by omega)
    · rcases h2 with h2 | ⟨h2, h2'⟩
      · exact .inl (by omega)
      · exact .inr ⟨by omega, lex_trans h1' h2'⟩
/-- what is not over a is not over one over a -/
theorem lex_over {a b c : List Int} (h : lexLt a b = true) (n : lexLt a c = false) : lexLt b c = false := by
  cases q : lexLt b c with
  | false => rfl
  | true =>
    rw [lex_trans h q] at n
    cases n
inductive Le : List Int → List Int → Prop
  | nil : Le [] []
  | cons {x y : Int} {a b : List Int} : x ≤ y → Le a b → Le (x :: a) (y :: b)
theorem le_lex : ∀ {a b : List Int}, Le a b → lexLt a b = false → a = b
  | _, _, .nil, _ => rfl
  | _, _, .cons (x := x) (y := y) h t, n => by
    by_cases q : x = y
    · subst q
      have n2 : (if x = x then lexLt _ _ else decide (x < x)) = false := n
      rw [if_pos rfl] at n2
      rw [le_lex t n2]
    · have n2 : (if x = y then lexLt _ _ else decide (x < y)) = false := n
      rw [if_neg q] at n2
      have := of_decide_eq_false n2
      omega
def ins (x : Int) : List Int → List Int
  | [] => [x]
  | a :: r => if x ≤ a then x :: a :: r else a :: ins x r
def srt : List Int → List Int
  | [] => []
  | x :: r => ins x (srt r)
theorem ins_perm (x : Int) : ∀ r : List Int, (ins x r).Perm (x :: r)
  | [] => .refl _
  | a :: r => by
    unfold ins
    split
    · exact .refl _
    · exact ((ins_perm x r).cons a).trans (.swap x a r)
theorem srt_perm : ∀ r : List Int, (srt r).Perm r
  | [] => .refl _
  | x :: r => (ins_perm x (srt r)).trans ((srt_perm r).cons x)
theorem ins_up (x : Int) : ∀ {r : List Int}, r.Pairwise (· ≤ ·) → (ins x r).Pairwise (· ≤ ·)
  | [], _ => by unfold ins; exact List.pairwise_singleton ..
  | a :: r, h => by
    rw [List.pairwise_cons] at h
    unfold ins
    split
    · rename_i q
      rw [List.pairwise_cons, List.pairwise_cons]
      refine ⟨fun y hy => ?_, h⟩
      rcases List.mem_cons.mp hy with z | z
      · rw [z]; exact q
      · exact Int.le_trans q (h.1 y z)
    · rw [List.pairwise_cons]
      refine ⟨fun y hy => ?_, ins_up x h.2⟩
      rcases List.mem_cons.mp ((ins_perm x r).mem_iff.mp hy) with z | z
      · rw [z]; omega
      · exact h.1 y z
theorem srt_up : ∀ r : List Int, (srt r).Pairwise (· ≤ ·)
  | [] => .nil
  | x :: r => ins_up x (srt_up r)
/-- what is sorted is srt -/
theorem srt_only {r s : List Int} (p : s.Perm r) (u : s.Pairwise (· ≤ ·)) : s = srt r :=
  (p.trans (srt_perm r).symm).eq_of_pairwise (fun a b _ _ h1 h2 => by omega) u (srt_up r)
theorem le_r : ∀ {as bs : List Int} {a b y : Int}, Le as bs → a ≤ b → b ≤ y → (b :: bs).Pairwise (· ≤ ·) → Le (a :: as) (ins y bs)
  | _, _, a, b, y, .nil, h1, h2, _ => .cons (by omega) .nil
  | _, _, a, b, y, .cons (x := a1) (y := b1) h t, h1, h2, u => by
    rw [List.pairwise_cons] at u
    have ub := u.1 b1 List.mem_cons_self
    unfold ins
    split
    · exact .cons (by omega) (.cons h t)
    · exact .cons (by omega) (le_r t h (by omega) u.2)
theorem le_l : ∀ {as bs : List Int} {b x : Int}, Le as bs → x ≤ b → (b :: bs).Pairwise (· ≤ ·) → Le (ins x as) (b :: bs)
  | _, _, b, x, .nil, h1, _ => .cons h1 .nil
  | _, _, b, x, .cons (x := a1) (y := b1) h t, h1, u => by
    rw [List.pairwise_cons] at u
    have ub := u.1 b1 List.mem_cons_self
    unfold ins
    split
    · exact .cons h1 (.cons h t)
    · exact .cons (by omega) (le_l t (by omega) u.2)
theorem le_ins : ∀ {as bs : List Int} {x y : Int}, Le as bs → x ≤ y → bs.Pairwise (· ≤ ·) → Le (ins x as) (ins y bs)
  | _, _, x, y, .nil, h, _ => .cons h .nil
  | _, _, x, y, .cons (x := a) (y := b) (a := as) (b := bs) h t, hxy, u => by
    have u' := u
    rw [List.pairwise_cons] at u
    by_cases q1 : x ≤ a
    · have e1 : ins x (a :: as) = x :: a :: as := by show (if x ≤ a then _ else _) = _; rw [if_pos q1]
      rw [e1]
      by_cases q2 : y ≤ b
      · have e2 : ins y (b :: bs) = y :: b :: bs := by show (if y ≤ b then _ else _) = _; rw [if_pos q2]
        rw [e2]
        exact .cons hxy (.cons h t)
      · have e2 : ins y (b :: bs) = b :: ins y bs := by show (if y ≤ b then _ else _) = _; rw [if_neg q2]
        rw [e2]
        exact .cons (by omega) (le_r t h (by omega) u')
    · have e1 : ins x (a :: as) = a :: ins x as := by show (if x ≤ a then _ else _) = _; rw [if_neg q1]
      rw [e1]
      by_cases q2 : y ≤ b
      · have e2 : ins y (b :: bs) = y :: b :: bs := by show (if y ≤ b then _ else _) = _; rw [if_pos q2]
        rw [e2]
        exact .cons (by omega) (le_l t (by omega) u')
      · have e2 : ins y (b :: bs) = b :: ins y bs := by show (if y ≤ b then _ else _) = _; rw [if_neg q2]
        rw [e2]
        exact .cons h (le_ins t hxy u.2)
theorem le_srt : ∀ {as bs : List Int}, Le as bs → Le (srt as) (srt bs)
  | _, _, .nil => .nil
  | _, _, .cons h t => le_ins (le_srt t) h (srt_up _)
/-! ### all deals -/
def dig (h : Nat) : Nat → Nat → List Nat
  | 0, _ => []
  | n + 1, k => (k % h) :: dig h n (k / h)
theorem dig_len (h : Nat) : ∀ n k, (dig h n k).length = n
  | 0, _ => rfl
  | n + 1, k => by unfold dig; rw [List.length_cons, dig_len h n]
theorem dig_lt {h : Nat} (h1 : 1 ≤ h) : ∀ {n k x : Nat}, x ∈ dig h n k → x < h
  | 0, _, x, m => absurd m (by unfold dig; exact List.not_mem_nil)
  | n + 1, k, x, m => by
    unfold dig at m
    rcases List.mem_cons.mp m with z | z
    · rw [z]; exact Nat.mod_lt _ (by omega)
    · exact dig_lt h1 z
theorem dig_more (h : Nat) : ∀ n k, dig h (n + 1) k = dig h n k ++ [k / h ^ n % h]
  | 0, k => by
    show [k % h] = [] ++ [k / h ^ 0 % h]
    rw [Nat.pow_zero, Nat.div_one, List.nil_append]
  | n + 1, k => by
    have ih := dig_more h n (k / h)
    show (k % h) :: dig h (n + 1) (k / h) = (k % h) :: dig h n (k / h) ++ [k / h ^ (n + 1) % h]
    rw [ih, Nat.div_div_eq_div_mul, Nat.pow_succ, Nat.mul_comm h (h ^ n)]
    rfl
theorem dig_all {h : Nat} : ∀ {ds : List Nat}, (∀ x, x ∈ ds → x < h) → ∃ k, k < h ^ ds.length ∧ dig h ds.length k = ds
  | [], _ => ⟨0, by simp, rfl⟩
  | d :: ds, lt => by
    obtain ⟨k, hk, e⟩ := dig_all (ds := ds) fun x m => lt x (List.mem_cons_of_mem _ m)
    have hd := lt d List.mem_cons_self
    refine ⟨d + h * k, ?_, ?_⟩
    · rw [List.length_cons, Nat.pow_succ, Nat.mul_comm (h ^ ds.length) h]
      have := Nat.mul_le_mul_left h (show k + 1 ≤ h ^ ds.length from hk)
      rw [Nat.mul_add, Nat.mul_one] at this
      omega
    · rw [List.length_cons]
      show ((d + h * k) % h) :: dig h ds.length ((d + h * k) / h) = d :: ds
      rw [Nat.add_mul_mod_self_left, Nat.mod_eq_of_lt hd, Nat.add_mul_div_left _ _ (by omega), Nat.div_eq_of_lt hd, Nat.zero_add, e]
section
variable {w : Nat → Nat → Int} {n h : Nat} {D : Nat → Option Nat}
def shs (w : Nat → Nat → Int) (n h : Nat) (D : Nat → Option Nat) : List Int := (List.range h).map fun i => shr w n D i
def LeastTop (w : Nat → Nat → Int) (n h : Nat) (D : Nat → Option Nat) : Prop := ∀ E, Whole n h E → lexLt (srt (shs w n h D)) (srt (shs w n h E)) = false
theorem le_map {f g : Nat → Int} : ∀ {l : List Nat}, (∀ i, i ∈ l → f i ≤ g i) → Le (l.map f) (l.map g)
  | [], _ => .nil
  | x :: l, h => .cons (h x List.mem_cons_self) (le_map fun i m => h i (List.mem_cons_of_mem _ m))
theorem perm_sum {a b : List Int} (p : a.Perm b) : a.sum = b.sum := by
  induction p with
  | nil => rfl
  | cons x _ ih => rw [List.sum_cons, List.sum_cons, ih]
  | swap x y l => rw [List.sum_cons, List.sum_cons, List.sum_cons, List.sum_cons]; omega
  | trans _ _ h1 h2 => rw [h1, h2]
theorem sum_S (f : Nat → Int) (n : Nat) : ((List.range n).map f).sum = S n f := by
  induction n with
  | zero => rfl
  | succ n ih =>
    rw [List.range_succ, List.map_append, List.sum_append, ih, S_succ]
    simp
theorem best_of_least (t : LeastTop w n h D) : Best w n h D := by
  intro E W le i hi
  have l := le_srt (le_map (l := List.range h) (f := fun i => shr w n D i) (g := fun i => shr w n E i) fun i m => le i (List.mem_range.mp m))
  have e : srt (shs w n h D) = srt (shs w n h E) := le_lex l (t E W)
  have p : (shs w n h D).sum = (shs w n h E).sum := by
    rw [← perm_sum (srt_perm (shs w n h D)), ← perm_sum (srt_perm (shs w n h E)), e]
  unfold shs at p
  rw [sum_S, sum_S] at p
  exact (S_eq_of_le le (Int.le_of_eq p.symm) i hi).symm
end
end LE

namespace LE
/-! ### products: how many shares are not 0, and the product of these -/
def PP : Nat → (Nat → Int) → Int
  | 0, _ => 1
  | n + 1, f => PP n f * f n
theorem PP_succ (n : Nat) (f : Nat → Int) : PP (n + 1) f = PP n f * f n := rfl
theorem PP_congr {n : Nat} {f g : Nat → Int} (h : ∀ t, t < n → f t = g t) : PP n f = PP n g := by
  induction n with
  | zero => rfl
  | succ n ih => rw [PP_succ, PP_succ, ih fun t ht => h t (by omega), h n (by omega)]
theorem PP_one {n : Nat} {f : Nat → Int} {a : Nat} (ha : a < n) : PP n f = f a * PP n (fun t => if t = a then 1 else f t) := by
  induction n with
  | zero => omega
  | succ n ih =>
    rw [PP_succ, PP_succ]
    by_cases e : a = n
    · subst e
      rw [if_pos rfl, PP_congr (g := f) fun t ht => if_neg (by omega), Int.mul_one, Int.mul_comm]
    · rw [ih (by omega), if_neg (by omega), Int.mul_assoc]
theorem PP_pos {n : Nat} {f : Nat → Int} (h : ∀ t, t < n → 1 ≤ f t) : 1 ≤ PP n f := by
  induction n with
  | zero => exact Int.le_refl _
  | succ n ih =>
    rw [PP_succ]
    have a := ih fun t ht => h t (by omega)
    have b := h n (by omega)
    have c : (1 : Int) * 1 ≤ PP n f * f n := Int.mul_le_mul a b (by omega) (by omega)
    omega
theorem PP_le {n : Nat} {f g : Nat → Int} (p : ∀ t, t < n → 1 ≤ f t) (h : ∀ t, t < n → f t ≤ g t) : PP n f ≤ PP n g := by
  induction n with
  | zero => exact Int.le_refl _
  | succ n ih =>
    rw [PP_succ, PP_succ]
    have a := ih (fun t ht => p t (by omega)) fun t ht => h t (by omega)
    have b := h n (by omega)
    have c := p n (by omega)
    have d := PP_pos (n := n) (f := f) fun t ht => p t (by omega)
    exact Int.mul_le_mul a b (by omega) (by omega)
theorem PP_lt {n : Nat} {f g : Nat → Int} (p : ∀ t, t < n → 1 ≤ f t) (h : ∀ t, t < n → f t ≤ g t) {a : Nat} (ha : a < n) (s : f a < g a) : PP n f < PP n g := by
  rw [PP_one (f := f) ha, PP_one (f := g) ha]
  have c := p a ha
  have r : PP n (fun t => if t = a then 1 else f t) ≤ PP n (fun t => if t = a then 1 else g t) := PP_le (fun t ht => by
    show 1 ≤ (if t = a then 1 else f t)
    split
    · exact Int.le_refl _
    · exact p t ht) (fun t ht => by
    show (if t = a then 1 else f t) ≤ (if t = a then 1 else g t)
    split
    · exact Int.le_refl _
    · exact h t ht)
  have q : 1 ≤ PP n (fun t => if t = a then 1 else f t) := PP_pos fun t ht => by
    show 1 ≤ (if t = a then 1 else f t)
    split
    · exact Int.le_refl _
    · exact p t ht
  have s1 : f a * PP n (fun t => if t = a then 1 else f t) < g a * PP n (fun t => if t = a then 1 else f t) := Int.mul_lt_mul_of_pos_right s (by omega)
  have s2 : g a * PP n (fun t => if t = a then 1 else f t) ≤ g a * PP n (fun t => if t = a then 1 else g t) := Int.mul_le_mul_of_nonneg_left r (by omega)
  omega
def q1 (x : Int) : Int := if 0 < x then x else 1
def c1 (x : Int) : Int := if 0 < x then 1 else 0
theorem q1_pos (x : Int) : 1 ≤ q1 x := by unfold q1; split <;> omega
theorem q1_le {x y : Int} (h : x ≤ y) : q1 x ≤ q1 y := by unfold q1; split <;> split <;> omega
theorem c1_le {x y : Int} (h : x ≤ y) : c1 x ≤ c1 y := by unfold c1; split <;> split <;> omega
/-- (a, b) comes before (c, d) -/
def pLt (a b c d : Int) : Bool := if a = c then decide (b < d) else decide (a < c)
theorem pLt_iff {a b c d : Int} : pLt a b c d = true ↔ a < c ∨ (a = c ∧ b < d) := by
  unfold pLt
  by_cases h : a = c
  · rw [if_pos h, decide_eq_true_iff]; omega
  · rw [if_neg h, decide_eq_true_iff]; omega
theorem pLt_no {a b c d : Int} : pLt a b c d = false ↔ c < a ∨ (a = c ∧ d ≤ b) := by
  rw [← Bool.not_eq_true, pLt_iff]; omega
def cntF (h : Nat) (f : Nat → Int) : Int := S h fun i => c1 (f i)
def prdF (h : Nat) (f : Nat → Int) : Int := PP h fun i => q1 (f i)
/-- the score of f comes before that of g -/
def scLt (h : Nat) (f g : Nat → Int) : Bool := pLt (cntF h f) (prdF h f) (cntF h g) (prdF h g)
section
variable {h : Nat} {f g : Nat → Int}
theorem sc_mono (le : ∀ i, i < h → f i ≤ g i) : scLt h g f = false := by
  unfold scLt
  rw [pLt_no]
  have a : cntF h f ≤ cntF h g := S_le fun i hi => c1_le (le i hi)
  have b : prdF h f ≤ prdF h g := PP_le (fun i _ => q1_pos _) fun i hi => q1_le (le i hi)
  omega
theorem sc_strict (p : ∀ i, i < h → 0 ≤ f i) (le : ∀ i, i < h → f i ≤ g i) {a : Nat} (ha : a < h) (st : f a < g a) : scLt h f g = true := by
  unfold scLt
  rw [pLt_iff]
  have x : cntF h f ≤ cntF h g := S_le fun i hi => c1_le (le i hi)
  by_cases z : f a = 0
  · left
    refine S_lt (fun i hi => c1_le (le i hi)) ha ?_
    unfold c1
    rw [z, if_neg (by omega), if_pos (by omega)]
    omega
  · have y : prdF h f < prdF h g := by
      refine PP_lt (fun i _ => q1_pos _) (fun i hi => q1_le (le i hi)) ha ?_
      have := p a ha
      show q1 (f a) < q1 (g a)
      unfold q1
      rw [if_pos (by omega), if_pos (by omega)]
      exact st
    omega
/-- two shares change -/
theorem sc_two {a b : Nat} (ha : a < h) (hb : b < h) (ne : a ≠ b) (same : ∀ i, i < h → i ≠ a → i ≠ b → f i = g i)
    (up : c1 (f a) + c1 (f b) < c1 (g a) + c1 (g b) ∨ (c1 (f a) + c1 (f b) = c1 (g a) + c1 (g b) ∧ q1 (f a) * q1 (f b) < q1 (g a) * q1 (g b))) : scLt h f g = true := by
  unfold scLt
  rw [pLt_iff]
  have two : ∀ u : Nat → Int, S h u = S h (fun t => if t = b then 0 else (fun t => if t = a then 0 else u t) t) + u a + u b := fun u => by
    have e1 := S_upd (f := u) (c := 0) ha
    have e2 := S_upd (f := fun t => if t = a then 0 else u t) (c := 0) hb
    have e3 : (if b = a then 0 else u b) = u b := if_neg (Ne.symm ne)
    rw [e3] at e2
    show S h u = S h (fun t => if t = b then 0 else if t = a then 0 else u t) + u a + u b
    omega
  have rest : S h (fun t => if t = b then 0 else (fun t => if t = a then 0 else c1 (f t)) t) = S h (fun t => if t = b then 0 else (fun t => if t = a then 0 else c1 (g t)) t) := S_congr fun t ht => by
    show (if t = b then 0 else (if t = a then 0 else c1 (f t))) = (if t = b then 0 else (if t = a then 0 else c1 (g t)))
    split
    · rfl
    · split
      · rfl
      · rw [same t ht ‹_› ‹_›]
  have c : cntF h g - cntF h f = c1 (g a) + c1 (g b) - (c1 (f a) + c1 (f b)) := by
    unfold cntF
    rw [two fun i => c1 (f i), two fun i => c1 (g i)]
    show S h (fun t => if t = b then 0 else (fun t => if t = a then 0 else c1 (g t)) t) + c1 (g a) + c1 (g b) - (S h (fun t => if t = b then 0 else (fun t => if t = a then 0 else c1 (f t)) t) + c1 (f a) + c1 (f b)) = _
    rw [rest]
    omega
  rcases up with up | ⟨u1, u2⟩
  · left; omega
  · right
    refine ⟨by omega, ?_⟩
    unfold prdF
    have twoP : ∀ u : Nat → Int, PP h u = u a * u b * PP h (fun t => if t = b then 1 else (fun t => if t = a then 1 else u t) t) := fun u => by
      rw [PP_one (f := u) ha, PP_one (f := fun t => if t = a then 1 else u t) hb]
      show u a * ((if b = a then 1 else u b) * _) = _
      rw [if_neg (Ne.symm ne), Int.mul_assoc]
    have restP : PP h (fun t => if t = b then 1 else (fun t => if t = a then 1 else q1 (f t)) t) = PP h (fun t => if t = b then 1 else (fun t => if t = a then 1 else q1 (g t)) t) := PP_congr fun t ht => by
      show (if t = b then 1 else (if t = a then 1 else q1 (f t))) = (if t = b then 1 else (if t = a then 1 else q1 (g t)))
      split
      · rfl
      · split
        · rfl
        · rw [same t ht ‹_› ‹_›]
    rw [twoP fun i => q1 (f i), twoP fun i => q1 (g i)]
    show q1 (f a) * q1 (f b) * PP h (fun t => if t = b then 1 else (fun t => if t = a then 1 else q1 (f t)) t) < q1 (g a) * q1 (g b) * PP h (fun t => if t = b then 1 else (fun t => if t = a then 1 else q1 (g t)) t)
    rw [← restP]
    refine Int.mul_lt_mul_of_pos_right u2 ?_
    have := PP_pos (n := h) (f := fun t => if t = b then 1 else (fun t => if t = a then 1 else q1 (f t)) t) fun t ht => by
      show 1 ≤ (if t = b then 1 else (if t = a then 1 else q1 (f t)))
      split
      · exact Int.le_refl _
      · split
        · exact Int.le_refl _
        · exact q1_pos _
    omega
end
section
variable {w : Nat → Nat → Int} {n h : Nat} {D : Nat → Option Nat}
def ProdTop (w : Nat → Nat → Int) (n h : Nat) (D : Nat → Option Nat) : Prop := ∀ E, Whole n h E → scLt h (fun i => shr w n D i) (fun i => shr w n E i) = false
theorem best_of_prod (hw : Pos w) (t : ProdTop w n h D) : Best w n h D := by
  intro E W le i hi
  by_cases e : shr w n E i = shr w n D i
  · exact e
  · have z := sc_strict (f := fun i => shr w n D i) (g := fun i => shr w n E i) (fun i _ => val_nonneg hw) le hi (by have := le i hi; show shr w n D i < shr w n E i; omega)
    rw [t E W] at z
    cases z
/-- of the things of j one that is worth least to j for what it is worth to i -/
theorem best_ratio {p : Nat → Prop} (a b : Nat → Int) : ∀ n, (∃ t, t < n ∧ p t) → (∀ t, p t → 0 < a t) → (∀ t, 0 ≤ b t) → ∃ g, g < n ∧ p g ∧ ∀ t, t < n → p t → b g * a t ≤ b t * a g
  | 0, ⟨t, ht, _⟩, _, _ => absurd ht (by omega)
  | n + 1, ⟨t, ht, pt⟩, pa, pb => by
    by_cases ex : ∃ t, t < n ∧ p t
    · obtain ⟨g, hg, pg, top⟩ := best_ratio a b n ex pa pb
      by_cases pn : p n
      · by_cases c : b g * a n ≤ b n * a g
        · refine ⟨g, by omega, pg, fun t ht pt => ?_⟩
          by_cases e : t = n
          · rw [e]; exact c
          · exact top t (by omega) pt
        · refine ⟨n, by omega, pn, fun t ht pt => ?_⟩
          by_cases e : t = n
          · rw [e]; exact Int.le_refl _
          · have x := top t (by omega) pt
            have c' : b n * a g < b g * a n := by omega
            -- b n / a n < b g / a g <= b t / a t
            have y1 := Int.mul_lt_mul_of_pos_right c' (pa t pt)
            have y2 := Int.mul_le_mul_of_nonneg_right x (Int.le_of_lt (pa n pn))
            have y3 : b n * a t * a g < b t * a n * a g := by
              have z1 : b n * a g * a t = b n * a t * a g := by rw [Int.mul_assoc, Int.mul_comm (a g), Int.mul_assoc]
              have z2 : b g * a n * a t = b g * a t * a n := by rw [Int.mul_assoc, Int.mul_comm (a n), Int.mul_assoc]
              have z3 : b t * a g * a n = b t * a n * a g := by rw [Int.mul_assoc, Int.mul_comm (a g), Int.mul_assoc]
              omega
            have := Int.lt_of_mul_lt_mul_right y3 (Int.le_of_lt (pa g pg))
            omega
      · refine ⟨g, by omega, pg, fun t ht pt => ?_⟩
        by_cases e : t = n
        · exact absurd (e ▸ pt) pn
        · exact top t (by omega) pt
    · have e : t = n := by
        refine Classical.byContradiction fun q => ex ⟨t, by omega, pt⟩
      subst e
      refine ⟨t, by omega, pt, fun s hs ps => ?_⟩
      by_cases e : s = t
      · rw [e]; exact Int.le_refl _
      · exact absurd ⟨s, by omega, ps⟩ ex
theorem ef1_of_prod (hw : Pos w) (W : Whole n h D) (t : ProdTop w n h D) : EF1 w n h D := by
  intro i j hi hj ne
  refine Classical.byContradiction fun no => ?_
  have non : ¬ ∀ t, t < n → D t ≠ some j := fun z => no (.inl z)
  have all : ∀ g, g < n → D g = some j → val w n D i i < val w n D i j - w i g := fun g hg e => by
    have : ¬ val w n D i j - w i g ≤ val w n D i i := fun z => no (.inr ⟨g, hg, e, z⟩)
    omega
  have si := val_nonneg (w := w) (n := n) (D := D) (i := i) (j := i) hw
  have sj := val_nonneg (w := w) (n := n) (D := D) (i := j) (j := j) hw
  have vij := val_nonneg (w := w) (n := n) (D := D) (i := i) (j := j) hw
  -- some thing of j is worth something to i
  have pos : 0 < val w n D i j := by
    refine Classical.byContradiction fun q => ?_
    refine non fun t ht e => ?_
    have := all t ht e
    have := hw i t
    omega
  obtain ⟨t0, ht0, p0⟩ := S_pos (fun t _ => ite_nonneg (hw i t)) pos
  have pt0 : D t0 = some j ∧ 0 < w i t0 := by
    by_cases e : D t0 = some j
    · rw [if_pos e] at p0; exact ⟨e, p0⟩
    · rw [if_neg e] at p0; omega
  obtain ⟨g, hg, ⟨eg, wg⟩, top⟩ := best_ratio (p := fun t => D t = some j ∧ 0 < w i t) (w i) (w j) n ⟨t0, ht0, pt0⟩ (fun t z => z.2) (hw j)
  have top' : ∀ t, t < n → D t = some j → w j g * w i t ≤ w j t * w i g := fun t ht e => by
    by_cases q : 0 < w i t
    · exact top t ht ⟨e, q⟩
    · have : w i t = 0 := by have := hw i t; omega
      rw [this, Int.mul_zero]
      exact Int.mul_nonneg (hw j t) (Int.le_of_lt wg)
  have lg := all g hg eg
  have wjg := val_one (w := w) (n := n) (D := D) (i := j) (j := j) hw hg eg
  have njg := hw j g
  -- the ratio over the whole heap
  have ratio : w j g * val w n D i j ≤ val w n D j j * w i g := by
    have z : S n (fun t => w j g * (if D t = some j then w i t else 0)) ≤ S n (fun t => w i g * (if D t = some j then w j t else 0)) := S_le fun t ht => by
      show w j g * (if D t = some j then w i t else 0) ≤ w i g * (if D t = some j then w j t else 0)
      split
      · rw [Int.mul_comm (w i g)]; exact top' t ht ‹_›
      · omega
    rw [S_mul, S_mul] at z
    rw [Int.mul_comm (val w n D j j)]
    exact z
  -- g goes to i
  have WE : Whole n h (put D g (some i)) := fun t ht => by
    unfold put
    by_cases e : t = g
    · rw [if_pos e]; exact ⟨i, hi, rfl⟩
    · rw [if_neg e]; exact W t ht
  have ei : shr w n (put D g (some i)) i = val w n D i i + w i g := by
    show val w n (put D g (some i)) i i = _
    rw [val_put hg, eg, if_neg (fun z => ne (Option.some.inj z).symm), if_pos rfl]; omega
  have ej : shr w n (put D g (some i)) j = val w n D j j - w j g := by
    show val w n (put D g (some i)) j j = _
    rw [val_put hg, eg, if_pos rfl, if_neg (fun z => ne (Option.some.inj z))]; omega
  have ek : ∀ k, k ≠ i → k ≠ j → shr w n (put D g (some i)) k = shr w n D k := fun k k1 k2 => by
    show val w n (put D g (some i)) k k = val w n D k k
    rw [val_put hg, eg, if_neg (fun z => k2 (Option.some.inj z).symm), if_neg (fun z => k1 (Option.some.inj z).symm)]; omega
  have z : scLt h (fun k => shr w n D k) (fun k => shr w n (put D g (some i)) k) = true := by
    refine sc_two (a := i) (b := j) hi hj ne (fun k _ k1 k2 => (ek k k1 k2).symm) ?_
    show c1 (val w n D i i) + c1 (val w n D j j) < c1 (shr w n (put D g (some i)) i) + c1 (shr w n (put D g (some i)) j) ∨ (c1 (val w n D i i) + c1 (val w n D j j) = c1 (shr w n (put D g (some i)) i) + c1 (shr w n (put D g (some i)) j) ∧
      q1 (val w n D i i) * q1 (val w n D j j) < q1 (shr w n (put D g (some i)) i) * q1 (shr w n (put D g (some i)) j))
    rw [ei, ej]
    -- something is left to j, if j had something
    have left : 0 < val w n D j j → 0 < val w n D j j - w j g := fun p => by
      refine Classical.byContradiction fun q => ?_
      have wj : w j g = val w n D j j := by omega
      rw [wj] at ratio
      have : val w n D j j * w i g < val w n D j j * val w n D i j := Int.mul_lt_mul_of_pos_left (by omega) p
      omega
    generalize val w n D i i = x at *
    generalize val w n D j j = y at *
    generalize val w n D i j = v at *
    generalize w i g = u at *
    generalize w j g = r at *
    unfold c1 q1
    by_cases px : 0 < x
    · by_cases py : 0 < y
      · have l := left py
        right
        rw [if_pos px, if_pos py, if_pos (by omega), if_pos l, if_pos px, if_pos py, if_pos (by omega), if_pos l]
        refine ⟨rfl, ?_⟩
        have e : (x + u) * (y - r) = x * y + (u * y - r * (x + u)) := by
          rw [Int.mul_sub, Int.add_mul, Int.mul_comm r]; omega
        rw [e]
        by_cases pr : 0 < r
        · have a := Int.mul_lt_mul_of_pos_left (show x + u < v by omega) pr
          have b : u * y = y * u := Int.mul_comm ..
          omega
        · have r0 : r = 0 := by omega
          rw [r0, Int.zero_mul]
          have := Int.mul_pos wg py
          omega
      · have y0 : y = 0 := by omega
        have r0 : r = 0 := by omega
        right
        rw [if_pos px, if_neg py, if_pos (by omega), if_neg (by omega), if_pos px, if_neg py, if_pos (by omega), if_neg (by omega)]
        omega
    · left
      rw [if_neg px, if_pos (by omega : 0 < x + u)]
      by_cases py : 0 < y
      · rw [if_pos py, if_pos (left py)]; omega
      · rw [if_neg py]; split <;> omega
  rw [t _ WE] at z
  cases z
end
end LE

namespace LE
/-! ### branch and bound -/
section
variable {w : Nat → Nat → Int} {n h : Nat}
def Dq (ds : List Nat) (t : Nat) : Option Nat := ds[t]?
/-- what i can hope for at most, when the first things are dealt as c says; of these m are looked at -/
def hopeM (w : Nat → Nat → Int) (n : Nat) (c : List Nat) (m : Nat) (i : Nat) : Int := S n fun t => if t < c.length then (if t < m then (if c[t]? = some i then w i t else 0) else 0) else w i t
def hopeS (w : Nat → Nat → Int) (n : Nat) (c : List Nat) (i : Nat) : Int := hopeM w n c c.length i
theorem hopeM_step {c : List Nat} {m i x : Nat} (e : c[m]? = some x) (hc : c.length ≤ n) : hopeM w n c (m + 1) i = hopeM w n c m i + if x = i then w i m else 0 := by
  have lm : m < c.length := (List.getElem?_eq_some_iff.mp e).1
  have z : hopeM w n c (m + 1) i = S n (fun t => (if t < c.length then (if t < m then (if c[t]? = some i then w i t else 0) else 0) else w i t) + if t = m then (if x = i then w i m else 0) else 0) := S_congr fun t ht => by
    by_cases a : t < c.length
    · rw [if_pos a, if_pos a]
      by_cases b : t = m
      · subst b
        rw [if_pos (show t < t + 1 by omega), if_neg (show ¬ t < t by omega), if_pos rfl, e]
        by_cases q : x = i
        · rw [if_pos q, if_pos (by rw [q])]; omega
        · rw [if_neg q, if_neg fun z => q (Option.some.inj z)]; omega
      · rw [if_neg b]
        by_cases d : t < m
        · rw [if_pos (by omega), if_pos d]; omega
        · rw [if_neg (by omega), if_neg d]; omega
    · rw [if_neg a, if_neg a, if_neg (by omega)]; omega
  rw [z, S_add, S_at (by omega)]
  rfl
theorem hope_full {c : List Nat} (hl : c.length = n) (i : Nat) : hopeS w n c i = shr w n (Dq c) i := S_congr fun t ht => by
  rw [if_pos (by omega), if_pos (by omega)]
  rfl
theorem hope_top (hw : Pos w) {c ds : List Nat} (p : c <+: ds) (i : Nat) : shr w n (Dq ds) i ≤ hopeS w n c i := S_le fun t ht => by
  have x := hw i t
  by_cases a : t < c.length
  · rw [if_pos a, if_pos a]
    have e : ds[t]? = c[t]? := by
      obtain ⟨r, rfl⟩ := p
      exact List.getElem?_append_left a
    show (if ds[t]? = some i then w i t else 0) ≤ _
    rw [e]
    exact Int.le_refl _
  · rw [if_neg a]
    split <;> omega
def scOf (h : Nat) (f : Nat → Int) : Int × Int := (cntF h f, prdF h f)
def FullD (n h : Nat) (ds : List Nat) : Prop := ds.length = n ∧ ∀ x, x ∈ ds → x < h
/-- the score a is not over b -/
def NotUp (b a : Int × Int) : Prop := pLt b.1 b.2 a.1 a.2 = false
theorem notUp_trans {a b c : Int × Int} (x : NotUp b a) (y : NotUp c b) : NotUp c a := by
  unfold NotUp at *
  rw [pLt_no] at *
  omega
theorem notUp_refl (a : Int × Int) : NotUp a a := by
  unfold NotUp
  rw [pLt_no]
  omega
theorem notUp_of {a b : Int × Int} (x : pLt b.1 b.2 a.1 a.2 = true) : NotUp a b := by
  unfold NotUp
  rw [pLt_no]
  rw [pLt_iff] at x
  omega
def dealSc (w : Nat → Nat → Int) (n h : Nat) (ds : List Nat) : Int × Int := scOf h fun i => shr w n (Dq ds) i
def hopeSc (w : Nat → Nat → Int) (n h : Nat) (c : List Nat) : Int × Int := scOf h (hopeS w n c)
theorem hope_notUp (hw : Pos w) {c ds : List Nat} (p : c <+: ds) : NotUp (hopeSc w n h c) (dealSc w n h ds) := sc_mono fun i _ => hope_top hw p i
theorem hope_is {c : List Nat} (hl : c.length = n) : hopeSc w n h c = dealSc w n h c := by
  unfold hopeSc dealSc
  have e : hopeS w n c = fun i => shr w n (Dq c) i := funext fun i => hope_full hl i
  rw [e]
structure BB (w : Nat → Nat → Int) (n h : Nat) (sc : Int × Int) (ws : List (List Nat)) : Prop where
  all : ∀ ds, FullD n h ds → NotUp sc (dealSc w n h ds) ∨ ∃ c, c ∈ ws ∧ c <+: ds
  sub : ∀ c, c ∈ ws → c.length ≤ n ∧ ∀ x, x ∈ c → x < h
theorem bb_start {sc : Int × Int} : BB w n h sc [[]] := ⟨fun ds _ => .inr ⟨[], List.mem_singleton.mpr rfl, List.nil_prefix⟩, fun c m => by rw [List.mem_singleton.mp m]; exact ⟨Nat.zero_le _, fun x m => absurd m List.not_mem_nil⟩⟩
theorem bb_drop (hw : Pos w) {sc : Int × Int} {ws : List (List Nat)} {c : List Nat} (B : BB w n h sc (ws ++ [c])) (no : NotUp sc (hopeSc w n h c)) : BB w n h sc ws := by
  refine ⟨fun ds f => ?_, fun c m => B.sub c (List.mem_append_left _ m)⟩
  rcases B.all ds f with a | ⟨d, m, p⟩
  · exact .inl a
  · rcases List.mem_append.mp m with m | m
    · exact .inr ⟨d, m, p⟩
    · rw [List.mem_singleton] at m
      subst m
      exact .inl (notUp_trans (hope_notUp hw p) no)
theorem bb_full (hw : Pos w) {sc : Int × Int} {ws : List (List Nat)} {c : List Nat} (B : BB w n h sc (ws ++ [c])) (up : pLt sc.1 sc.2 (hopeSc w n h c).1 (hopeSc w n h c).2 = true) : BB w n h (hopeSc w n h c) ws := by
  refine ⟨fun ds f => ?_, fun c m => B.sub c (List.mem_append_left _ m)⟩
  rcases B.all ds f with a | ⟨d, m, p⟩
  · exact .inl (notUp_trans a (notUp_of up))
  · rcases List.mem_append.mp m with m | m
    · exact .inr ⟨d, m, p⟩
    · rw [List.mem_singleton] at m
      subst m
      exact .inl (hope_notUp hw p)
def further (h : Nat) (c : List Nat) : List (List Nat) := (List.range h).map fun i => c ++ [h - 1 - i]
theorem bb_more {sc : Int × Int} {ws : List (List Nat)} {c : List Nat} (B : BB w n h sc (ws ++ [c])) (lt : c.length < n) : BB w n h sc (ws ++ further h c) := by
  obtain ⟨_, cs⟩ := B.sub c (List.mem_append_right _ (List.mem_singleton.mpr rfl))
  refine ⟨fun ds f => ?_, fun d m => ?_⟩
  · rcases B.all ds f with a | ⟨d, m, p⟩
    · exact .inl a
    · rcases List.mem_append.mp m with m | m
      · exact .inr ⟨d, List.mem_append_left _ m, p⟩
      · rw [List.mem_singleton] at m
        subst m
        obtain ⟨r, e⟩ := p
        cases r with
        | nil => rw [List.append_nil] at e; have := f.1; rw [← e] at this; omega
        | cons x r =>
          have hx : x < h := f.2 x (by rw [← e]; exact List.mem_append_right _ List.mem_cons_self)
          refine .inr ⟨d ++ [x], List.mem_append_right _ (List.mem_map.mpr ⟨h - 1 - x, List.mem_range.mpr (by omega), by rw [show h - 1 - (h - 1 - x) = x by omega]⟩), r, ?_⟩
          rw [← e, List.append_assoc]
          rfl
  · rcases List.mem_append.mp m with m | m
    · exact B.sub d (List.mem_append_left _ m)
    · obtain ⟨i, mi, rfl⟩ := List.mem_map.mp m
      have := List.mem_range.mp mi
      refine ⟨by rw [List.length_append, List.length_singleton]; omega, fun x mx => ?_⟩
      rcases List.mem_append.mp mx with z | z
      · exact cs x z
      · rw [List.mem_singleton.mp z]; omega
theorem bb_end {sc : Int × Int} (B : BB w n h sc []) : ∀ ds, FullD n h ds → NotUp sc (dealSc w n h ds) := fun ds f => by
  rcases B.all ds f with a | ⟨c, m, _⟩
  · exact a
  · exact absurd m List.not_mem_nil
/-- how many cases there are on a case of which k things are not dealt -/
def NN (h : Nat) : Nat → Nat
  | 0 => 1
  | k + 1 => 1 + h * NN h k
theorem NN_pos (h k : Nat) : 1 ≤ NN h k := by
  cases k with
  | zero => exact Nat.le_refl _
  | succ k => show 1 ≤ 1 + h * NN h k; omega
theorem NN_le {h : Nat} (h1 : 1 ≤ h) : ∀ k, NN h k ≤ (k + 1) * h ^ k
  | 0 => by simp [NN]
  | k + 1 => by
    have ih := Nat.mul_le_mul_left h (NN_le h1 k)
    have p : 1 ≤ h ^ (k + 1) := Nat.pow_pos h1
    have e : h * ((k + 1) * h ^ k) = (k + 1) * h ^ (k + 1) := by rw [Nat.pow_succ, Nat.mul_left_comm, Nat.mul_comm h]
    show 1 + h * NN h k ≤ (k + 1 + 1) * h ^ (k + 1)
    rw [Nat.add_mul, Nat.one_mul]
    omega
def mes (h n : Nat) (ws : List (List Nat)) : Nat := (ws.map fun c => NN h (n - c.length)).sum
theorem mes_app (ws vs : List (List Nat)) : mes h n (ws ++ vs) = mes h n ws + mes h n vs := by
  unfold mes
  rw [List.map_append, List.sum_append]
theorem mes_one (c : List Nat) : mes h n [c] = NN h (n - c.length) := by simp [mes]
theorem mes_len : ∀ ws : List (List Nat), ws.length ≤ mes h n ws
  | [] => Nat.zero_le _
  | c :: ws => by
    have a := mes_len ws
    have b := NN_pos h (n - c.length)
    have e : mes h n (c :: ws) = NN h (n - c.length) + mes h n ws := by simp [mes]
    rw [e, List.length_cons]
    omega
theorem mes_further {c : List Nat} (lt : c.length < n) : mes h n (further h c) + 1 = NN h (n - c.length) := by
  have gen : ∀ m, ((List.range m).map fun i => NN h (n - (c ++ [h - 1 - i]).length)).sum = m * NN h (n - c.length - 1) := fun m => by
    induction m with
    | zero => simp
    | succ m ih =>
      rw [List.range_succ, List.map_append, List.sum_append, ih]
      simp only [List.map_cons, List.map_nil, List.sum_cons, List.sum_nil, List.length_append, List.length_singleton]
      rw [Nat.add_mul, Nat.one_mul, show n - (c.length + 1) = n - c.length - 1 by omega]
      omega
  have e : mes h n (further h c) = h * NN h (n - c.length - 1) := by
    unfold mes further
    rw [List.map_map]
    exact gen h
  rw [e]
  obtain ⟨k, hk⟩ : ∃ k, n - c.length = k + 1 := ⟨n - c.length - 1, by omega⟩
  rw [hk]
  show h * NN h (k + 1 - 1) + 1 = 1 + h * NN h k
  rw [Nat.add_sub_cancel]
  omega
/-- the best one that is found -/
def Found (w : Nat → Nat → Int) (n h : Nat) (sc : Int × Int) (best : List Nat) : Prop := sc = (-1, 0) ∨ (FullD n h best ∧ sc = dealSc w n h best)
theorem found_end (h1 : 1 ≤ h) {sc : Int × Int} {best : List Nat} (top : ∀ ds, FullD n h ds → NotUp sc (dealSc w n h ds)) (F : Found w n h sc best) : FullD n h best ∧ ∀ ds, FullD n h ds → NotUp (dealSc w n h best) (dealSc w n h ds) := by
  rcases F with e | ⟨f, e⟩
  · exfalso
    have z := top (List.replicate n 0) ⟨List.length_replicate .., fun x m => by rw [(List.mem_replicate.mp m).2]; omega⟩
    rw [e] at z
    unfold NotUp at z
    rw [pLt_no] at z
    have c : 0 ≤ (dealSc w n h (List.replicate n 0)).1 := S_nonneg fun i _ => by unfold c1; split <;> omega
    have z' : (dealSc w n h (List.replicate n 0)).1 < -1 ∨ ((-1 : Int) = (dealSc w n h (List.replicate n 0)).1 ∧ (dealSc w n h (List.replicate n 0)).2 ≤ 0) := z
    omega
  · exact ⟨f, fun ds g => by rw [← e]; exact top ds g⟩
end
end LE

namespace LE
/-! ### ratios -/
section
variable {w : Nat → Nat → Int} {n : Nat}
/-- s may stand ahead of t -/
def Fal (w : Nat → Nat → Int) (s t : Nat) : Prop := w 0 t * w 1 s ≤ w 0 s * w 1 t
theorem fal_trans (hw : Pos w) {s t u : Nat} (p : 0 < w 1 t) (h1 : Fal w s t) (h2 : Fal w t u) : Fal w s u := by
  unfold Fal at *
  have a := Int.mul_le_mul_of_nonneg_right h1 (hw 1 u)
  have b := Int.mul_le_mul_of_nonneg_right h2 (hw 1 s)
  have e1 : w 0 u * w 1 t * w 1 s = w 0 u * w 1 s * w 1 t := by rw [Int.mul_assoc, Int.mul_comm (w 1 t), Int.mul_assoc]
  have e2 : w 0 t * w 1 u * w 1 s = w 0 t * w 1 s * w 1 u := by rw [Int.mul_assoc, Int.mul_comm (w 1 u), Int.mul_assoc]
  have e3 : w 0 s * w 1 t * w 1 u = w 0 s * w 1 u * w 1 t := by rw [Int.mul_assoc, Int.mul_comm (w 1 t), Int.mul_assoc]
  exact Int.le_of_mul_le_mul_right (by omega : w 0 u * w 1 s * w 1 t ≤ w 0 s * w 1 u * w 1 t) p
/-- one more thing in its place -/
theorem fal_insert (hw : Pos w) {us : List Nat} {x at_ : Nat} (pos : ∀ t, t ∈ us → 0 < w 1 t) (pw : us.Pairwise (Fal w)) (l : at_ ≤ us.length) (right : ∀ k t, at_ ≤ k → us[k]? = some t → Fal w x t) (left : ∀ t, 0 < at_ → us[at_ - 1]? = some t → Fal w t x) :
    (us.take at_ ++ [x] ++ us.drop at_).Pairwise (Fal w) := by
  have lf : ∀ t, t ∈ us.take at_ → Fal w t x := fun t m => by
    obtain ⟨k, hk⟩ := List.mem_iff_getElem?.mp m
    have kl := (List.getElem?_eq_some_iff.mp hk).1
    rw [List.length_take] at kl
    rw [List.getElem?_take, if_pos (by omega)] at hk
    have hl : at_ - 1 < us.length := by omega
    have z := left _ (by omega) (List.getElem?_eq_getElem hl)
    by_cases q : k = at_ - 1
    · rw [q, List.getElem?_eq_getElem hl] at hk
      cases hk
      exact z
    · obtain ⟨kl2, ek⟩ := List.getElem?_eq_some_iff.mp hk
      have y := List.pairwise_iff_getElem.mp pw k (at_ - 1) kl2 hl (by omega)
      rw [ek] at y
      exact fal_trans hw (pos _ (List.getElem_mem hl)) y z
  have rt : ∀ t, t ∈ us.drop at_ → Fal w x t := fun t m => by
    obtain ⟨k, hk⟩ := List.mem_iff_getElem?.mp m
    rw [List.getElem?_drop] at hk
    exact right _ t (by omega) hk
  have p0 := pw
  rw [← List.take_append_drop at_ us, List.pairwise_append] at p0
  rw [List.append_assoc, List.pairwise_append]
  refine ⟨p0.1, ?_, fun s ms t mt => ?_⟩
  · show (x :: us.drop at_).Pairwise (Fal w)
    rw [List.pairwise_cons]
    exact ⟨rt, p0.2.1⟩
  · rcases List.mem_cons.mp (show t ∈ x :: us.drop at_ from mt) with z | z
    · rw [z]; exact lf s ms
    · exact p0.2.2 s ms t z
structure Rt (w : Nat → Nat → Int) (n : Nat) (hd md tl : List Nat) : Prop where
  perm : (hd ++ md ++ tl).Perm (List.range n)
  h0 : ∀ t, t ∈ hd → w 1 t = 0
  mid : ∀ t, t ∈ md → 0 < w 0 t ∧ 0 < w 1 t
  t0 : ∀ t, t ∈ tl → w 0 t = 0
  pw : md.Pairwise (Fal w)
variable {hd md tl row : List Nat}
theorem rt_pw (hw : Pos w) (R : Rt w n hd md tl) : (hd ++ md ++ tl).Pairwise (Fal w) := by
  have a : ∀ s t, s ∈ hd → Fal w s t := fun s t m => by
    unfold Fal
    rw [R.h0 s m, Int.mul_zero]
    exact Int.mul_nonneg (hw 0 s) (hw 1 t)
  have b : ∀ s t, t ∈ tl → Fal w s t := fun s t m => by
    unfold Fal
    rw [R.t0 t m, Int.zero_mul]
    exact Int.mul_nonneg (hw 0 s) (hw 1 t)
  rw [List.pairwise_append, List.pairwise_append]
  refine ⟨⟨?_, R.pw, fun s ms t _ => a s t ms⟩, ?_, fun s _ t mt => b s t mt⟩
  · exact List.Pairwise.imp_of_mem (R := fun _ _ => True) (fun m _ _ => a _ _ m) (List.pairwise_of_forall fun _ _ => trivial)
  · exact List.Pairwise.imp_of_mem (R := fun _ _ => True) (fun _ m _ => b _ _ m) (List.pairwise_of_forall fun _ _ => trivial)
/-- the first c of the row go to hand 0 -/
def cutF (row : List Nat) (c : Nat) : Nat → Option Nat := fun t => some (if t ∈ row.take c then 0 else 1)
theorem cut_own0 {c t : Nat} : cutF row c t = some 0 ↔ t ∈ row.take c := by
  unfold cutF
  by_cases q : t ∈ row.take c
  · rw [if_pos q]; exact ⟨fun _ => q, fun _ => rfl⟩
  · rw [if_neg q]; exact ⟨fun z => by injection z with z; omega, fun z => absurd z q⟩
theorem cut_own1 (p : row.Perm (List.range n)) {c t : Nat} (ht : t < n) : cutF row c t = some 1 ↔ t ∈ row.drop c := by
  have nd : row.Nodup := p.nodup_iff.mpr List.nodup_range
  have m : t ∈ row := p.mem_iff.mpr (List.mem_range.mpr ht)
  rw [← List.take_append_drop c row] at nd m
  rw [List.nodup_append] at nd
  unfold cutF
  by_cases q : t ∈ row.take c
  · rw [if_pos q]
    exact ⟨fun z => by injection z with z; omega, fun z => absurd rfl (nd.2.2 t q t z)⟩
  · rw [if_neg q]
    rcases List.mem_append.mp m with z | z
    · exact absurd z q
    · exact ⟨fun _ => z, fun _ => rfl⟩
theorem cut_val0 (p : row.Perm (List.range n)) (c i : Nat) : val w n (cutF row c) i 0 = lsum (w i) (row.take c) := by
  have nd : row.Nodup := p.nodup_iff.mpr List.nodup_range
  rw [← lsum_S (n := n) (w i) (nd.sublist (List.take_sublist c row)) fun t m => List.mem_range.mp (p.mem_iff.mp (List.mem_of_mem_take m))]
  refine S_congr fun t _ => ?_
  by_cases q : t ∈ row.take c
  · rw [if_pos (cut_own0.mpr q), if_pos q]
  · rw [if_neg fun z => q (cut_own0.mp z), if_neg q]
theorem cut_val1 (p : row.Perm (List.range n)) (c i : Nat) : val w n (cutF row c) i 1 = lsum (w i) (row.drop c) := by
  have nd : row.Nodup := p.nodup_iff.mpr List.nodup_range
  rw [← lsum_S (n := n) (w i) (nd.sublist (List.drop_sublist c row)) fun t m => List.mem_range.mp (p.mem_iff.mp (List.mem_of_mem_drop m))]
  refine S_congr fun t ht => ?_
  by_cases q : t ∈ row.drop c
  · rw [if_pos ((cut_own1 p ht).mpr q), if_pos q]
  · rw [if_neg fun z => q ((cut_own1 p ht).mp z), if_neg q]
theorem cut_whole (row : List Nat) (c : Nat) : Whole n 2 (cutF row c) := fun t _ => by
  refine ⟨if t ∈ row.take c then 0 else 1, ?_, rfl⟩
  split <;> omega
theorem lsum_mul (c : Int) (f : Nat → Int) : ∀ L : List Nat, lsum (fun t => c * f t) L = c * lsum f L
  | [] => (Int.mul_zero c).symm
  | x :: L => by rw [lsum_cons, lsum_cons, lsum_mul c f L, Int.mul_add]
theorem drop_one {k x : Nat} (e : row[k]? = some x) (f : Nat → Int) : lsum f (row.drop k) = f x + lsum f (row.drop (k + 1)) := by
  obtain ⟨l, e⟩ := List.getElem?_eq_some_iff.mp e
  rw [List.drop_eq_getElem_cons l, lsum_cons, e]
theorem take_one {k x : Nat} (e : row[k]? = some x) (f : Nat → Int) : lsum f (row.take (k + 1)) = lsum f (row.take k) + f x := by
  rw [List.take_add_one, e, lsum_app]
  show _ + lsum f [x] = _
  rw [lsum_cons, lsum_nil, Int.add_zero]
/-- one before is fair -/
theorem ratio_back (pw : row.Pairwise (Fal w)) {k x : Nat} (e : row[k]? = some x) (ax : 0 < w 0 x) (bx : 0 < w 1 x) (env : lsum (w 0) (row.take k) < lsum (w 0) (row.drop k)) (unf : lsum (w 1) (row.drop (k + 1)) < lsum (w 1) (row.take k)) :
    lsum (w 0) (row.drop (k + 1)) ≤ lsum (w 0) (row.take k) ∧ lsum (w 1) (row.take k) ≤ lsum (w 1) (row.drop k) := by
  obtain ⟨l, ex⟩ := List.getElem?_eq_some_iff.mp e
  have pl : ∀ p, p ∈ row.take k → Fal w p x := fun p m => by
    obtain ⟨i, hi⟩ := List.mem_iff_getElem?.mp m
    have il := (List.getElem?_eq_some_iff.mp hi).1
    rw [List.length_take] at il
    rw [List.getElem?_take, if_pos (by omega)] at hi
    obtain ⟨il2, ei⟩ := List.getElem?_eq_some_iff.mp hi
    have y := List.pairwise_iff_getElem.mp pw i k il2 l (by omega)
    rw [ei, ex] at y
    exact y
  have pr : ∀ q, q ∈ row.drop (k + 1) → Fal w x q := fun q m => by
    obtain ⟨i, hi⟩ := List.mem_iff_getElem?.mp m
    rw [List.getElem?_drop] at hi
    obtain ⟨il2, ei⟩ := List.getElem?_eq_some_iff.mp hi
    have y := List.pairwise_iff_getElem.mp pw k (k + 1 + i) l il2 (by omega)
    rw [ei, ex] at y
    exact y
  have r1 : w 0 x * lsum (w 1) (row.take k) ≤ w 1 x * lsum (w 0) (row.take k) := by
    rw [← lsum_mul, ← lsum_mul]
    refine lsum_le fun t m => ?_
    have z := pl t m
    unfold Fal at z
    show w 0 x * w 1 t ≤ w 1 x * w 0 t
    rw [Int.mul_comm (w 1 x)]
    exact z
  have r2 : w 1 x * lsum (w 0) (row.drop (k + 1)) ≤ w 0 x * lsum (w 1) (row.drop (k + 1)) := by
    rw [← lsum_mul, ← lsum_mul]
    refine lsum_le fun t m => ?_
    have z := pr t m
    unfold Fal at z
    show w 1 x * w 0 t ≤ w 0 x * w 1 t
    rw [Int.mul_comm (w 1 x)]
    exact z
  have d0 := drop_one e (w 0)
  have d1 := drop_one e (w 1)
  refine ⟨?_, ?_⟩
  · have a := Int.mul_lt_mul_of_pos_left unf ax
    have b : w 1 x * lsum (w 0) (row.drop (k + 1)) < w 1 x * lsum (w 0) (row.take k) := by omega
    exact Int.le_of_lt (Int.lt_of_mul_lt_mul_left b (Int.le_of_lt bx))
  · refine Classical.byContradiction fun no => ?_
    have up : w 1 x + lsum (w 1) (row.drop (k + 1)) < lsum (w 1) (row.take k) := by omega
    have a := Int.mul_lt_mul_of_pos_left up ax
    have c := Int.mul_lt_mul_of_pos_left env bx
    rw [d0, Int.mul_add] at c
    rw [Int.mul_add] at a
    have e1 : w 0 x * w 1 x = w 1 x * w 0 x := Int.mul_comm ..
    omega
theorem back_ef1 (hw : Pos w) (p : row.Perm (List.range n)) {k x : Nat} (e : row[k]? = some x) (h0 : lsum (w 0) (row.drop (k + 1)) ≤ lsum (w 0) (row.take k)) (h1 : lsum (w 1) (row.take k) ≤ lsum (w 1) (row.drop k)) : EF1 w n 2 (cutF row k) := by
  have l := (List.getElem?_eq_some_iff.mp e).1
  have mx : x ∈ row.drop k := by
    obtain ⟨l, ex⟩ := List.getElem?_eq_some_iff.mp e
    rw [List.drop_eq_getElem_cons l, ex]
    exact List.mem_cons_self
  have xn : x < n := List.mem_range.mp (p.mem_iff.mp (List.mem_of_mem_drop mx))
  intro i j hi hj ne
  rcases (by omega : (i = 0 ∧ j = 1) ∨ (i = 1 ∧ j = 0)) with ⟨rfl, rfl⟩ | ⟨rfl, rfl⟩
  · refine .inr ⟨x, xn, (cut_own1 p xn).mpr mx, ?_⟩
    rw [cut_val0 p, cut_val1 p, drop_one e (w 0)]
    omega
  · by_cases z : row.take k = []
    · left
      intro t _ q
      have := cut_own0.mp q
      rw [z] at this
      cases this
    · obtain ⟨g, mg⟩ := List.exists_mem_of_ne_nil _ z
      refine .inr ⟨g, List.mem_range.mp (p.mem_iff.mp (List.mem_of_mem_take mg)), cut_own0.mpr mg, ?_⟩
      rw [cut_val0 p, cut_val1 p]
      have := hw 1 g
      omega
/-- each cut in the middle is best -/
theorem ratio_best (hw : Pos w) (R : Rt w n hd md tl) {c : Nat} (lo : hd.length ≤ c) (hi : c ≤ hd.length + md.length) : Best w n 2 (cutF (hd ++ md ++ tl) c) := by
  have pw := rt_pw hw R
  generalize hrow : hd ++ md ++ tl = row at *
  have perm : row.Perm (List.range n) := by rw [← hrow]; exact R.perm
  by_cases me : md = []
  · subst me
    have ec : c = hd.length := by simp at hi; omega
    subst ec
    refine best_of_weights (c := fun _ => 1) (fun _ _ => by omega) (cut_whole row _) fun t ht k ek j hj => ?_
    show 1 * w j t ≤ 1 * w k t
    have pj := hw j t
    have pk := hw k t
    by_cases q : t ∈ row.take hd.length
    · have e0 := cut_own0.mpr q
      rw [ek] at e0
      cases e0
      have mh : t ∈ hd := by rw [← hrow, List.append_nil, List.take_left] at q; exact q
      rcases (by omega : j = 0 ∨ j = 1) with rfl | rfl
      · exact Int.le_refl _
      · rw [R.h0 t mh]; omega
    · unfold cutF at ek
      rw [if_neg q] at ek
      cases ek
      have mt : t ∈ tl := by
        have m : t ∈ row := perm.mem_iff.mpr (List.mem_range.mpr ht)
        rw [← hrow, List.append_nil] at m
        rcases List.mem_append.mp m with z | z
        · exact absurd (by rw [← hrow, List.append_nil, List.take_left]; exact z) q
        · exact z
      rcases (by omega : j = 0 ∨ j = 1) with rfl | rfl
      · rw [R.t0 t mt]; omega
      · exact Int.le_refl _
  · have ml : 0 < md.length := List.length_pos_iff.mpr me
    -- the edge
    obtain ⟨k, x, ek, mx, kc⟩ : ∃ k x, row[k]? = some x ∧ x ∈ md ∧ ((k + 1 = c) ∨ (k = c)) := by
      by_cases q : c = hd.length
      · refine ⟨c, md[0], ?_, List.getElem_mem ml, .inr rfl⟩
        rw [← hrow, q, List.append_assoc, List.getElem?_append_right (Nat.le_refl _), Nat.sub_self, List.getElem?_append_left ml, List.getElem?_eq_getElem ml]
      · have l1 : c - 1 - hd.length < md.length := by omega
        refine ⟨c - 1, md[c - 1 - hd.length], ?_, List.getElem_mem l1, .inl (by omega)⟩
        rw [← hrow, List.append_assoc, List.getElem?_append_right (by omega), List.getElem?_append_left l1, List.getElem?_eq_getElem l1]
    obtain ⟨kl, ex⟩ := List.getElem?_eq_some_iff.mp ek
    obtain ⟨ax, bx⟩ := R.mid x mx
    have fl : ∀ i t, row[i]? = some t → i < k → Fal w t x := fun i t e lt => by
      obtain ⟨il, ei⟩ := List.getElem?_eq_some_iff.mp e
      have y := List.pairwise_iff_getElem.mp pw i k il kl lt
      rw [ei, ex] at y
      exact y
    have fr : ∀ i t, row[i]? = some t → k < i → Fal w x t := fun i t e lt => by
      obtain ⟨il, ei⟩ := List.getElem?_eq_some_iff.mp e
      have y := List.pairwise_iff_getElem.mp pw k i kl il lt
      rw [ei, ex] at y
      exact y
    have refl : Fal w x x := Int.le_refl _
    refine best_of_weights (c := fun i => if i = 0 then w 1 x else w 0 x) (fun i _ => by show 0 < if i = 0 then w 1 x else w 0 x; split <;> omega) (cut_whole row _) fun t ht o eo j hj => ?_
    show (if j = 0 then w 1 x else w 0 x) * w j t ≤ (if o = 0 then w 1 x else w 0 x) * w o t
    have two : ∀ j, j < 2 → j = 0 ∨ j = 1 := fun j h => by omega
    by_cases q : t ∈ row.take c
    · have e0 := cut_own0.mpr q
      rw [eo] at e0
      cases e0
      have f : Fal w t x := by
        obtain ⟨i, hi'⟩ := List.mem_iff_getElem?.mp q
        have il := (List.getElem?_eq_some_iff.mp hi').1
        rw [List.length_take] at il
        rw [List.getElem?_take, if_pos (by omega)] at hi'
        by_cases e : i = k
        · rw [e, ek] at hi'; cases hi'; exact refl
        · exact fl i t hi' (by omega)
      unfold Fal at f
      rcases two j hj with rfl | rfl
      · exact Int.le_refl _
      · rw [if_neg (by omega), if_pos rfl, Int.mul_comm (w 1 x)]; exact f
    · have q1 := q
      unfold cutF at eo
      rw [if_neg q] at eo
      cases eo
      have m : t ∈ row := perm.mem_iff.mpr (List.mem_range.mpr ht)
      have md' : t ∈ row.drop c := by
        rw [← List.take_append_drop c row] at m
        exact (List.mem_append.mp m).resolve_left q
      have f : Fal w x t := by
        obtain ⟨i, hi'⟩ := List.mem_iff_getElem?.mp md'
        rw [List.getElem?_drop] at hi'
        by_cases e : c + i = k
        · rw [e, ek] at hi'; cases hi'; exact refl
        · exact fr _ t hi' (by omega)
      unfold Fal at f
      rcases two j hj with rfl | rfl
      · rw [if_pos rfl, if_neg (by omega), Int.mul_comm (w 1 x)]; exact f
      · exact Int.le_refl _
end
end LE

namespace Lk
open PySem PySem.Spec PyProof.Rows L2
/-! ### the text by places -/
def top (i : Nat) : Stmt := PySem.Challenge.pw_leastenvy_k74_whole_dealers_keep.main.body.getD i (.Pass ⟨0, 0, 0, 0⟩)
abbrev s_hands_of : Stmt := top 13
abbrev s_things_of : Stmt := top 14
abbrev s_check_hand : Stmt := top 15
abbrev s_check_thing : Stmt := top 16
abbrev s_worth_of : Stmt := top 17
abbrev s_nothing_dealt : Stmt := top 19
abbrev s_thing_given : Stmt := top 20
abbrev s_heap_of : Stmt := top 21
abbrev s_share_of : Stmt := top 22
abbrev s_shares_of : Stmt := top 23
abbrev s_heap_seen : Stmt := top 25
abbrev s_envies : Stmt := top 26
abbrev s_pairs_of : Stmt := top 27
abbrev s_envies_of : Stmt := top 28
abbrev s_spare_of : Stmt := top 29
abbrev s_envies_but : Stmt := top 30
abbrev s_envies_beyond : Stmt := top 31
abbrev s_is_fair : Stmt := top 32
abbrev s_is_half_enough : Stmt := top 34
abbrev s_one_for : Stmt := top 35
abbrev s_bag_for : Stmt := top 36
abbrev s_by_halves : Stmt := top 37
abbrev s_many_deals : Stmt := top 40
abbrev s_check_few : Stmt := top 41
abbrev s_deal_numbered : Stmt := top 42
abbrev s_score_of : Stmt := top 43
abbrev s_hope_of : Stmt := top 44
abbrev s_by_leasts : Stmt := top 46
abbrev s_check_weights : Stmt := top 49
abbrev s_by_weights : Stmt := top 50
abbrev s_further_cases : Stmt := top 52
abbrev s_paper_by : Stmt := top 53
abbrev s_by_product : Stmt := top 54
abbrev s_comes_ahead : Stmt := top 56
abbrev s_by_falling : Stmt := top 57
abbrev s_cut_deal : Stmt := top 58
abbrev s_by_ratios : Stmt := top 59
abbrev s_is_order : Stmt := top 61
abbrev s_dearest_of : Stmt := top 62
abbrev s_by_turns : Stmt := top 63
abbrev s_envied_among : Stmt := top 65
abbrev s_hands_in_rings : Stmt := top 66
abbrev s_ring_of : Stmt := top 67
abbrev s_ring_turned : Stmt := top 68
abbrev s_unenvied_of : Stmt := top 69
abbrev s_by_rings : Stmt := top 70
abbrev s_Dealer_word : Stmt := inClass (top 72) 0
abbrev s_Dealer_keeps : Stmt := inClass (top 72) 1
abbrev s_Dealer_deal : Stmt := inClass (top 72) 2
abbrev s_Turns_init : Stmt := inClass (top 73) 0
abbrev s_Turns_word : Stmt := inClass (top 73) 1
abbrev s_Turns_keeps : Stmt := inClass (top 73) 2
abbrev s_Turns_deal : Stmt := inClass (top 73) 3
abbrev s_Rings_init : Stmt := inClass (top 74) 0
abbrev s_Rings_word : Stmt := inClass (top 74) 1
abbrev s_Rings_keeps : Stmt := inClass (top 74) 2
abbrev s_Rings_deal : Stmt := inClass (top 74) 3
abbrev s_Weights_init : Stmt := inClass (top 75) 0
abbrev s_Weights_word : Stmt := inClass (top 75) 1
abbrev s_Weights_keeps : Stmt := inClass (top 75) 2
abbrev s_Weights_deal : Stmt := inClass (top 75) 3
abbrev s_Ratios_word : Stmt := inClass (top 76) 0
abbrev s_Ratios_keeps : Stmt := inClass (top 76) 1
abbrev s_Ratios_deal : Stmt := inClass (top 76) 2
abbrev s_Products_word : Stmt := inClass (top 77) 0
abbrev s_Products_keeps : Stmt := inClass (top 77) 1
abbrev s_Products_deal : Stmt := inClass (top 77) 2
abbrev s_Leasts_word : Stmt := inClass (top 78) 0
abbrev s_Leasts_keeps : Stmt := inClass (top 78) 1
abbrev s_Leasts_deal : Stmt := inClass (top 78) 2
abbrev s_Halves_word : Stmt := inClass (top 79) 0
abbrev s_Halves_keeps : Stmt := inClass (top 79) 1
abbrev s_Halves_deal : Stmt := inClass (top 79) 2
abbrev s_dealer_by : Stmt := top 80
abbrev s_L_cell_at : Stmt := top 82
abbrev s_L_numbers : Stmt := top 83
abbrev s_L_rows : Stmt := top 84
abbrev s_L_choices : Stmt := top 85
abbrev s_L_shares : Stmt := top 86
abbrev s_L_fair : Stmt := top 87
abbrev s_L_none_better : Stmt := top 88
abbrev s_L_halved : Stmt := top 89
abbrev s_L_score : Stmt := top 90
abbrev s_L_greatest : Stmt := top 91
abbrev s_L_keeps : Stmt := top 92
abbrev s_L_great_table : Stmt := top 93
abbrev s_L_poorest_first : Stmt := top 94
abbrev s_L_great_kept : Stmt := top 95
abbrev s_law : Stmt := top 96
/-! ### the head: facts by names -/
def d_hands_of : He.DefD := ⟨("hands_of", none), "hands_of", "hands_of", defArgs s_hands_of, defBody s_hands_of, defScope s_hands_of, [], []⟩
def d_things_of : He.DefD := ⟨("things_of", none), "things_of", "things_of", defArgs s_things_of, defBody s_things_of, defScope s_things_of, [], []⟩
def d_check_hand : He.DefD := ⟨("check_hand", none), "check_hand", "check_hand", defArgs s_check_hand, defBody s_check_hand, defScope s_check_hand, [], []⟩
def d_check_thing : He.DefD := ⟨("check_thing", none), "check_thing", "check_thing", defArgs s_check_thing, defBody s_check_thing, defScope s_check_thing, [], []⟩
def d_worth_of : He.DefD := ⟨("worth_of", none), "worth_of", "worth_of", defArgs s_worth_of, defBody s_worth_of, defScope s_worth_of, [], []⟩
def d_nothing_dealt : He.DefD := ⟨("nothing_dealt", none), "nothing_dealt", "nothing_dealt", defArgs s_nothing_dealt, defBody s_nothing_dealt, defScope s_nothing_dealt, [], []⟩
def d_thing_given : He.DefD := ⟨("thing_given", none), "thing_given", "thing_given", defArgs s_thing_given, defBody s_thing_given, defScope s_thing_given, [], []⟩
def d_heap_of : He.DefD := ⟨("heap_of", none), "heap_of", "heap_of", defArgs s_heap_of, defBody s_heap_of, defScope s_heap_of, [], []⟩
def d_share_of : He.DefD := ⟨("share_of", none), "share_of", "share_of", defArgs s_share_of, defBody s_share_of, defScope s_share_of, [], []⟩
def d_shares_of : He.DefD := ⟨("shares_of", none), "shares_of", "shares_of", defArgs s_shares_of, defBody s_shares_of, defScope s_shares_of, [], []⟩
def d_heap_seen : He.DefD := ⟨("heap_seen", none), "heap_seen", "heap_seen", defArgs s_heap_seen, defBody s_heap_seen, defScope s_heap_seen, [], []⟩
def d_envies : He.DefD := ⟨("envies", none), "envies", "envies", defArgs s_envies, defBody s_envies, defScope s_envies, [], []⟩
def d_pairs_of : He.DefD := ⟨("pairs_of", none), "pairs_of", "pairs_of", defArgs s_pairs_of, defBody s_pairs_of, defScope s_pairs_of, [], []⟩
def d_envies_of : He.DefD := ⟨("envies_of", none), "envies_of", "envies_of", defArgs s_envies_of, defBody s_envies_of, defScope s_envies_of, [], []⟩
def d_spare_of : He.DefD := ⟨("spare_of", none), "spare_of", "spare_of", defArgs s_spare_of, defBody s_spare_of, defScope s_spare_of, [], []⟩
def d_envies_but : He.DefD := ⟨("envies_but", none), "envies_but", "envies_but", defArgs s_envies_but, defBody s_envies_but, defScope s_envies_but, [], []⟩
def d_envies_beyond : He.DefD := ⟨("envies_beyond", none), "envies_beyond", "envies_beyond", defArgs s_envies_beyond, defBody s_envies_beyond, defScope s_envies_beyond, [], []⟩
def d_is_fair : He.DefD := ⟨("is_fair", none), "is_fair", "is_fair", defArgs s_is_fair, defBody s_is_fair, defScope s_is_fair, [], []⟩
def d_is_half_enough : He.DefD := ⟨("is_half_enough", none), "is_half_enough", "is_half_enough", defArgs s_is_half_enough, defBody s_is_half_enough, defScope s_is_half_enough, [], []⟩
def d_one_for : He.DefD := ⟨("one_for", none), "one_for", "one_for", defArgs s_one_for, defBody s_one_for, defScope s_one_for, [], []⟩
def d_bag_for : He.DefD := ⟨("bag_for", none), "bag_for", "bag_for", defArgs s_bag_for, defBody s_bag_for, defScope s_bag_for, [], []⟩
def d_by_halves : He.DefD := ⟨("by_halves", none), "by_halves", "by_halves", defArgs s_by_halves, defBody s_by_halves, defScope s_by_halves, [], []⟩
def d_many_deals : He.DefD := ⟨("many_deals", none), "many_deals", "many_deals", defArgs s_many_deals, defBody s_many_deals, defScope s_many_deals, [], []⟩
def d_check_few : He.DefD := ⟨("check_few", none), "check_few", "check_few", defArgs s_check_few, defBody s_check_few, defScope s_check_few, [], []⟩
def d_deal_numbered : He.DefD := ⟨("deal_numbered", none), "deal_numbered", "deal_numbered", defArgs s_deal_numbered, defBody s_deal_numbered, defScope s_deal_numbered, [], []⟩
def d_score_of : He.DefD := ⟨("score_of", none), "score_of", "score_of", defArgs s_score_of, defBody s_score_of, defScope s_score_of, [], []⟩
def d_hope_of : He.DefD := ⟨("hope_of", none), "hope_of", "hope_of", defArgs s_hope_of, defBody s_hope_of, defScope s_hope_of, [], []⟩
def d_by_leasts : He.DefD := ⟨("by_leasts", none), "by_leasts", "by_leasts", defArgs s_by_leasts, defBody s_by_leasts, defScope s_by_leasts, [], []⟩
def d_check_weights : He.DefD := ⟨("check_weights", none), "check_weights", "check_weights", defArgs s_check_weights, defBody s_check_weights, defScope s_check_weights, [], []⟩
def d_by_weights : He.DefD := ⟨("by_weights", none), "by_weights", "by_weights", defArgs s_by_weights, defBody s_by_weights, defScope s_by_weights, [], []⟩
def d_further_cases : He.DefD := ⟨("further_cases", none), "further_cases", "further_cases", defArgs s_further_cases, defBody s_further_cases, defScope s_further_cases, [], []⟩
def d_paper_by : He.DefD := ⟨("paper_by", none), "paper_by", "paper_by", defArgs s_paper_by, defBody s_paper_by, defScope s_paper_by, [], []⟩
def d_by_product : He.DefD := ⟨("by_product", none), "by_product", "by_product", defArgs s_by_product, defBody s_by_product, defScope s_by_product, [], []⟩
def d_comes_ahead : He.DefD := ⟨("comes_ahead", none), "comes_ahead", "comes_ahead", defArgs s_comes_ahead, defBody s_comes_ahead, defScope s_comes_ahead, [], []⟩
def d_by_falling : He.DefD := ⟨("by_falling", none), "by_falling", "by_falling", defArgs s_by_falling, defBody s_by_falling, defScope s_by_falling, [], []⟩
def d_cut_deal : He.DefD := ⟨("cut_deal", none), "cut_deal", "cut_deal", defArgs s_cut_deal, defBody s_cut_deal, defScope s_cut_deal, [], []⟩
def d_by_ratios : He.DefD := ⟨("by_ratios", none), "by_ratios", "by_ratios", defArgs s_by_ratios, defBody s_by_ratios, defScope s_by_ratios, [], []⟩
def d_is_order : He.DefD := ⟨("is_order", none), "is_order", "is_order", defArgs s_is_order, defBody s_is_order, defScope s_is_order, [], []⟩
def d_dearest_of : He.DefD := ⟨("dearest_of", none), "dearest_of", "dearest_of", defArgs s_dearest_of, defBody s_dearest_of, defScope s_dearest_of, [], []⟩
def d_by_turns : He.DefD := ⟨("by_turns", none), "by_turns", "by_turns", defArgs s_by_turns, defBody s_by_turns, defScope s_by_turns, [.non], []⟩
def d_envied_among : He.DefD := ⟨("envied_among", none), "envied_among", "envied_among", defArgs s_envied_among, defBody s_envied_among, defScope s_envied_among, [], []⟩
def d_hands_in_rings : He.DefD := ⟨("hands_in_rings", none), "hands_in_rings", "hands_in_rings", defArgs s_hands_in_rings, defBody s_hands_in_rings, defScope s_hands_in_rings, [], []⟩
def d_ring_of : He.DefD := ⟨("ring_of", none), "ring_of", "ring_of", defArgs s_ring_of, defBody s_ring_of, defScope s_ring_of, [], []⟩
def d_ring_turned : He.DefD := ⟨("ring_turned", none), "ring_turned", "ring_turned", defArgs s_ring_turned, defBody s_ring_turned, defScope s_ring_turned, [], []⟩
def d_unenvied_of : He.DefD := ⟨("unenvied_of", none), "unenvied_of", "unenvied_of", defArgs s_unenvied_of, defBody s_unenvied_of, defScope s_unenvied_of, [], []⟩
def d_by_rings : He.DefD := ⟨("by_rings", none), "by_rings", "by_rings", defArgs s_by_rings, defBody s_by_rings, defScope s_by_rings, [.non], []⟩
def d_Dealer_word : He.DefD := ⟨("Dealer", some "word"), "word", "Dealer.word", defArgs s_Dealer_word, defBody s_Dealer_word, defScope s_Dealer_word, [], []⟩
def d_Dealer_keeps : He.DefD := ⟨("Dealer", some "keeps"), "keeps", "Dealer.keeps", defArgs s_Dealer_keeps, defBody s_Dealer_keeps, defScope s_Dealer_keeps, [], []⟩
def d_Dealer_deal : He.DefD := ⟨("Dealer", some "deal"), "deal", "Dealer.deal", defArgs s_Dealer_deal, defBody s_Dealer_deal, defScope s_Dealer_deal, [], []⟩
def d_Turns_init : He.DefD := ⟨("Turns", some "__init__"), "__init__", "Turns.__init__", defArgs s_Turns_init, defBody s_Turns_init, defScope s_Turns_init, [.non], []⟩
def d_Turns_word : He.DefD := ⟨("Turns", some "word"), "word", "Turns.word", defArgs s_Turns_word, defBody s_Turns_word, defScope s_Turns_word, [], []⟩
def d_Turns_keeps : He.DefD := ⟨("Turns", some "keeps"), "keeps", "Turns.keeps", defArgs s_Turns_keeps, defBody s_Turns_keeps, defScope s_Turns_keeps, [], []⟩
def d_Turns_deal : He.DefD := ⟨("Turns", some "deal"), "deal", "Turns.deal", defArgs s_Turns_deal, defBody s_Turns_deal, defScope s_Turns_deal, [], []⟩
def d_Rings_init : He.DefD := ⟨("Rings", some "__init__"), "__init__", "Rings.__init__", defArgs s_Rings_init, defBody s_Rings_init, defScope s_Rings_init, [.non], []⟩
def d_Rings_word : He.DefD := ⟨("Rings", some "word"), "word", "Rings.word", defArgs s_Rings_word, defBody s_Rings_word, defScope s_Rings_word, [], []⟩
def d_Rings_keeps : He.DefD := ⟨("Rings", some "keeps"), "keeps", "Rings.keeps", defArgs s_Rings_keeps, defBody s_Rings_keeps, defScope s_Rings_keeps, [], []⟩
def d_Rings_deal : He.DefD := ⟨("Rings", some "deal"), "deal", "Rings.deal", defArgs s_Rings_deal, defBody s_Rings_deal, defScope s_Rings_deal, [], []⟩
def d_Weights_init : He.DefD := ⟨("Weights", some "__init__"), "__init__", "Weights.__init__", defArgs s_Weights_init, defBody s_Weights_init, defScope s_Weights_init, [.non], []⟩
def d_Weights_word : He.DefD := ⟨("Weights", some "word"), "word", "Weights.word", defArgs s_Weights_word, defBody s_Weights_word, defScope s_Weights_word, [], []⟩
def d_Weights_keeps : He.DefD := ⟨("Weights", some "keeps"), "keeps", "Weights.keeps", defArgs s_Weights_keeps, defBody s_Weights_keeps, defScope s_Weights_keeps, [], []⟩
def d_Weights_deal : He.DefD := ⟨("Weights", some "deal"), "deal", "Weights.deal", defArgs s_Weights_deal, defBody s_Weights_deal, defScope s_Weights_deal, [], []⟩
def d_Ratios_word : He.DefD := ⟨("Ratios", some "word"), "word", "Ratios.word", defArgs s_Ratios_word, defBody s_Ratios_word, defScope s_Ratios_word, [], []⟩
def d_Ratios_keeps : He.DefD := ⟨("Ratios", some "keeps"), "keeps", "Ratios.keeps", defArgs s_Ratios_keeps, defBody s_Ratios_keeps, defScope s_Ratios_keeps, [], []⟩
def d_Ratios_deal : He.DefD := ⟨("Ratios", some "deal"), "deal", "Ratios.deal", defArgs s_Ratios_deal, defBody s_Ratios_deal, defScope s_Ratios_deal, [], []⟩
def d_Products_word : He.DefD := ⟨("Products", some "word"), "word", "Products.word", defArgs s_Products_word, defBody s_Products_word, defScope s_Products_word, [], []⟩
def d_Products_keeps : He.DefD := ⟨("Products", some "keeps"), "keeps", "Products.keeps", defArgs s_Products_keeps, defBody s_Products_keeps, defScope s_Products_keeps, [], []⟩
def d_Products_deal : He.DefD := ⟨("Products", some "deal"), "deal", "Products.deal", defArgs s_Products_deal, defBody s_Products_deal, defScope s_Products_deal, [], []⟩
def d_Leasts_word : He.DefD := ⟨("Leasts", some "word"), "word", "Leasts.word", defArgs s_Leasts_word, defBody s_Leasts_word, defScope s_Leasts_word, [], []⟩
def d_Leasts_keeps : He.DefD := ⟨("Leasts", some "keeps"), "keeps", "Leasts.keeps", defArgs s_Leasts_keeps, defBody s_Leasts_keeps, defScope s_Leasts_keeps, [], []⟩
def d_Leasts_deal : He.DefD := ⟨("Leasts", some "deal"), "deal", "Leasts.deal", defArgs s_Leasts_deal, defBody s_Leasts_deal, defScope s_Leasts_deal, [], []⟩
def d_Halves_word : He.DefD := ⟨("Halves", some "word"), "word", "Halves.word", defArgs s_Halves_word, defBody s_Halves_word, defScope s_Halves_word, [], []⟩
def d_Halves_keeps : He.DefD := ⟨("Halves", some "keeps"), "keeps", "Halves.keeps", defArgs s_Halves_keeps, defBody s_Halves_keeps, defScope s_Halves_keeps, [], []⟩
def d_Halves_deal : He.DefD := ⟨("Halves", some "deal"), "deal", "Halves.deal", defArgs s_Halves_deal, defBody s_Halves_deal, defScope s_Halves_deal, [], []⟩
def d_dealer_by : He.DefD := ⟨("dealer_by", none), "dealer_by", "dealer_by", defArgs s_dealer_by, defBody s_dealer_by, defScope s_dealer_by, [], []⟩
def d_L_cell_at : He.DefD := ⟨("_law_cell_at", none), "_law_cell_at", "_law_cell_at", defArgs s_L_cell_at, defBody s_L_cell_at, defScope s_L_cell_at, [], []⟩
def d_L_numbers : He.DefD := ⟨("_law_numbers", none), "_law_numbers", "_law_numbers", defArgs s_L_numbers, defBody s_L_numbers, defScope s_L_numbers, [], []⟩
def d_L_rows : He.DefD := ⟨("_law_rows", none), "_law_rows", "_law_rows", defArgs s_L_rows, defBody s_L_rows, defScope s_L_rows, [], []⟩
def d_L_choices : He.DefD := ⟨("_law_choices", none), "_law_choices", "_law_choices", defArgs s_L_choices, defBody s_L_choices, defScope s_L_choices, [], []⟩
def d_L_shares : He.DefD := ⟨("_law_shares", none), "_law_shares", "_law_shares", defArgs s_L_shares, defBody s_L_shares, defScope s_L_shares, [], []⟩
def d_L_fair : He.DefD := ⟨("_law_fair", none), "_law_fair", "_law_fair", defArgs s_L_fair, defBody s_L_fair, defScope s_L_fair, [], []⟩
def d_L_none_better : He.DefD := ⟨("_law_none_better", none), "_law_none_better", "_law_none_better", defArgs s_L_none_better, defBody s_L_none_better, defScope s_L_none_better, [], []⟩
def d_L_halved : He.DefD := ⟨("_law_halved", none), "_law_halved", "_law_halved", defArgs s_L_halved, defBody s_L_halved, defScope s_L_halved, [], []⟩
def d_L_score : He.DefD := ⟨("_law_score", none), "_law_score", "_law_score", defArgs s_L_score, defBody s_L_score, defScope s_L_score, [], []⟩
def d_L_greatest : He.DefD := ⟨("_law_greatest", none), "_law_greatest", "_law_greatest", defArgs s_L_greatest, defBody s_L_greatest, defScope s_L_greatest, [], []⟩
def d_L_keeps : He.DefD := ⟨("_law_keeps", none), "_law_keeps", "_law_keeps", defArgs s_L_keeps, defBody s_L_keeps, defScope s_L_keeps, [], []⟩
def d_L_great_table : He.DefD := ⟨("_law_great_table", none), "_law_great_table", "_law_great_table", defArgs s_L_great_table, defBody s_L_great_table, defScope s_L_great_table, [], []⟩
def d_L_poorest_first : He.DefD := ⟨("_law_poorest_first", none), "_law_poorest_first", "_law_poorest_first", defArgs s_L_poorest_first, defBody s_L_poorest_first, defScope s_L_poorest_first, [], []⟩
def d_L_great_kept : He.DefD := ⟨("_law_great_kept", none), "_law_great_kept", "_law_great_kept", defArgs s_L_great_kept, defBody s_L_great_kept, defScope s_L_great_kept, [], []⟩
def d_law : He.DefD := ⟨("law", none), "law", "law", defArgs s_law, defBody s_law, defScope s_law, [], []⟩
def fn : List He.DefD := [d_hands_of, d_things_of, d_check_hand, d_check_thing, d_worth_of, d_nothing_dealt, d_thing_given, d_heap_of, d_share_of, d_shares_of, d_heap_seen, d_envies, d_pairs_of, d_envies_of, d_spare_of, d_envies_but, d_envies_beyond, d_is_fair, d_is_half_enough, d_one_for, d_bag_for, d_by_halves, d_many_deals, d_check_few, d_deal_numbered, d_score_of, d_hope_of, d_by_leasts, d_check_weights, d_by_weights, d_further_cases, d_paper_by, d_by_product, d_comes_ahead, d_by_falling, d_cut_deal, d_by_ratios, d_is_order, d_dearest_of, d_by_turns, d_envied_among, d_hands_in_rings, d_ring_of, d_ring_turned, d_unenvied_of, d_by_rings, d_Dealer_word, d_Dealer_keeps, d_Dealer_deal, d_Turns_init, d_Turns_word, d_Turns_keeps, d_Turns_deal, d_Rings_init, d_Rings_word, d_Rings_keeps, d_Rings_deal, d_Weights_init, d_Weights_word, d_Weights_keeps, d_Weights_deal, d_Ratios_word, d_Ratios_keeps, d_Ratios_deal, d_Products_word, d_Products_keeps, d_Products_deal, d_Leasts_word, d_Leasts_keeps, d_Leasts_deal, d_Halves_word, d_Halves_keeps, d_Halves_deal, d_dealer_by, d_L_cell_at, d_L_numbers, d_L_rows, d_L_choices, d_L_shares, d_L_fair, d_L_none_better, d_L_halved, d_L_score, d_L_greatest, d_L_keeps, d_L_great_table, d_L_poorest_first, d_L_great_kept, d_law]
def fa : List He.Fa := [.glo "hands_of", .glo "things_of", .glo "check_hand", .glo "check_thing", .glo "worth_of", .glo "nothing_dealt", .glo "thing_given", .glo "heap_of", .glo "share_of", .glo "shares_of", .glo "heap_seen", .glo "envies", .glo "pairs_of", .glo "envies_of", .glo "spare_of", .glo "envies_but", .glo "envies_beyond", .glo "is_fair", .glo "is_half_enough", .glo "one_for", .glo "bag_for", .glo "by_halves", .glo "many_deals", .glo "check_few", .glo "deal_numbered", .glo "score_of", .glo "hope_of", .glo "by_leasts", .glo "check_weights", .glo "by_weights", .glo "further_cases", .glo "paper_by", .glo "by_product", .glo "comes_ahead", .glo "by_falling", .glo "cut_deal", .glo "by_ratios", .glo "is_order", .glo "dearest_of", .glo "by_turns", .glo "envied_among", .glo "hands_in_rings", .glo "ring_of", .glo "ring_turned", .glo "unenvied_of", .glo "by_rings", .glo "dealer_by", .glo "_law_cell_at", .glo "_law_numbers", .glo "_law_rows", .glo "_law_choices", .glo "_law_shares", .glo "_law_fair", .glo "_law_none_better", .glo "_law_halved", .glo "_law_score", .glo "_law_greatest", .glo "_law_keeps", .glo "_law_great_table", .glo "_law_poorest_first", .glo "_law_great_kept", .glo "law", .glo "Dealer", .glo "Turns", .glo "Rings", .glo "Weights", .glo "Ratios", .glo "Products", .glo "Leasts", .glo "Halves", .free "len", .free "range", .free "sum", .free "sorted", .free "min", .free "max", .free "list", .free "enumerate", .free "any", .free "all", .free "set", .free "divmod", .free "isinstance", .int "MOST_CASES" 4096, .int "MOST_WEIGHT" (10 ^ 120), .cls "Dealer", .cls "Turns", .cls "Rings", .cls "Weights", .cls "Ratios", .cls "Products", .cls "Leasts", .cls "Halves", .noat "Turns" "orders", .noat "Rings" "order", .noat "Weights" "weights", .meth "Dealer" "word", .meth "Dealer" "keeps", .meth "Dealer" "deal", .meth "Turns" "word", .meth "Turns" "keeps", .meth "Turns" "deal", .meth "Rings" "word", .meth "Rings" "keeps", .meth "Rings" "deal", .meth "Weights" "word", .meth "Weights" "keeps", .meth "Weights" "deal", .meth "Ratios" "word", .meth "Ratios" "keeps", .meth "Ratios" "deal", .meth "Products" "word", .meth "Products" "keeps", .meth "Products" "deal", .meth "Leasts" "word", .meth "Leasts" "keeps", .meth "Leasts" "deal", .meth "Halves" "word", .meth "Halves" "keeps", .meth "Halves" "deal", .mkr "Turns", .mkr "Rings", .mkr "Weights"]
def bare1 (K : PySem.W.Frag) (x : Str) : Bool := PySem.W.makesIn K (He.ga K x) && (He.eqO (PySem.W.findIn K (.ref (He.ga K x)) "__init__") (some (some (.builtin "object.__init__"))) && PySem.W.keepIn K (.ref (He.ga K x)))
def bareB (K : PySem.W.Frag) : Bool := bare1 K "Dealer" && bare1 K "Ratios" && bare1 K "Products" && bare1 K "Leasts" && bare1 K "Halves"
def loose0 : List PySem.Str := ["_wall", "EnvyError", "NoHand", "NoThing", "Held", "NoOrder", "NoRing", "NoWeights", "NotTwo", "TooMany", "NoDealer", "hands_of", "things_of", "check_hand", "check_thing", "worth_of", "nothing_dealt", "thing_given", "heap_of", "share_of", "shares_of", "heap_seen", "envies", "pairs_of", "envies_of", "spare_of", "envies_but", "envies_beyond", "is_fair", "is_half_enough"]
def loose1 : List PySem.Str := ["one_for", "bag_for", "by_halves", "MOST_CASES", "many_deals", "check_few", "deal_numbered", "score_of", "hope_of", "by_leasts", "MOST_WEIGHT", "check_weights", "by_weights", "further_cases", "paper_by", "by_product", "comes_ahead", "by_falling", "cut_deal", "by_ratios", "is_order", "dearest_of", "by_turns", "envied_among", "hands_in_rings", "ring_of", "ring_turned", "unenvied_of", "by_rings", "Dealer"]
def loose2 : List PySem.Str := ["Turns", "Rings", "Weights", "Ratios", "Products", "Leasts", "Halves", "dealer_by", "_law_cell_at", "_law_numbers", "_law_rows", "_law_choices", "_law_shares", "_law_fair", "_law_none_better", "_law_halved", "_law_score", "_law_greatest", "_law_keeps", "_law_great_table", "_law_poorest_first", "_law_great_kept"]
def loose : List PySem.Str := loose0 ++ loose1 ++ loose2
def iLaw : Nat := 96
def as_ : List Addr := [3, 483, 482, 524, 523, 565, 564, 606, 605, 639, 638, 672, 671, 705, 704, 738, 737, 156, 155, 163, 162, 170, 169, 177, 176, 184, 183, 191, 190, 198, 197, 203, 202, 210, 209, 215, 214, 222, 221, 229, 228, 234, 233, 239, 238, 246, 245, 253, 252, 260, 259, 265, 264, 272, 271, 279, 278, 286, 285, 291, 290, 298, 297, 305, 304, 312, 311, 319, 318, 324, 323, 331, 330, 336, 335, 343, 342, 348, 347, 355, 354, 362, 361, 369, 368, 376, 375, 383, 382, 388, 387, 395, 394, 402, 401, 408, 407, 403, 415, 414, 420, 419, 427, 426, 432, 431, 437, 436, 445, 444, 438, 459, 458, 466, 465, 473, 472, 500, 499, 495, 507, 506, 514, 513, 521, 520, 541, 540, 534, 548, 547, 555, 554, 562, 561, 582, 581, 575, 589, 588, 596, 595, 603, 602, 622, 621, 629, 628, 636, 635, 655, 654, 662, 661, 669, 668, 688, 687, 695, 694, 702, 701, 721, 720, 728, 727, 735, 734, 747, 746, 754, 753, 761, 760, 768, 767, 773, 772, 780, 779, 785, 784, 790, 789, 797, 796, 804, 803, 811, 810, 816, 815, 821, 820, 826, 825, 831, 830, 836, 835]
def Says (K : PySem.W.Frag) : Prop := He.SaysD fa fn K ∧ bareB K = true
abbrev AlX : Type := He.AlD × Bool
def obsX (n : Nat) (g : Addr → Option Obj) : AlX := (He.obsD fa fn (He.frG g as_), bareB (He.frG g as_))
def hk : PySem.W.Hook where
  α := AlX
  obs := fun s => obsX 5 s.heap.get?
  val := fun _ => (He.valD fn, true)
  says := fun _ h => ∃ K : PySem.W.Frag, K.In h ∧ Says K
  of := fun _ _ e => ⟨_, He.frG_in, congrArg (fun z : AlX => z.1) e, congrArg (fun z : AlX => z.2) e⟩
  keeps := fun _ _ _ ⟨K, hK, c⟩ k => ⟨K, PySem.W.Frag.In.keeps hK k, c⟩
abbrev R : PySem.W.OpenRow := PySem.W.OpenLaw.row PySem.Challenge.rw_leastenvy_k74_whole_dealers_keep
def ob (s : PySem.W.SharedT) : AlX := obsX 5 (HandSHeadRun.getT s)
theorem ob_eq (s : PySem.W.SharedT) : ob s = hk.obs s.abs := by
  have e : HandSHeadRun.getT s = s.abs.heap.get? := funext (HandSHeadRun.getT_eq s)
  show obsX 5 (HandSHeadRun.getT s) = obsX 5 s.abs.heap.get?
  rw [e]
theorem run (w : World) : HandSHeadRun.RunEq R (PySem.W.view R.prog [iLaw]) hk ob 7000 loose w := by
  intro os
  kernel_rfl
end Lk

namespace Lk
open PySem PySem.Spec PyProof.Rows L2
/-! ### rules of our own -/
section
variable {X : Cx}
/-- one of several readings -/
theorem pe_ex {ι : Type} {e : Expr} {t : ι → TE} (h : ∀ i, PE X e (t i)) : PE X e (fun σ H Q => ∃ i, t i σ H Q) :=
  ⟨fun pins s σ H Q I ⟨i, q⟩ => (h i).run pins s σ H Q I q⟩
/-- xs[i] by values, 0 ≤ i -/
def rGetL (K : PySem.W.Frag) : V → V → Hp → VK → Prop := fun x y H Q => ∃ p xs i v, x = .ref p ∧ y = .int (i : Nat) ∧ SqL K H p xs ∧ xs[i]? = some v ∧ Q v H
theorem get_list : PGet X (rGetL X.K) := by
  intro pins s σ H o i ov iv Q I r1 r2 h
  obtain ⟨p, xs, n, v, rfl, rfl, hs, hv, q⟩ := h
  cases r1
  obtain ⟨t, rfl⟩ := r2
  obtain ⟨its, r, pl, hz⟩ := I.list hs
  obtain ⟨w, ew, rw'⟩ := r.get hv
  have hn : n < xs.length := (List.getElem?_eq_some_iff.mp hv).1
  have hsz : sizeLine < 2 ^ 63 := by decide
  exact wpAny_getItem_list pl.isList (by omega) (by omega) (by simpa using ew) ⟨v, H, I, rw', q⟩
theorem ip_mul : PIp X .Mult (rI CMul fun i j => .int (i * j)) := iop_mul
/-- pairs of ints, by the first difference -/
def pairLt (a b c d : Int) : Bool := if a = c then decide (b < d) else decide (a < c)
def rGtP (K : PySem.W.Frag) : R2 := fun x y H Q => ∃ p q a b c d, x = .ref p ∧ y = .ref q ∧ SqT K H p [.int a, .int b] ∧ SqT K H q [.int c, .int d] ∧ Q (.bl (pairLt c d a b)) H
def rLeP (K : PySem.W.Frag) : R2 := fun x y H Q => ∃ p q a b c d, x = .ref p ∧ y = .ref q ∧ SqT K H p [.int a, .int b] ∧ SqT K H q [.int c, .int d] ∧ Q (.bl (!pairLt c d a b)) H
theorem dp_pair {K : PySem.W.Frag} {H : Hp} {p : Addr} {a b : Int} (h : SqT K H p [.int a, .int b]) : Dp K H (.ref p) (PySem.W.Datum.toD ((a, b) : Int × Int)) := .tup h (.cons (.int a) (.cons (.int b) .nil))
theorem dp_ints {K : PySem.W.Frag} {H : Hp} {p : Addr} {ns : List Int} (h : SqL K H p (ns.map V.int)) : Dp K H (.ref p) (PySem.W.Datum.toD ns) := by
  refine .lst (ds := ns.map PyData.int) h ?_
  clear h
  induction ns with
  | nil => exact .nil
  | cons n r ih => exact .cons (.int n) ih
theorem op_gtP (hu : X.A.units + 64 < cLine) : OpR X (compareOp .Gt) (rGtP X.K) := by
  intro pins s σ H x y v u Q I rx ry h
  obtain ⟨p, q, a, b, c, d, rfl, rfl, h1, h2, z⟩ := h
  obtain ⟨as, ra⟩ := Dp.reads I _ _ _ (dp_pair h1) rx
  obtain ⟨bs, rb⟩ := Dp.reads I _ _ _ (dp_pair h2) ry
  refine PySem.W.gt_datum (α := Int × Int) (x := (a, b)) (y := (c, d)) ⟨as, ra⟩ ⟨bs, rb⟩ (Nat.lt_of_le_of_lt (Nat.add_le_add_left (by decide) _) hu) ⟨.bl _, H, I, rfl, z⟩
theorem op_leP (hu : X.A.units + 64 < cLine) : OpR X (compareOp .LtE) (rLeP X.K) := by
  intro pins s σ H x y v u Q I rx ry h
  obtain ⟨p, q, a, b, c, d, rfl, rfl, h1, h2, z⟩ := h
  obtain ⟨as, ra⟩ := Dp.reads I _ _ _ (dp_pair h1) rx
  obtain ⟨bs, rb⟩ := Dp.reads I _ _ _ (dp_pair h2) ry
  refine PySem.W.le_datum (α := Int × Int) (x := (a, b)) (y := (c, d)) ⟨as, ra⟩ ⟨bs, rb⟩ (Nat.lt_of_le_of_lt (Nat.add_le_add_left (by decide) _) hu) ⟨.bl _, H, I, rfl, z⟩
/-- lists of ints, by the first difference -/
def intsLt : List Int → List Int → Bool
  | [], [] => false
  | [], _ :: _ => true
  | _ :: _, [] => false
  | x :: xs, y :: ys => if x = y then intsLt xs ys else decide (x < y)
theorem intsLt_eq : ∀ xs ys : List Int, PySem.W.listLt xs ys = intsLt xs ys
  | [], [] => rfl
  | [], _ :: _ => rfl
  | _ :: _, [] => rfl
  | x :: xs, y :: ys => by
    show (if x = y then PySem.W.listLt xs ys else decide (x < y)) = _
    rw [intsLt_eq xs ys]
    rfl
def rGtI (K : PySem.W.Frag) : R2 := fun x y H Q => ∃ p q ns ms, x = .ref p ∧ y = .ref q ∧ SqL K H p (ns.map V.int) ∧ SqL K H q (ms.map V.int) ∧ Q (.bl (intsLt ms ns)) H
theorem op_gtI (hu : X.A.units + 64 < cLine) : OpR X (compareOp .Gt) (rGtI X.K) := by
  intro pins s σ H x y v u Q I rx ry h
  obtain ⟨p, q, ns, ms, rfl, rfl, h1, h2, z⟩ := h
  obtain ⟨as, ra⟩ := Dp.reads I _ _ _ (dp_ints h1) rx
  obtain ⟨bs, rb⟩ := Dp.reads I _ _ _ (dp_ints h2) ry
  refine PySem.W.gt_datum (α := List Int) (x := ns) (y := ms) ⟨as, ra⟩ ⟨bs, rb⟩ (Nat.lt_of_le_of_lt (Nat.add_le_add_left (by decide) _) hu) ⟨.bl _, H, I, rfl, ?_⟩
  show Q (.bl (PySem.W.listLt ms ns)) H
  rw [intsLt_eq]
  exact z
/-! ### C() of a class without an own __init__ -/
structure Mk0 (K : PySem.W.Frag) (C : Addr) : Prop where
  makes : PySem.W.makesIn K C = true
  init : PySem.W.findIn K (.ref C) "__init__" = some (some (.builtin "object.__init__"))
  kp : PySem.W.keepIn K (.ref C) = true
def tMake0 (C : Addr) : TE := fun _ H Q => ∀ x dx, H x = none → H dx = none → dx ≠ x → Q (.ref x) (upd (upd H dx (.own x)) x (.ins C dx []))
theorem pe_mk0 {C : Addr} {x : Str} {p pos : Pos} (M : Mk0 X.K C) (hg : Gl X x) (hm : X.mg x = some (.ref C)) (hdb : (x == ("__debug__" : Str)) = false := by decide) : PE X (.Call (.Name x p) [] [] pos) (tMake0 C) := by
  refine ⟨fun pins s σ H Q I h => ?_⟩
  refine wpAny_Call_Name_kw (ld_glob I hg hm ?_ hdb)
  refine PySem.W.callWith_K0 I.kIn M.kp ?_
  have hq := h (s.heap.objs.size + 1) s.heap.objs.size (I.hok.fresh (Nat.le_succ _)) (I.hok.fresh (Nat.le_refl _)) (Nat.ne_of_lt (Nat.lt_succ_self _))
  have I2 := Inv.made (C := C) I
  have Y := PySem.W.makes_of (M := model X.prog X.w) I.kIn M.makes
  have ho : ((s.heap.push PySem.W.emptyDict).push (PySem.W.instObj C s.heap.objs.size)).get? (s.heap.objs.size + 1) = some (PySem.W.instObj C s.heap.objs.size) := by
    have z := Heap.get?_push_size (s.heap.push PySem.W.emptyDict) (o := PySem.W.instObj C s.heap.objs.size) rfl
    rw [Heap.size_push] at z
    exact z
  have t1 : PySem.W.Looks (model X.prog X.w) ((s.heap.push PySem.W.emptyDict).push (PySem.W.instObj C s.heap.objs.size)) (typeOf (.ref (s.heap.objs.size + 1))) (.ref C) := (PySem.W.Looks.ld ho).andThen .now
  have t2 : PySem.W.Looks (model X.prog X.w) ((s.heap.push PySem.W.emptyDict).push (PySem.W.instObj C s.heap.objs.size)) (isInstance (.ref (s.heap.objs.size + 1)) (.type "object")) true := t1.andThen (Y.top.keeps fun b o e => Heap.get?_push_of_some _ (Heap.get?_push_of_some _ e))
  refine wpAny_call (make_map0 I.kIn M.makes M.init (fun self => PySem.W.Looks.of_pure (PySem.W.oi_bind self)) ?_)
  refine codeAny_call_builtin PySem.W.oi_plain PySem.W.entry_oi (@PySem.W.check_slot (model X.prog X.w) _ _ _ "object.__init__" "object" "__init__" (.ref (s.heap.objs.size + 1)) [] [] _ PySem.W.oi_kind PySem.W.oi_split t2 (PySem.W.oi_args (.ref (s.heap.objs.size + 1))) ?_)
  rw [PySem.W.oi_run]
  exact wpAny_pure (And.intro rfl ⟨.ref (s.heap.objs.size + 1), _, I2, rfl, hq⟩)
end
end Lk

namespace Lk
open PySem PySem.Spec PyProof.Rows L2
/-! ### d.get(None, x) of a dict whose keys are ints and texts -/
theorem leaf_of_mix {P : Program} {w : World} {k : Key} {v : Value} (h : (mixKind P w).is k v = true) : ∃ l : Leaf, (leafKind P w).is l v = true ∧ (leafKind P w).hash l = (mixKind P w).hash k ∧ l ≠ .none := by
  rcases keyIs_shape (show keyIs k v = true from h) with ⟨i, t, rfl, rfl⟩ | ⟨x, t, rfl, rfl⟩
  · exact ⟨.num i, decide_eq_true rfl, rfl, fun e => by cases e⟩
  · refine ⟨.text x, ?_, rfl, fun e => by cases e⟩
    show Value.isStrOf x (.str x t) = true
    simp [Value.isStrOf]
theorem map_none {P : Program} {w : World} {h : Heap} {a : Addr} {vs : List (Key × Value)} (d : h.DictOf (mixKind P w) a vs) : ∃ f, h.MapOf (leafKind P w) a f ∧ f .none = none := by
  obtain ⟨o, es, ep, e1, e2, e3, e4, e5⟩ := d.mapOf
  refine ⟨fun k => findBy (leafKind P w).is es k, ⟨o, es, ep, e1, e2, e3, fun e he => ?_, fun _ => rfl⟩, ?_⟩
  · obtain ⟨k, hk, hh⟩ := e4 e he
    obtain ⟨l, q1, q2, _⟩ := leaf_of_mix hk
    exact ⟨l, q1, hh.trans q2.symm⟩
  · show (es.find? fun e => Leaf.isOf .none e.key).map (·.val) = none
    rw [Option.map_eq_none_iff, Array.find?_eq_none]
    intro e he q
    obtain ⟨k, hk, _⟩ := e4 e he
    rcases keyIs_shape (show keyIs k e.key = true from hk) with ⟨i, t, _, z⟩ | ⟨x, t, _, z⟩ <;> (rw [z] at q; exact Bool.noConfusion (show false = true from q))
section
variable {X : Cx} {pins : List (Addr × Obj)} {σ : L2.St} {H : Hp} {s : Shared}
theorem d_get2N {a : Addr} {r : Value} {kvs : List (Key × V)} {A : Around} {E : Value → Shared → Prop} {Q : Value → Shared → Prop} (I : Inv X pins σ H s) (e : H a = some (.dK kvs)) (h : ∀ s', Inv X pins σ H s' → Q r s') :
    wpAny (model X.prog X.w) A (call (.builtin "dict.get") [.ref a, .none, r]) Q E s := by
  obtain ⟨z, hd, vs, rel, dd⟩ := dk_of I.hok e
  obtain ⟨f, mf, fn⟩ := map_none dd
  refine call_meetsIn PySem.F.slot_dict_get dd.typeIs PySem.F.entry_dict_get (PySem.F.args_dict_get_3 _ _ _) (meets_dict_get_default (leafKind X.prog X.w) a (show (leafKind X.prog X.w).is Leaf.none Value.none = true from rfl) hd r) ⟨f, mf, ?_⟩
  rw [fn]
  exact h _ (I.tok _)
/-- d.get(y, x) of hands: y a key, or None -/
def tDGetN (td ty tx : TE) : TE := fun σ H Q => td σ H fun x H1 => ∃ a kvs, x = .ref a ∧ H1 a = some (.dK kvs) ∧ ty σ H1 fun y H2 => tx σ H2 fun z H3 => ∃ kvs, H3 a = some (.dK kvs) ∧
  ((∃ k : Int, y = .int k ∧ Q ((valV kvs (Sum.inl k)).getD z) H3) ∨ (y = .non ∧ Q z H3))
theorem pe_dgetN {o e f : Expr} {apos cpos : Pos} {td ty tx : TE} (hu : X.A.units + 1 < cLine) (ho : PE X o td) (he : PE X e ty) (hf : PE X f tx) (m : M2 X o "get" apos e f cpos) : PE X (.Call (.Attribute o "get" apos) [e, f] [] cpos) (tDGetN td ty tx) := by
  refine ⟨fun pins s σ H Q I h => ?_⟩
  refine wpAny_Call_method m.base m.few m.line PySem.F.plainAttrs_dict PySem.F.slot_dict_get PySem.F.type_dict_get (thn (ho.run pins s σ H _ I h) fun u s1 ⟨x, H1, I1, rx, a, kvs, ex, d, q1⟩ => ?_)
  subst ex
  obtain rfl : u = Value.ref a := rx
  obtain ⟨t1, t2, _⟩ := isD_at I1 (.inl ⟨kvs, .inl d⟩)
  refine ⟨t1, t2, ?_⟩
  rw [m.trees]
  refine Calls.callWith_builtin rfl (Calls.evalArgs_plain (Calls.spliced_cons (thn (he.run pins s1 σ H1 _ I1 q1) fun iv s2 ⟨y, H2, I2, ry, q2⟩ =>
    Calls.spliced_cons (thn (hf.run pins s2 σ H2 _ I2 q2) fun fv s3 ⟨z, H3, I3, rz, kv3, e3, q3⟩ => Calls.spliced_nil ?_))))
  rcases q3 with ⟨k, rfl, q3⟩ | ⟨rfl, q3⟩
  · exact d_get2 hu I3 (DGet.k (k := Sum.inl k) e3) ry rz fun w' s4 I4 rw' => ⟨_, H3, I4, rw', q3⟩
  · cases ry
    exact d_get2N I3 e3 fun s4 I4 => ⟨z, H3, I4, rz, q3⟩
end
/-! ### enumerate(tuple) -/
theorem meets_enumerate_new1 {v : Value} {o : Obj} {H : Heap → Prop} (B : Begins v o H) :
    Meets (Builtin.«enumerate.__new__» ⟨[.type "enumerate", v], []⟩) (fun _ R s => H s.heap ∧
      R (.ok (.ret (.ref (s.heap.push o).objs.size))) { s with heap := (s.heap.push o).push { cls := .type "enumerate", data := .fields #[.none, .bool false, .ref s.heap.objs.size, rawInt 0, .none, .none] } }) :=
  .of_wp fun prog w A R s h => by
    obtain ⟨hp, g, d, tk, os⟩ := s; obtain ⟨h1, h⟩ := h
    have hsub := sub_enumerate
    have q1 : ∀ {A' : Around} {E : Value → Shared → Prop} {Q : Value → Shared → Prop}, Q (.ref hp.objs.size) ⟨hp.push o, g, d, tk, os⟩ → wpAny (model prog w) A' (pyIter v) Q E ⟨hp, g, d, tk, os⟩ :=
      fun q => B.iter prog w _ _ ⟨hp, g, d, tk, os⟩ _ h1 q
    wp_walk using q1
    refine wpAny_stack_any fun st => wpAny_pure ?_
    split
    · rename_i c _ _ _ _ _
      cases (c == Value.type "enumerate")
      · wp_walk using q1
        exact ⟨_, rfl, h⟩
      · wp_walk using q1
        exact ⟨_, rfl, h⟩
    · wp_walk using q1
      exact ⟨_, rfl, h⟩
theorem enum_begins1 {prog : Program} {w : World} {A : Around} {E : Value → Shared → Prop} {s : Shared} {v : Value} {o : Obj} {H : Heap → Prop} {Q : Value → Shared → Prop} (B : Begins v o H) (h1 : H s.heap)
    (h : ∀ h', IsEnum h' (s.heap.objs.size + 1) s.heap.objs.size 0 .none → h'.get? s.heap.objs.size = some o → h'.objs.size = s.heap.objs.size + 2 →
      (∀ b o, s.heap.get? b = some o → h'.get? b = some o) → Q (.ref (s.heap.objs.size + 1)) { s with heap := h' }) :
    wpAny (model prog w) A (call (.type "enumerate") [v]) Q E s := by
  refine callType_new PySem.F.called_enumerate (by decide) (PySem.F.typeCall_enumerate_1 _) (PySem.F.newCall_enumerate_1 _) (fun obj => PySem.F.args_object_init_2 obj _) PySem.F.entry_enumerate_new
    (meets_enumerate_new1 B) ⟨h1, ?_⟩
  have hz : (s.heap.push o).objs.size = s.heap.objs.size + 1 := Heap.size_push ..
  show _ ∧ _
  rw [hz]
  have he : IsEnum ((s.heap.push o).push { cls := .type "enumerate", data := .fields #[.none, .bool false, .ref s.heap.objs.size, rawInt 0, .none, .none] }) (s.heap.objs.size + 1) s.heap.objs.size 0 .none := by
    have := Heap.get?_push_size (s.heap.push o) (o := { cls := .type "enumerate", data := .fields #[.none, .bool false, .ref s.heap.objs.size, rawInt 0, .none, .none] }) rfl
    rw [hz] at this; exact this
  refine ⟨⟨_, he, rfl⟩, h _ he (Heap.get?_push_of_some _ (Heap.get?_push_size _ B.free)) (by rw [Heap.size_push, hz]) fun b o x => Heap.get?_push_of_some _ (Heap.get?_push_of_some _ x)⟩
/-- the tuple at a, each item in a new pair -/
def IteT (K : PySem.W.Frag) (a : Addr) : It :=
  ⟨fun i H => ∃ (xs : List V) (x : V), SqT K H a xs ∧ xs[i]? = some x, fun i H v H' => ∃ T x, v = .ref T ∧ H T = none ∧ H' = upd H T (.tup [.int (i : Nat), x]) ∧ ∀ xs, SqT K H a xs → xs[i]? = some x, fun i H => ∃ xs : List V, SqT K H a xs ∧ xs.length = i⟩
theorem turn_enumT {P : Program} {w : World} {K : PySem.W.Frag} {elts : List Expr} {kk : Nat} {tpos : Pos} (a e it : Addr) :
    Turn P w K (.Tuple elts kk tpos) (IteT K a) [e, it] e (fun i h => (∃ old, IsEnum h e it ((i : Nat) : Int) old) ∧ h.IsTupleIter it a i ∧ e ≠ it) where
  mem := by simp
  obj := fun i h st b hb => by
    obtain ⟨⟨old, he⟩, ⟨o, ho, hc, hd⟩, _⟩ := st
    have e' : b = e ∨ b = it := by simpa using hb
    rcases e' with z | z
    · rw [z]; exact ⟨_, he, fun v q => nomatch q⟩
    · rw [z]; exact ⟨o, ho, fun v q => by rw [hd] at q; cases q⟩
  keep := fun i h h' st k => let ⟨⟨old, he⟩, hi, hne⟩ := st; ⟨⟨old, k e (by simp) _ he⟩, hi.at fun o q => k it (by simp) o q, hne⟩
  item := by
    intro X hP hw hK hc i pins s σ H E I hf st hg
    subst hP hw hK
    obtain ⟨⟨old, he⟩, hit, hne⟩ := st
    obtain ⟨xs, x, hq, hx⟩ := hg
    obtain ⟨its, rv, p, hz⟩ := I.tuple hq
    obtain ⟨u, hu, ru⟩ := rv.get hx
    have hel : e < s.heap.objs.size := Heap.lt_size he
    have hil : it < s.heap.objs.size := by obtain ⟨_, q, _⟩ := hit; exact Heap.lt_size q
    have hae : e ≠ a := fun z => by
      obtain ⟨o, ho, hc', _⟩ := p
      rw [← z] at ho
      rw [show s.heap.get? e = some _ from he] at ho
      cases ho
      exact absurd hc' (by intro q; injection q with q; exact absurd q (by decide))
    have hai : a ≠ it := fun z => by
      obtain ⟨o, ho, hc', _⟩ := p
      obtain ⟨o2, ho2, hc2, _⟩ := hit
      rw [z, ho2] at ho
      cases ho
      rw [hc2] at hc'
      exact absurd hc' (by intro q; injection q with q; exact absurd q (by decide))
    have D := Draws.tuple (prog := X.prog) (w := X.w) (A := X.A.in1) (I.ok.hd hc) it a hai its.toArray
    have hi : i < its.toArray.size := by
      have := (List.getElem?_eq_some_iff.mp hu).1
      simpa using this
    refine wpAny_pyNext_enum_itemC D he ⟨hit, p⟩ hi hne (by simp [hne, hae]) fun x' h' tk hP' ho hst' hT hsz hk => ?_
    have ex : x' = u := by
      have q : its.toArray[i]? = some x' := hP'
      rw [List.getElem?_toArray, hu] at q
      exact (Option.some.inj q).symm
    subst ex
    refine ⟨_, rfl, wpAny_letOwnedTupleGo_enum (s := { s with heap := h', toks := tk + 1 }) ho fun h'' he' sb => ?_⟩
    have hT2 : h''.get? s.heap.objs.size = some { cls := .type "tuple", data := .seq #[.int i tk, x'] } := (sb.2 _ (Nat.ne_of_gt hel)).trans hT
    have new : ObjOk X.prog X.w (upd H s.heap.objs.size (.tup [.int (i : Nat), x])) h'' s.heap.objs.size (.tup [.int (i : Nat), x]) :=
      ⟨by show 2 ≤ sizeLine; decide, [.int i tk, x'], .cons ⟨_, rfl⟩ (.cons ru .nil), ⟨_, hT2, rfl, _, rfl⟩⟩
    have I1 : Inv X pins σ (upd H s.heap.objs.size (.tup [.int (i : Nat), x])) { s with heap := h'', toks := tk + 1 } :=
      I.turnedNew (ch := [e, it]) (fun b ob hb q => (sb.2 b (fun z => hb (by simp [z]))).trans (hk b ob (fun z => hb (by simp [z])) (fun z => hb (by simp [z])) q)) hf (Nat.le_refl _) new
    refine ⟨.ref s.heap.objs.size, _, I1, rfl, ⟨_, x, rfl, I.hok.fresh (Nat.le_refl _), rfl, fun ys hy => by rw [I.tuple_inj hy hq]; exact hx⟩, ⟨⟨x', ?_⟩, hst'.1.at fun o q => (sb.2 it (Ne.symm hne)).trans q, hne⟩, fun b hb => ?_⟩
    · have e1 : ((i + 1 : Nat) : Int) = (i : Int) + 1 := by omega
      rw [e1]; exact he'
    · have hb' : b < s.heap.objs.size := by
        have e' : b = e ∨ b = it := by simpa using hb
        rcases e' with z | z
        · rw [z]; exact hel
        · rw [z]; exact hil
      rw [upd_ne (Nat.ne_of_lt hb')]
      exact (hf b hb).1
  done := by
    intro X hP hw hK hc i pins s σ H E I hf st hg
    subst hP hw hK
    obtain ⟨⟨old, he⟩, hit, hne⟩ := st
    obtain ⟨xs, hq, hx⟩ := hg
    obtain ⟨its, rv, p, hz⟩ := I.tuple hq
    obtain ⟨f0, f1, f2, f3, f4, f5⟩ := hf it (by simp)
    have hl := rv.length
    have hai : a ≠ it := fun z => by
      obtain ⟨o, ho, hc', _⟩ := p
      obtain ⟨o2, ho2, hc2, _⟩ := hit
      rw [z, ho2] at ho
      cases ho
      rw [hc2] at hc'
      exact absurd hc' (by intro q; injection q with q; exact absurd q (by decide))
    have D := Draws.tuple (prog := X.prog) (w := X.w) (A := X.A.in1) (I.ok.hd hc) it a hai its.toArray
    have hn : its.toArray.size = i := by rw [List.size_toArray, ← hl, hx]
    rw [hn] at D
    exact wpAny_pyNext_enum_endD D he ⟨hit, p⟩ fun h' eb => ⟨rfl, I.turned (t' := s.toks) (fun b o hb q => eb b o hb q) f0 f1 f3 f4 f5⟩
  self := fun A i s Q E st h => let ⟨⟨_, he⟩, _⟩ := st; wpAny_pyIter_enum he h
def iEnumT (K : PySem.W.Frag) (ta : TA) : TI := fun σ H R => ta σ H fun vs H1 => ∃ a xs, vs = [.ref a] ∧ SqT K H1 a xs ∧ R (IteT K a) H1
theorem pi_enumT {X : Cx} {e : Expr} {ta : TA} {p pos tpos : Pos} {elts : List Expr} {kk : Nat} (hg : Gl X "enumerate") (hm : X.mg "enumerate" = none) (ha : PA X [e] ta) (hs : starEach [e] X.env = [(false, eval e X.env)] := by rfl) :
    PI X (.Tuple elts kk tpos) (.Call (.Name "enumerate" p) [e] [] pos) (iEnumT X.K ta) := by
  refine ⟨fun pins s σ H R I h => ?_⟩
  refine Call_ (ld_blt I hg hm boot_enumerate (PyProof.Rows.callWith_type1 (thn (ha.run pos pins s σ H _ I h) fun us s1 ⟨vs, H1, I1, r1, q1⟩ => ?_) hs rfl))
  obtain ⟨a, xs, ex, hq, q⟩ := q1
  subst ex
  cases r1 with
  | cons r rr =>
    cases rr
    cases r
    obtain ⟨its, rv, p', hz⟩ := I1.tuple hq
    refine enum_begins1 (begins_tuple a its.toArray) p' fun h' he hit hsz hk => wpAny_pyIter_enum he ?_
    have I2 : Inv X pins σ H1 { s1 with heap := h' } := I1.kept (t' := s1.toks) hk
    refine ⟨s1.heap.objs.size + 1, [s1.heap.objs.size + 1, s1.heap.objs.size], _, _, H1, rfl, I2, turn_enumT a (s1.heap.objs.size + 1) s1.heap.objs.size, ⟨⟨.none, he⟩, ⟨_, hit, rfl, rfl⟩, Nat.succ_ne_self _⟩, fun b hb => ?_, q⟩
    have e' : b = s1.heap.objs.size + 1 ∨ b = s1.heap.objs.size := by simpa using hb
    have hle : s1.heap.objs.size ≤ b := by
      rcases e' with z | z
      · rw [z]; exact Nat.le_add_right _ _
      · rw [z]; exact Nat.le_refl _
    exact I1.fpOk hle (I1.hok.fresh hle)
end Lk

namespace Lk
open PySem PySem.Spec PyProof.Rows L2
/-! ### what the top has written -/
structure Top (K : PySem.W.Frag) (mg : Str → Option Value) : Prop where
  says : He.SaysD fa fn K
  bare : bareB K = true
  glob : ∃ h : Heap, K.In h ∧ h.Ns mainGlobals mg
/-- a def that keeps its promise, as its callers want it -/
structure Ok (P : Program) (w : World) (K : PySem.W.Frag) (mg : Str → Option Value) (base : Heap) (k : Nat) (x : Str) (ps : List Str) (dvs : List V) (sp : Sp) : Prop where
  ex : ∃ fd ds, FnOk P w K mg base CX0 k (He.ga K x) fd ps sp ∧ Vals dvs ds ∧ Binds K fd ps ds
  kp : PySem.W.keepIn K (.ref (He.ga K x)) = true
  gl : mg x = some (.ref (He.ga K x))
section
variable {K : PySem.W.Frag} {mg : Str → Option Value}
theorem Top.glo (T : Top K mg) (i : Nat) {x : Str} (h : fa[i]? = some (.glo x) := by rfl) : mg x = some (.ref (He.ga K x)) := let ⟨_, X, G⟩ := T.glob; He.glo_ok X G (T.says.fact i h)
theorem Top.free (T : Top K mg) (i : Nat) {x : Str} (h : fa[i]? = some (.free x) := by rfl) : mg x = none := let ⟨_, X, G⟩ := T.glob; He.free_ok X G (T.says.fact i h)
theorem Top.int (T : Top K mg) (i : Nat) {x : Str} {n : Int} (h : fa[i]? = some (.int x n) := by rfl) : ∃ t, mg x = some (.int n t) := let ⟨_, X, G⟩ := T.glob; He.int_ok X G (T.says.fact i h)
theorem Top.cls (T : Top K mg) (i : Nat) {x : Str} (h : fa[i]? = some (.cls x) := by rfl) : Cls K (He.ga K x) := He.cls_ok (T.says.fact i h)
theorem Top.noat (T : Top K mg) (i : Nat) {x f : Str} (h : fa[i]? = some (.noat x f) := by rfl) : NoAttr K (He.ga K x) f := He.noat_ok (T.says.fact i h)
theorem Top.meth (T : Top K mg) (i : Nat) {x m : Str} (h : fa[i]? = some (.meth x m) := by rfl) : Meth K (He.ga K x) m (He.ma K (He.ga K x) m) := He.meth_ok (T.says.fact i h)
theorem Top.mkr (T : Top K mg) (i : Nat) {x : Str} (h : fa[i]? = some (.mkr x) := by rfl) : Mk K (He.ga K x) (He.ma K (He.ga K x) "__init__") := He.mkr_ok (T.says.fact i h)
theorem bare1_ok {x : Str} (h : bare1 K x = true) : Mk0 K (He.ga K x) := by
  obtain ⟨h1, h2⟩ := He.ba h
  obtain ⟨h2, h3⟩ := He.ba h2
  exact ⟨h1, He.eqO_ok h2, h3⟩
variable {P : Program} {w : World} {base : Heap}
theorem Top.ok (T : Top K mg) {d : He.DefD} (i j : Nat) (hi : fn[i]? = some d) (hj : fa[j]? = some (.glo d.name)) (hat : d.at_ = (d.name, none)) (hd : d.dfl = []) (hk : d.kwd = []) {N ps : List Str} {k : Nat} {sp : Sp} (S : FnScope N ps d.scope)
    (hb : ∀ (kV doc pm : Value) (an : Option Addr) (cdv ct : Value) (us : List Value), us.length = ps.length → bindArgs (PySem.W.fnOf d.name d.qual d.params d.body d.scope .none kV doc pm an cdv ct) ⟨us, []⟩ = pure (ps.zip us))
    (len : ∀ vs H Q E, sp vs H Q E → vs.length = ps.length)
    (hbody : ∀ (cdv : Value) (A : Around) (outer : List Env) (s : Shared) (H : Hp) (vs : List V) (Q : VK) (E : XK), Room k (A.deeper (envOfC d.qual d.scope s.heap.objs.size (He.ga K d.name) cdv)) → sp vs H Q E →
      ∃ t, PSs (cxOf CX0 P w K mg base N d.qual d.scope (He.ga K d.name) cdv A outer s H E).nox d.body t ∧ t { nx := fun _ H' => Q .non H', rt := Q } (start N vs) H) : Ok P w K mg base (k + 1) d.name ps [] sp := by
  obtain ⟨fd, F⟩ := T.says.def_ i hi
  have ea : He.fAd K d.at_ = He.ga K d.name := by rw [hat]; rfl
  rw [ea] at F
  have e1 : d.dvs K = [] := by unfold He.DefD.dvs; rw [hd]; rfl
  have e2 : d.kws K = [] := by unfold He.DefD.kws; rw [hk]; rfl
  rw [e1, e2] at F
  refine ⟨⟨fd, [], F.ok S len fun cdv A outer s H vs Q E hr h => ?_, .nil, F.bindsN hb⟩, F.kp, T.glo j hj⟩
  obtain ⟨t, h1, h2⟩ := hbody cdv A outer s H vs Q E hr h
  exact ⟨t, h1.nox, h2⟩
/-- the same of a def with defaults that is called with all its arguments -/
theorem Top.okD (T : Top K mg) {d : He.DefD} (i j : Nat) (hi : fn[i]? = some d) (hj : fa[j]? = some (.glo d.name)) (hat : d.at_ = (d.name, none)) (hk : d.kwd = []) {N ps : List Str} {k : Nat} {sp : Sp} (hd : d.dvs K ≠ []) (S : FnScope N ps d.scope)
    (hb : ∀ (T : Addr) (kV doc pm : Value) (an : Option Addr) (cdv ct : Value) (us its : List Value), us.length = ps.length → its.length = (d.dvs K).length →
      ∃ k, bindArgs (PySem.W.fnOf d.name d.qual d.params d.body d.scope (.ref T) kV doc pm an cdv ct) ⟨us, []⟩ = seqItems? (.ref T) >>= k ∧ k (some its.toArray) = pure (ps.zip (us ++ its.drop (d.dvs K).length)))
    (len : ∀ vs H Q E, sp vs H Q E → vs.length = ps.length)
    (hbody : ∀ (cdv : Value) (A : Around) (outer : List Env) (s : Shared) (H : Hp) (vs : List V) (Q : VK) (E : XK), Room k (A.deeper (envOfC d.qual d.scope s.heap.objs.size (He.ga K d.name) cdv)) → sp vs H Q E →
      ∃ t, PSs (cxOf CX0 P w K mg base N d.qual d.scope (He.ga K d.name) cdv A outer s H E).nox d.body t ∧ t { nx := fun _ H' => Q .non H', rt := Q } (start N vs) H) : Ok P w K mg base (k + 1) d.name ps [] sp := by
  obtain ⟨fd, F⟩ := T.says.def_ i hi
  have ea : He.fAd K d.at_ = He.ga K d.name := by rw [hat]; rfl
  rw [ea] at F
  have e2 : d.kws K = [] := by unfold He.DefD.kws; rw [hk]; rfl
  rw [e2] at F
  obtain ⟨ds, v, b⟩ := F.binds1 (ps := ps) ps.length (d.dvs K).length hd (by omega) hb
  rw [List.drop_eq_nil_of_le (Nat.le_refl _)] at v
  refine ⟨⟨fd, ds, F.ok S len fun cdv A outer s H vs Q E hr h => ?_, v, b⟩, F.kp, T.glo j hj⟩
  obtain ⟨t, h1, h2⟩ := hbody cdv A outer s H vs Q E hr h
  exact ⟨t, h1.nox, h2⟩
/-- f(..) of a def that keeps its promise -/
theorem pe_cl {X : Cx} {k : Nat} {x : Str} {ps : List Str} {dvs : List V} {sp : Sp} {p pos : Pos} {e : Expr} {es : List Expr} {t : TA} (O : Ok X.prog X.w X.K X.mg X.base k x ps dvs sp) (hr : Room k X.A) (hg : Gl X x) (ha : PA X (e :: es) t) (hdb : (x == ("__debug__" : Str)) = false := by decide)
    (he : starEach (e :: es) X.env = (false, eval e X.env) :: starEach es X.env := by rfl) (hpl : (backTo pos (starEach es X.env)).any (·.1) = false := by rfl) : PE X (.Call (.Name x p) (e :: es) [] pos) (tCall sp dvs E0 t) := by
  obtain ⟨fd, ds, F, hd, hb⟩ := O.ex
  exact pe_call F hr hg O.gl O.kp hb hd pass0 ha hdb he hpl
end
end Lk

namespace Lk
open PySem PySem.Spec PyProof.Rows L2
/-! ### the layer's rules with the written part K said outright -/
section
variable {X : Cx} (K : PySem.W.Frag)
theorem ixL (h : X.K = K := by rfl) : IxR X (rIxL K) := by subst h; exact ix_list
theorem ixT (h : X.K = K := by rfl) : IxR X (rIxT K) := by subst h; exact ix_tup
theorem slL (h : X.K = K := by rfl) : SlR X (rSlL K) := by subst h; exact sl_list
theorem inS (h : X.K = K := by rfl) : OpR X (compareOp .In) (rIn K false) := by subst h; exact op_in_seq
theorem niS (h : X.K = K := by rfl) : OpR X (compareOp .NotIn) (rIn K true) := by subst h; exact op_notIn_seq
theorem catA (h : X.K = K := by rfl) : OpR X (binaryOp .Add) (rCatA K) := by subst h; exact op_catA
theorem eqD (hu : X.A.units + 64 < cLine) (h : X.K = K := by rfl) : OpR X (compareOp .Eq) (rEqD K) := by subst h; exact op_eqD hu
theorem neD (hu : X.A.units + 64 < cLine) (h : X.K = K := by rfl) : OpR X (compareOp .NotEq) (rNeD K) := by subst h; exact op_neD hu
theorem gtP (hu : X.A.units + 64 < cLine) (h : X.K = K := by rfl) : OpR X (compareOp .Gt) (rGtP K) := by subst h; exact op_gtP hu
theorem leP (hu : X.A.units + 64 < cLine) (h : X.K = K := by rfl) : OpR X (compareOp .LtE) (rLeP K) := by subst h; exact op_leP hu
theorem gtI (hu : X.A.units + 64 < cLine) (h : X.K = K := by rfl) : OpR X (compareOp .Gt) (rGtI K) := by subst h; exact op_gtI hu
theorem getL (h : X.K = K := by rfl) : PGet X (rGetL K) := by subst h; exact get_list
theorem mIndex (h : X.K = K := by rfl) : MtR X "list.index" (rIndex K) := by subst h; exact mt_index
theorem wList {tg l : Expr} {tl : TE} (hl : PE X l tl) (h : X.K = K := by rfl) : PI X tg l (iList K tl) := by subst h; exact pi_list hl
theorem wEnum {e : Expr} {ta : TA} {p pos tpos : Pos} {elts : List Expr} {kk : Nat} (hm : X.mg "enumerate" = none) (ha : PA X [e] ta) (hg : Gl X "enumerate" := by rfl) (hs : starEach [e] X.env = [(false, eval e X.env)] := by rfl) (h : X.K = K := by rfl) :
    PI X (.Tuple elts kk tpos) (.Call (.Name "enumerate" p) [e] [] pos) (iEnum K ta) := by subst h; exact pi_enum hg hm ha hs
theorem wEnumT {e : Expr} {ta : TA} {p pos tpos : Pos} {elts : List Expr} {kk : Nat} (hm : X.mg "enumerate" = none) (ha : PA X [e] ta) (hg : Gl X "enumerate" := by rfl) (hs : starEach [e] X.env = [(false, eval e X.env)] := by rfl) (h : X.K = K := by rfl) :
    PI X (.Tuple elts kk tpos) (.Call (.Name "enumerate" p) [e] [] pos) (iEnumT K ta) := by subst h; exact pi_enumT hg hm ha hs
theorem gT2 {es : List Expr} {k : Nat} {pos : Pos} {t : TGs} {n : Nat} (g : PGs X es t) (hc : X.calm = true := by rfl) (hn : (assignEach es X.env).length = n := by rfl) (hst : (assignEach es X.env).findIdx? (·.1) = none := by rfl) (h : X.K = K := by rfl) : PG X (.Tuple es k pos) (gTup K n t) := by
  subst h; exact pg_tup hc g hn hst
theorem eFld {e : Expr} {f : Str} {pos : Pos} {ta : TE} (he : PE X e ta) (hb : attributeBase e f X.env (eval e X.env) = eval e X.env := by rfl) (h : X.K = K := by rfl) : PE X (.Attribute e f pos) (tFld K ta f) := by subst h; exact pe_fld he hb
theorem sFldK {o value : Expr} {f : Str} {pos pos' : Pos} {ta tv : TE} (ha : PE X o ta) (hv : PE X value tv) (hs : swapsWith value (some (.Attribute o f pos')) pos.line X.env = pure false := by rfl) (h : X.K = K := by rfl) : PS X (.Assign [.Attribute o f pos'] value pos) (sFld K ta tv f) := by
  subst h; exact ps_fld ha hv hs
/-- a built-in list's method -/
theorem eBM0 {o : Expr} {to : TE} {name : Str} {apos cpos : Pos} {T id : String} {r : V → List V → Hp → VK → Prop} (pa : PlainAttrs T) (slot : Slot T name id) (hty : typeOf (.builtin id) = pure (.type "method_descriptor")) (hm : MtR X id r) (ho : PE X o to)
    (hbase : attributeBase o name X.env (eval o X.env) = eval o X.env := by rfl) (hline : (apos.endLine == cpos.line) = true := by rfl) (h : X.K = K := by rfl) : PE X (.Call (.Attribute o name apos) [] [] cpos) (tBM0 K T r to) := by
  subst h; exact pe_bm0 pa slot hty hm ho hbase hline
theorem eBM {o e : Expr} {es : List Expr} {to : TE} {t : TA} {name : Str} {apos cpos : Pos} {T id : String} {r : V → List V → Hp → VK → Prop} (pa : PlainAttrs T) (slot : Slot T name id) (hty : typeOf (.builtin id) = pure (.type "method_descriptor")) (hm : MtR X id r) (ho : PE X o to) (ha : PA X (e :: es) t)
    (hbase : attributeBase o name X.env (eval o X.env) = eval o X.env := by rfl)
    (hfew : ((backTo cpos (starEach (e :: es) X.env)).all (fun x => !x.1) && (backToKw cpos (keywordEach [] X.env)).all (fun x => x.1.isSome)
      && decide ((e :: es).length + ([] : List Keyword).length + (if ([] : List Keyword).isEmpty then 0 else 1) < 30)) = true := by rfl)
    (hline : (apos.endLine == cpos.line) = true := by rfl) (hs : starEach (e :: es) X.env = (false, eval e X.env) :: starEach es X.env := by rfl) (hplain : (backTo cpos (starEach es X.env)).any (·.1) = false := by rfl) (h : X.K = K := by rfl) :
    PE X (.Call (.Attribute o name apos) (e :: es) [] cpos) (tBM K T r to t) := by
  subst h; exact pe_bm pa slot hty hm ho ha hbase hfew hline hs hplain
variable {p pos : Pos} {e e2 : Expr} {t : TA} {es : List Expr}
theorem boot_sum : bootBuiltins "sum" = some (.builtin "sum") := by decide +kernel
theorem boot_any : bootBuiltins "any" = some (.builtin "any") := by decide +kernel
theorem boot_all : bootBuiltins "all" = some (.builtin "all") := by decide +kernel
theorem boot_sorted : bootBuiltins "sorted" = some (.builtin "sorted") := by decide +kernel
theorem boot_min : bootBuiltins "min" = some (.builtin "min") := by decide +kernel
theorem boot_max : bootBuiltins "max" = some (.builtin "max") := by decide +kernel
theorem boot_divmod : bootBuiltins "divmod" = some (.builtin "divmod") := by decide +kernel
theorem boot_isinstance : bootBuiltins "isinstance" = some (.builtin "isinstance") := by decide +kernel
theorem boot_list : bootBuiltins "list" = some (.type "list") := by decide +kernel
theorem cLen (hm : X.mg "len" = none) (ha : PA X (e :: es) t) (hg : Gl X "len" := by rfl) (he : starEach (e :: es) X.env = (false, eval e X.env) :: starEach es X.env := by rfl) (hpl : (backTo pos (starEach es X.env)).any (·.1) = false := by rfl) (h : X.K = K := by rfl) :
    PE X (.Call (.Name "len" p) (e :: es) [] pos) (tCB (Evl.rLenS K) t) := by subst h; exact pe_callB call_len_seq hg hm PySem.boot_len ha (he := he) (hpl := hpl)
theorem cSum (hm : X.mg "sum" = none) (ha : PA X (e :: es) t) (hg : Gl X "sum" := by rfl) (hc : X.calm = true := by rfl) (he : starEach (e :: es) X.env = (false, eval e X.env) :: starEach es X.env := by rfl) (hpl : (backTo pos (starEach es X.env)).any (·.1) = false := by rfl) (h : X.K = K := by rfl) :
    PE X (.Call (.Name "sum" p) (e :: es) [] pos) (tCB (rSum K) t) := by subst h; exact pe_callB (cr_sum hc) hg hm boot_sum ha (he := he) (hpl := hpl)
theorem cAny (hm : X.mg "any" = none) (ha : PA X (e :: es) t) (hg : Gl X "any" := by rfl) (hc : X.calm = true := by rfl) (he : starEach (e :: es) X.env = (false, eval e X.env) :: starEach es X.env := by rfl) (hpl : (backTo pos (starEach es X.env)).any (·.1) = false := by rfl) (h : X.K = K := by rfl) :
    PE X (.Call (.Name "any" p) (e :: es) [] pos) (tCB (rAny K) t) := by subst h; exact pe_callB (cr_any hc) hg hm boot_any ha (he := he) (hpl := hpl)
theorem cAll (hm : X.mg "all" = none) (ha : PA X (e :: es) t) (hg : Gl X "all" := by rfl) (hc : X.calm = true := by rfl) (he : starEach (e :: es) X.env = (false, eval e X.env) :: starEach es X.env := by rfl) (hpl : (backTo pos (starEach es X.env)).any (·.1) = false := by rfl) (h : X.K = K := by rfl) :
    PE X (.Call (.Name "all" p) (e :: es) [] pos) (tCB (rAll K) t) := by subst h; exact pe_callB (cr_all hc) hg hm boot_all ha (he := he) (hpl := hpl)
theorem cSorted (hm : X.mg "sorted" = none) (ha : PA X (e :: es) t) (hg : Gl X "sorted" := by rfl) (he : starEach (e :: es) X.env = (false, eval e X.env) :: starEach es X.env := by rfl) (hpl : (backTo pos (starEach es X.env)).any (·.1) = false := by rfl) (h : X.K = K := by rfl) :
    PE X (.Call (.Name "sorted" p) (e :: es) [] pos) (tCB (rSorted K) t) := by subst h; exact pe_callB cr_sorted hg hm boot_sorted ha (he := he) (hpl := hpl)
theorem cSortedP (hm : X.mg "sorted" = none) (ha : PA X (e :: es) t) (hg : Gl X "sorted" := by rfl) (he : starEach (e :: es) X.env = (false, eval e X.env) :: starEach es X.env := by rfl) (hpl : (backTo pos (starEach es X.env)).any (·.1) = false := by rfl) (h : X.K = K := by rfl) :
    PE X (.Call (.Name "sorted" p) (e :: es) [] pos) (tCB (rSortedP K) t) := by subst h; exact pe_callB cr_sortedP hg hm boot_sorted ha (he := he) (hpl := hpl)
theorem cMin (hm : X.mg "min" = none) (ha : PA X (e :: es) t) (hg : Gl X "min" := by rfl) (hc : X.calm = true := by rfl) (he : starEach (e :: es) X.env = (false, eval e X.env) :: starEach es X.env := by rfl) (hpl : (backTo pos (starEach es X.env)).any (·.1) = false := by rfl) (h : X.K = K := by rfl) :
    PE X (.Call (.Name "min" p) (e :: es) [] pos) (tCB (rMin K) t) := by subst h; exact pe_callB (cr_min hc) hg hm boot_min ha (he := he) (hpl := hpl)
theorem cMax (hm : X.mg "max" = none) (ha : PA X (e :: es) t) (hg : Gl X "max" := by rfl) (hc : X.calm = true := by rfl) (he : starEach (e :: es) X.env = (false, eval e X.env) :: starEach es X.env := by rfl) (hpl : (backTo pos (starEach es X.env)).any (·.1) = false := by rfl) (h : X.K = K := by rfl) :
    PE X (.Call (.Name "max" p) (e :: es) [] pos) (tCB (rMax K) t) := by subst h; exact pe_callB (cr_max hc) hg hm boot_max ha (he := he) (hpl := hpl)
theorem cMax2 (hm : X.mg "max" = none) (ha : PA X (e :: es) t) (hg : Gl X "max" := by rfl) (hc : X.calm = true := by rfl) (he : starEach (e :: es) X.env = (false, eval e X.env) :: starEach es X.env := by rfl) (hpl : (backTo pos (starEach es X.env)).any (·.1) = false := by rfl) :
    PE X (.Call (.Name "max" p) (e :: es) [] pos) (tCB Evl.rMax2 t) := pe_callB (call_max2 hc) hg hm boot_max ha (he := he) (hpl := hpl)
theorem cListOf (hm : X.mg "list" = none) (ha : PA X (e :: es) t) (hg : Gl X "list" := by rfl) (he : starEach (e :: es) X.env = (false, eval e X.env) :: starEach es X.env := by rfl) (hpl : (backTo pos (starEach es X.env)).any (·.1) = false := by rfl) (h : X.K = K := by rfl) :
    PE X (.Call (.Name "list" p) (e :: es) [] pos) (tCB (Evl.rListS K) t) := by subst h; exact pe_callTy call_list_of hg hm boot_list ha (he := he) (hpl := hpl)
def rDivmod : List V → Hp → VK → Prop := fun xs H Q => ∃ i j, xs = [.int i, .int j] ∧ CDiv i j ∧ ∀ p, H p = none → Q (.ref p) (upd H p (.tup [.int (i / j), .int (i % j)]))
theorem cDivmod (hm : X.mg "divmod" = none) (ha : PA X (e :: es) t) (hg : Gl X "divmod" := by rfl) (he : starEach (e :: es) X.env = (false, eval e X.env) :: starEach es X.env := by rfl) (hpl : (backTo pos (starEach es X.env)).any (·.1) = false := by rfl) :
    PE X (.Call (.Name "divmod" p) (e :: es) [] pos) (tCB rDivmod t) := pe_callB call_divmod hg hm boot_divmod ha (he := he) (hpl := hpl)
theorem cIsi (hm : X.mg "isinstance" = none) (ha : PA X (e :: es) t) (hg : Gl X "isinstance" := by rfl) (he : starEach (e :: es) X.env = (false, eval e X.env) :: starEach es X.env := by rfl) (hpl : (backTo pos (starEach es X.env)).any (·.1) = false := by rfl) (h : X.K = K := by rfl) :
    PE X (.Call (.Name "isinstance" p) (e :: es) [] pos) (tCB (rIsi K) t) := by subst h; exact pe_callB call_isi hg hm boot_isinstance ha (he := he) (hpl := hpl)
theorem cLenSet {a : Expr} {ta : TE} {p2 q : Pos} (hm : X.mg "len" = none) (hm2 : X.mg "set" = none) (ha : PE X a ta) (hc : X.calm = true := by rfl) (hg : Gl X "len" := by rfl) (hg2 : Gl X "set" := by rfl)
    (na : starEach [a] X.env = (false, eval a X.env) :: starEach [] X.env := by rfl) (h : X.K = K := by rfl) : PE X (.Call (.Name "len" p) [.Call (.Name "set" p2) [a] [] q] [] pos) (tLenSetI K ta) := by subst h; exact pe_lenSetI hc hg hm hg2 hm2 ha na
end
end Lk

namespace Lk
open PySem PySem.Spec PyProof.Rows L2 Evl LE
/-! ### what stands in the heap -/
def natsV (ns : List Nat) : List V := ns.map fun (n : Nat) => V.int (n : Int)
def intsV (ns : List Int) : List V := ns.map V.int
def oV : Option Nat → V
  | none => .non
  | some k => .int (k : Int)
def optsV (os : List (Option Nat)) : List V := os.map oV
/-- what t is worth to i -/
def wt (T : List (List Int)) (i t : Nat) : Int := (T.getD i []).getD t 0
/-- who has t -/
def Dl (os : List (Option Nat)) (t : Nat) : Option Nat := os.getD t none
def TabAt (K : PySem.W.Frag) (H : Hp) (a : Addr) (T : List (List Int)) : Prop := ∃ rs : List Addr, SqL K H a (rs.map V.ref) ∧ rs.length = T.length ∧ ∀ (i : Nat) (r : Addr) (row : List Int), rs[i]? = some r → T[i]? = some row → SqL K H r (intsV row)
structure TabOk (T : List (List Int)) (h n : Nat) : Prop where
  len : T.length = h
  rows : ∀ row, row ∈ T → row.length = n
  pos : ∀ row, row ∈ T → ∀ x, x ∈ row → 0 ≤ x
  big : ∀ row, row ∈ T → ∀ x, x ∈ row → x ≤ 1000000000000
  h1 : 1 ≤ h
  h4 : h ≤ 4
  n12 : n ≤ 12
/-- a table of h hands and n things stands at a -/
def GT (K : PySem.W.Frag) (H : Hp) (a : Addr) (T : List (List Int)) (h n : Nat) : Prop := TabAt K H a T ∧ TabOk T h n
section
variable {K : PySem.W.Frag} {H H' : Hp} {a : Addr} {T : List (List Int)} {h n : Nat}
theorem TabAt.mono (e : Ex H H') (g : TabAt K H a T) : TabAt K H' a T := by
  obtain ⟨rs, h1, h2, h3⟩ := g
  exact ⟨rs, ex_l e h1, h2, fun i r row q1 q2 => ex_l e (h3 i r row q1 q2)⟩
theorem GT.mono (e : Ex H H') (g : GT K H a T h n) : GT K H' a T h n := ⟨g.1.mono e, g.2⟩
theorem wt_mem (o : TabOk T h n) {i t : Nat} (hi : i < h) (ht : t < n) : ∃ row, row ∈ T ∧ T[i]? = some row ∧ row[t]? = some (wt T i t) := by
  have hi' : i < T.length := by rw [o.len]; exact hi
  have m : T[i] ∈ T := List.getElem_mem hi'
  have ht' : t < T[i].length := by rw [o.rows _ m]; exact ht
  refine ⟨T[i], m, List.getElem?_eq_getElem hi', ?_⟩
  unfold wt
  rw [List.getD_eq_getElem?_getD, List.getD_eq_getElem?_getD, List.getElem?_eq_getElem hi', Option.getD_some, List.getElem?_eq_getElem ht', Option.getD_some]
theorem wt_out (o : TabOk T h n) {i t : Nat} (q : ¬ (i < h ∧ t < n)) : wt T i t = 0 := by
  unfold wt
  rw [List.getD_eq_getElem?_getD, List.getD_eq_getElem?_getD]
  by_cases hi : i < h
  · have hi' : i < T.length := by rw [o.len]; exact hi
    have m : T[i] ∈ T := List.getElem_mem hi'
    rw [List.getElem?_eq_getElem hi', Option.getD_some, List.getElem?_eq_none (by rw [o.rows _ m]; omega)]
    rfl
  · rw [List.getElem?_eq_none (l := T) (by rw [o.len]; omega)]
    rfl
theorem wt_pos (o : TabOk T h n) : Pos (wt T) := fun i t => by
  by_cases q : i < h ∧ t < n
  · obtain ⟨row, m, _, e⟩ := wt_mem o q.1 q.2
    exact o.pos row m _ (List.mem_of_getElem? e)
  · rw [wt_out o q]; exact Int.le_refl _
theorem wt_big (o : TabOk T h n) (i t : Nat) : wt T i t ≤ 1000000000000 := by
  by_cases q : i < h ∧ t < n
  · obtain ⟨row, m, _, e⟩ := wt_mem o q.1 q.2
    exact o.big row m _ (List.mem_of_getElem? e)
  · rw [wt_out o q]; decide
theorem intsV_get {ns : List Int} {i : Nat} {x : Int} (e : ns[i]? = some x) : (intsV ns)[i]? = some (.int x) := by unfold intsV; rw [List.getElem?_map, e]; rfl
theorem natsV_get {ns : List Nat} {i : Nat} {x : Nat} (e : ns[i]? = some x) : (natsV ns)[i]? = some (.int (x : Int)) := by unfold natsV; rw [List.getElem?_map, e]; rfl
theorem natsV_at {ns : List Nat} {i : Nat} {x : V} (e : (natsV ns)[i]? = some x) : ∃ k, ns[i]? = some k ∧ x = .int (k : Int) := by
  unfold natsV at e
  rw [List.getElem?_map] at e
  cases q : ns[i]? with
  | none => rw [q] at e; cases e
  | some k => rw [q] at e; exact ⟨k, rfl, (Option.some.inj e).symm⟩
theorem intsV_at {ns : List Int} {i : Nat} {x : V} (e : (intsV ns)[i]? = some x) : ∃ k, ns[i]? = some k ∧ x = .int k := by
  unfold intsV at e
  rw [List.getElem?_map] at e
  cases q : ns[i]? with
  | none => rw [q] at e; cases e
  | some k => rw [q] at e; exact ⟨k, rfl, (Option.some.inj e).symm⟩
theorem optsV_at {os : List (Option Nat)} {i : Nat} {x : V} (e : (optsV os)[i]? = some x) : i < os.length ∧ x = oV (Dl os i) := by
  unfold optsV at e
  rw [List.getElem?_map] at e
  cases q : os[i]? with
  | none => rw [q] at e; cases e
  | some k =>
    rw [q] at e
    refine ⟨(List.getElem?_eq_some_iff.mp q).1, ?_⟩
    unfold Dl
    rw [List.getD_eq_getElem?_getD, q]
    exact (Option.some.inj e).symm
theorem optsV_get {os : List (Option Nat)} {i : Nat} (q : i < os.length) : (optsV os)[i]? = some (oV (Dl os i)) := by
  unfold optsV Dl
  rw [List.getElem?_map, List.getD_eq_getElem?_getD, List.getElem?_eq_getElem q]
  rfl
@[simp] theorem natsV_len (ns : List Nat) : (natsV ns).length = ns.length := List.length_map ..
@[simp] theorem intsV_len (ns : List Int) : (intsV ns).length = ns.length := List.length_map ..
@[simp] theorem optsV_len (os : List (Option Nat)) : (optsV os).length = os.length := List.length_map ..
/-- table[i] -/
theorem GT.row (g : GT K H a T h n) {i : Nat} (hi : i < h) : ∃ (rs : List Addr) (r : Addr) (row : List Int), SqL K H a (rs.map V.ref) ∧ (rs.map V.ref)[i]? = some (V.ref r) ∧ T[i]? = some row ∧ row ∈ T ∧ SqL K H r (intsV row) := by
  obtain ⟨⟨rs, h1, h2, h3⟩, o⟩ := g
  have hi' : i < rs.length := by rw [h2, o.len]; exact hi
  have hi2 : i < T.length := by rw [o.len]; exact hi
  refine ⟨rs, rs[i], T[i], h1, ?_, List.getElem?_eq_getElem hi2, List.getElem_mem hi2, h3 i _ _ (List.getElem?_eq_getElem hi') (List.getElem?_eq_getElem hi2)⟩
  rw [List.getElem?_map, List.getElem?_eq_getElem hi']
  rfl
variable {σ : L2.St} {ta ti tt : TE}
/-- table[i][t] -/
theorem ev_cell (g : GT K H a T h n) {i t : Nat} (hi : i < h) (ht : t < n) (e1 : Ev ta σ H (.ref a)) (e2 : Ev ti σ H (.int (i : Int))) (e3 : Ev tt σ H (.int (t : Int))) : Ev (tOp (rIxL K) (tOp (rIxL K) ta ti) tt) σ H (.int (wt T i t)) := by
  obtain ⟨rs, r, row, h1, h2, h3, m, h4⟩ := g.row hi
  obtain ⟨row', _, q1, q2⟩ := wt_mem g.2 hi ht
  rw [h3] at q1
  cases q1
  exact ev_op (ev_op e1 e2 (rv_ixL h1 (atI_nat h2))) e3 (rv_ixL h4 (atI_nat (intsV_get q2)))
theorem GT.len (g : GT K H a T h n) : ∃ rs : List Addr, SqL K H a (rs.map V.ref) ∧ rs.length = h := by
  obtain ⟨⟨rs, h1, h2, _⟩, o⟩ := g
  exact ⟨rs, h1, by rw [h2, o.len]⟩
end
/-! ### promises -/
/-- what a call of a def with such a promise gives -/
theorem ev_callV {sp : Sp} {dvs vs : List V} {E : XK} {ta : TA} {σ : L2.St} {H : Hp} {z : V} (h : EvA ta σ H vs) (hs : ∀ H1, Ex H H1 → ∀ Q : VK, RetV z H1 Q → sp (vs ++ dvs) H1 Q E) : Ev (tCall sp dvs E ta) σ H z := fun H1 e Q q =>
  h H1 e _ fun H2 e2 => hs H2 (e.trans e2) Q (fun H3 e3 => q H3 (e2.trans e3))
theorem el_callL {sp : Sp} {dvs vs xs : List V} {E : XK} {ta : TA} {σ : L2.St} {H : Hp} (h : EvA ta σ H vs) (hs : ∀ H1, Ex H H1 → ∀ Q : VK, RetL xs H1 Q → sp (vs ++ dvs) H1 Q E) : EvL (tCall sp dvs E ta) σ H xs := fun H1 e Q q =>
  h H1 e _ fun H2 e2 => hs H2 (e.trans e2) Q (fun p H3 hp e3 h3 => q p H3 (fresh_back e2 hp) (e2.trans e3) h3)
end Lk

namespace Lk
open PySem PySem.Spec PyProof.Rows L2 Evl LE
/-! ### tables -/
def sp_hands_of (K : PySem.W.Frag) : Sp := fun vs H Q _ => ∃ a T h n, vs = [.ref a] ∧ GT K H a T h n ∧ RetV (.int (h : Int)) H Q
abbrev N_hands_of : List Str := ["table"]
theorem sc_hands_of : FnScope N_hands_of ["table"] (defScope s_hands_of) := ⟨rfl, rfl, rfl, by decide +kernel, rfl, by decide +kernel, by decide +kernel⟩
theorem ok_hands_of {P : Program} {w : World} {K : PySem.W.Frag} {mg : Str → Option Value} {base : Heap} (TT : Top K mg)  : Ok P w K mg base 1 "hands_of" ["table"] [] (sp_hands_of K) := by
  refine TT.ok (d := d_hands_of) 0 0 rfl rfl rfl rfl rfl sc_hands_of (fun _ _ _ _ _ _ us hl => match us, hl with | [_], _ => rfl) (fun vs H Q E h => ?_) (fun cdv A outer s H vs Q E hr h => ?_)
  · obtain ⟨a, T, h, n, rfl, _⟩ := h; rfl
  · obtain ⟨a, T, h, n, rfl, g, k⟩ := h
    refine ⟨_, (pss_one (ps_ret (cLen K (TT.free 70) (pa_cons (pv 0) pa_nil)))), ?_⟩
    obtain ⟨rs, h1, h2⟩ := g.len
    refine s_ret (ev_is (ev_len (ev_var rfl) h1) ?_) k
    rw [List.length_map, h2]
def sp_things_of (K : PySem.W.Frag) : Sp := fun vs H Q _ => ∃ a T h n, vs = [.ref a] ∧ GT K H a T h n ∧ RetV (.int (n : Int)) H Q
abbrev N_things_of : List Str := ["table"]
theorem sc_things_of : FnScope N_things_of ["table"] (defScope s_things_of) := ⟨rfl, rfl, rfl, by decide +kernel, rfl, by decide +kernel, by decide +kernel⟩
theorem ok_things_of {P : Program} {w : World} {K : PySem.W.Frag} {mg : Str → Option Value} {base : Heap} (TT : Top K mg)  : Ok P w K mg base 1 "things_of" ["table"] [] (sp_things_of K) := by
  refine TT.ok (d := d_things_of) 1 1 rfl rfl rfl rfl rfl sc_things_of (fun _ _ _ _ _ _ us hl => match us, hl with | [_], _ => rfl) (fun vs H Q E h => ?_) (fun cdv A outer s H vs Q E hr h => ?_)
  · obtain ⟨a, T, h, n, rfl, _⟩ := h; rfl
  · obtain ⟨a, T, h, n, rfl, g, k⟩ := h
    refine ⟨_, (pss_one (ps_ret (cLen K (TT.free 70) (pa_cons (pe_ix (ixL K) (pv 0) pe_int (fun _ _ => rfl)) pa_nil)))), ?_⟩
    obtain ⟨rs, r, row, h1, h2, h3, m, h4⟩ := g.row (i := 0) g.2.h1
    refine s_ret (ev_is (ev_len (ev_op (ev_var rfl) ev_c (rv_ixL h1 (atI_nat (j := 0) h2))) h4) ?_) k
    rw [intsV_len, g.2.rows row m]
section
variable {K : PySem.W.Frag} {H : Hp} {a b : Addr} {T : List (List Int)} {h n : Nat} {σ : L2.St} {ta tb tc td : TE} {E : XK}
theorem c_hands (g : GT K H a T h n) (e1 : Ev ta σ H (.ref a)) : Ev (tCall (sp_hands_of K) [] E (tCons ta tNil)) σ H (.int (h : Int)) :=
  ev_callV (ea_cons e1 ea_nil) fun H1 e Q k => ⟨a, T, h, n, rfl, g.mono e, k⟩
theorem c_things (g : GT K H a T h n) (e1 : Ev ta σ H (.ref a)) : Ev (tCall (sp_things_of K) [] E (tCons ta tNil)) σ H (.int (n : Int)) :=
  ev_callV (ea_cons e1 ea_nil) fun H1 e Q k => ⟨a, T, h, n, rfl, g.mono e, k⟩
end
def sp_check_hand (K : PySem.W.Frag) : Sp := fun vs H Q _ => ∃ a T h n, ∃ i : Nat, vs = [.ref a, .int (i : Int)] ∧ GT K H a T h n ∧ i < h ∧ RetV .non H Q
theorem rv_t {p : Int → Int → Bool} {i j : Int} {H : Hp} (e : p i j = true) : RV (rI0 fun i j => .bl (p i j)) (.int i) (.int j) H (.bl true) := fun H1 _ Q q => ⟨i, j, rfl, rfl, by show Q (.bl (p i j)) H1; rw [e]; exact q H1 (Ex.refl _)⟩
theorem rv_f {p : Int → Int → Bool} {i j : Int} {H : Hp} (e : p i j = false) : RV (rI0 fun i j => .bl (p i j)) (.int i) (.int j) H (.bl false) := fun H1 _ Q q => ⟨i, j, rfl, rfl, by show Q (.bl (p i j)) H1; rw [e]; exact q H1 (Ex.refl _)⟩
/-- a < b < c of ints -/
theorem et_chain {r r' : R2} {ta tb tc : TE} {σ : L2.St} {H : Hp} {x y z : V} {b1 b2 : Bool} (h1 : Ev ta σ H x) (h2 : Ev tb σ H y) (h3 : RV r x y H (.bl b1)) (h4 : b1 = true → Ev tc σ H z) (h5 : b1 = true → RV r' y z H (.bl b2)) :
    EvT (tTest (tChain r r' ta tb tc)) σ H (b1 && b2) := fun H1 e Q q => h1 H1 e _ fun H2 e2 => h2 H2 (e.trans e2) _ fun H3 e3 => h3 H3 ((e.trans e2).trans e3) _ fun H4 e4 => ⟨b1, rfl, by
  cases b1 with
  | true =>
    rw [if_pos rfl]
    refine h4 rfl H4 (((e.trans e2).trans e3).trans e4) _ fun H5 e5 => h5 rfl H5 ((((e.trans e2).trans e3).trans e4).trans e5) _ fun H6 e6 => ⟨b2, rfl, q H6 ((((e2.trans e3).trans e4).trans e5).trans e6)⟩
  | false =>
    rw [if_neg Bool.false_ne_true]
    exact ⟨false, rfl, q H4 ((e2.trans e3).trans e4)⟩⟩
abbrev N_check_hand : List Str := ["table", "hand"]
theorem sc_check_hand : FnScope N_check_hand ["table", "hand"] (defScope s_check_hand) := ⟨rfl, rfl, rfl, by decide +kernel, rfl, by decide +kernel, by decide +kernel⟩
theorem ok_check_hand {P : Program} {w : World} {K : PySem.W.Frag} {mg : Str → Option Value} {base : Heap} (TT : Top K mg) (O_hands_of : Ok P w K mg base 1 "hands_of" ["table"] [] (sp_hands_of K)) : Ok P w K mg base 2 "check_hand" ["table", "hand"] [] (sp_check_hand K) := by
  refine TT.ok (d := d_check_hand) 2 2 rfl rfl rfl rfl rfl sc_check_hand (fun _ _ _ _ _ _ us hl => match us, hl with | [_, _], _ => rfl) (fun vs H Q E h => ?_) (fun cdv A outer s H vs Q E hr h => ?_)
  · obtain ⟨a, T, h, n, i, rfl, _⟩ := h; rfl
  · obtain ⟨a, T, h, n, i, rfl, g, hi, k⟩ := h
    refine ⟨_, (pss_one (ps_if (pt_not (pt_chain op_le op_lt pe_int (pv 1) (pe_cl O_hands_of (hr.mono (by decide)) rfl (pa_cons (pv 0) pa_nil)))) (pss_one ps_never) pss_nil)), ?_⟩
    refine s_when (b := false) (et_is (et_not (et_chain ev_c (ev_var rfl) (rv_t (decide_eq_true (by omega))) (fun _ => c_hands g (ev_var rfl)) fun _ => rv_t (decide_eq_true (by omega)))) rfl) (fun e => nomatch e) fun _ H1 e => k H1 e
def sp_check_thing (K : PySem.W.Frag) : Sp := fun vs H Q _ => ∃ a T h n, ∃ t : Nat, vs = [.ref a, .int (t : Int)] ∧ GT K H a T h n ∧ t < n ∧ RetV .non H Q
abbrev N_check_thing : List Str := ["table", "thing"]
theorem sc_check_thing : FnScope N_check_thing ["table", "thing"] (defScope s_check_thing) := ⟨rfl, rfl, rfl, by decide +kernel, rfl, by decide +kernel, by decide +kernel⟩
theorem ok_check_thing {P : Program} {w : World} {K : PySem.W.Frag} {mg : Str → Option Value} {base : Heap} (TT : Top K mg) (O_things_of : Ok P w K mg base 1 "things_of" ["table"] [] (sp_things_of K)) : Ok P w K mg base 2 "check_thing" ["table", "thing"] [] (sp_check_thing K) := by
  refine TT.ok (d := d_check_thing) 3 3 rfl rfl rfl rfl rfl sc_check_thing (fun _ _ _ _ _ _ us hl => match us, hl with | [_, _], _ => rfl) (fun vs H Q E h => ?_) (fun cdv A outer s H vs Q E hr h => ?_)
  · obtain ⟨a, T, h, n, i, rfl, _⟩ := h; rfl
  · obtain ⟨a, T, h, n, i, rfl, g, hi, k⟩ := h
    refine ⟨_, (pss_one (ps_if (pt_not (pt_chain op_le op_lt pe_int (pv 1) (pe_cl O_things_of (hr.mono (by decide)) rfl (pa_cons (pv 0) pa_nil)))) (pss_one ps_never) pss_nil)), ?_⟩
    refine s_when (b := false) (et_is (et_not (et_chain ev_c (ev_var rfl) (rv_t (decide_eq_true (by omega))) (fun _ => c_things g (ev_var rfl)) fun _ => rv_t (decide_eq_true (by omega)))) rfl) (fun e => nomatch e) fun _ H1 e => k H1 e
section
variable {K : PySem.W.Frag} {H : Hp} {a b : Addr} {T : List (List Int)} {h n : Nat} {σ : L2.St} {ta tb tc td : TE} {E : XK}
theorem c_checkH {i : Nat} (g : GT K H a T h n) (hi : i < h) (e1 : Ev ta σ H (.ref a)) (e2 : Ev tb σ H (.int (i : Int))) : Ev (tCall (sp_check_hand K) [] E (tCons ta (tCons tb tNil))) σ H .non :=
  ev_callV (ea_cons e1 (ea_cons e2 ea_nil)) fun H1 e Q k => ⟨a, T, h, n, i, rfl, g.mono e, hi, k⟩
theorem c_checkT {i : Nat} (g : GT K H a T h n) (hi : i < n) (e1 : Ev ta σ H (.ref a)) (e2 : Ev tb σ H (.int (i : Int))) : Ev (tCall (sp_check_thing K) [] E (tCons ta (tCons tb tNil))) σ H .non :=
  ev_callV (ea_cons e1 (ea_cons e2 ea_nil)) fun H1 e Q k => ⟨a, T, h, n, i, rfl, g.mono e, hi, k⟩
end
/-- what things are worth to i -/
def worth (T : List (List Int)) (i : Nat) (ts : List Nat) : Int := (ts.map (wt T i)).sum
def sp_worth_of (K : PySem.W.Frag) : Sp := fun vs H Q _ => ∃ a b T h n, ∃ (i : Nat) (ts : List Nat), vs = [.ref a, .int (i : Int), .ref b] ∧ GT K H a T h n ∧ i < h ∧ SqL K H b (natsV ts) ∧ (∀ t, t ∈ ts → t < n) ∧ RetV (.int (worth T i ts)) H Q
theorem worth_take {T : List (List Int)} {i k t : Nat} {ts : List Nat} (e : ts[k]? = some t) : worth T i (ts.take (k + 1)) = worth T i (ts.take k) + wt T i t := by
  unfold worth
  rw [List.map_take, List.map_take, sum_take (z := wt T i t) (by rw [List.getElem?_map, e]; rfl)]
abbrev N_worth_of : List Str := ["table", "hand", "things", "total", "thing"]
theorem sc_worth_of : FnScope N_worth_of ["table", "hand", "things"] (defScope s_worth_of) := ⟨rfl, rfl, rfl, by decide +kernel, rfl, by decide +kernel, by decide +kernel⟩
theorem ok_worth_of {P : Program} {w : World} {K : PySem.W.Frag} {mg : Str → Option Value} {base : Heap} (TT : Top K mg) (O_check_hand : Ok P w K mg base 2 "check_hand" ["table", "hand"] [] (sp_check_hand K)) (O_check_thing : Ok P w K mg base 2 "check_thing" ["table", "thing"] [] (sp_check_thing K)) : Ok P w K mg base 3 "worth_of" ["table", "hand", "things"] [] (sp_worth_of K) := by
  refine TT.ok (d := d_worth_of) 4 4 rfl rfl rfl rfl rfl sc_worth_of (fun _ _ _ _ _ _ us hl => match us, hl with | [_, _, _], _ => rfl) (fun vs H Q E h => ?_) (fun cdv A outer s H vs Q E hr h => ?_)
  · obtain ⟨a, b, T, h, n, i, ts, rfl, _⟩ := h; rfl
  · obtain ⟨a, b, T, h, n, i, ts, rfl, g, hi, hb, ht, k⟩ := h
    refine ⟨_, (pss_cons (ps_expr (pe_cl O_check_hand (hr.mono (by decide)) rfl (pa_cons (pv 0) (pa_cons (pv 1) pa_nil))))
  (pss_cons (ps_set (i := 3) sc_worth_of.nd rfl (Or.inl rfl) pe_int)
  (pss_cons (ps_for PassesOwn.never rfl (wList K (pv 2)) (pg_name (i := 4) sc_worth_of.nd rfl (Or.inl rfl) (Or.inr rfl)) (pss_cons (ps_expr (pe_cl O_check_thing (hr.mono (by decide)) rfl (pa_cons (pv 0) (pa_cons (pv 4) pa_nil))))
  (pss_one (ps_aug (i := 3) sc_worth_of.nd rfl (Or.inl rfl) (pe_ix (ixL K) (pe_ix (ixL K) (pv 0) (pv 1) (fun _ _ => rfl)) (pv 4) (fun _ _ => rfl)) ip_add))))
  (pss_one (ps_ret (pv 3)))))), ?_⟩
    refine q_drop (c_checkH g hi (ev_var rfl) (ev_var rfl)) fun H1 e1 => q_asg ev_c fun H2 e2 => ?_
    have e12 := e1.trans e2
    refine q_forLn (xs := natsV ts) (ev_var rfl) (ex_l e12 hb) (fun m σ' H' => ∃ v, σ' = [some (.ref a), some (.int (i : Int)), some (.ref b), some (.int (worth T i (ts.take m))), v] ∧ Ex H H') (fun H3 e3 => ⟨none, rfl, e12.trans e3⟩) (fun m σ' H' _ ⟨_, _, e⟩ => ex_l e hb) (fun m x σ' H' hx p => ?_) (fun σ' H' p => ?_)
    · obtain ⟨v, rfl, e⟩ := p
      obtain ⟨t, ht1, rfl⟩ := natsV_at hx
      have htn := ht t (List.mem_of_getElem? ht1)
      refine q_drop (c_checkT (g.mono e) htn (ev_var rfl) (ev_var rfl)) fun H3 e3 => s_aug rfl (ev_cell (g.mono (e.trans e3)) hi htn (ev_var rfl) (ev_var rfl) (ev_var rfl)) fun H4 e4 => ⟨some (.int (t : Int)), ?_, (e.trans e3).trans e4⟩
      rw [worth_take ht1]
      rfl
    · obtain ⟨v, rfl, e⟩ := p
      refine s_ret (ev_is (ev_var rfl) ?_) fun H5 e5 => k H5 (e.trans e5)
      rw [natsV_len, List.take_length]
section
variable {K : PySem.W.Frag} {H : Hp} {a b : Addr} {T : List (List Int)} {h n : Nat} {σ : L2.St} {ta tb tc td : TE} {E : XK}
theorem c_worth {i : Nat} {ts : List Nat} (g : GT K H a T h n) (hi : i < h) (hb : SqL K H b (natsV ts)) (ht : ∀ t, t ∈ ts → t < n) (e1 : Ev ta σ H (.ref a)) (e2 : Ev tb σ H (.int (i : Int))) (e3 : Ev tc σ H (.ref b)) :
    Ev (tCall (sp_worth_of K) [] E (tCons ta (tCons tb (tCons tc tNil)))) σ H (.int (worth T i ts)) :=
  ev_callV (ea_cons e1 (ea_cons e2 (ea_cons e3 ea_nil))) fun H1 e Q k => ⟨a, b, T, h, n, i, ts, rfl, g.mono e, hi, ex_l e hb, ht, k⟩
/-- .. of a new list -/
theorem c_worthN {i : Nat} {ts : List Nat} (g : GT K H a T h n) (hi : i < h) (ht : ∀ t, t ∈ ts → t < n) (e1 : Ev ta σ H (.ref a)) (e2 : Ev tb σ H (.int (i : Int))) (e3 : EvL tc σ H (natsV ts)) :
    Ev (tCall (sp_worth_of K) [] E (tCons ta (tCons tb (tCons tc tNil)))) σ H (.int (worth T i ts)) := fun H1 e Q q =>
  e1 H1 e _ fun H2 e2' => e2 H2 (e.trans e2') _ fun H3 e3' => e3 H3 ((e.trans e2').trans e3') _ fun p H4 _ e4 hp =>
    ⟨a, p, T, h, n, i, ts, rfl, g.mono (((e.trans e2').trans e3').trans e4), hi, sq_of hp, ht, fun H5 e5 => q H5 (((e2'.trans e3').trans e4).trans e5)⟩
end
end Lk

namespace Lk
open PySem PySem.Spec PyProof.Rows L2 Evl LE
/-! ### what an expression makes: EvN te σ H E: a value y, of which E says what it is, by the objects N that are new -/
def newp (H1 H2 : Hp) : Hp := fun b => match H1 b with
  | none => H2 b
  | some _ => none
theorem newp_ex {H1 H2 : Hp} : Ex (newp H1 H2) H2 := fun a o e => by
  unfold newp at e
  cases q : H1 a with
  | none => rw [q] at e; exact e
  | some _ => rw [q] at e; cases e
theorem newp_none {H1 H2 : Hp} {b : Addr} {o : HO} (e : newp H1 H2 b = some o) : H1 b = none := by
  unfold newp at e
  cases q : H1 b with
  | none => rfl
  | some _ => rw [q] at e; cases e
theorem newp_at {H1 H2 : Hp} {b : Addr} (n : H1 b = none) : newp H1 H2 b = H2 b := by unfold newp; rw [n]
theorem newp_mono {H0 H1 H2 : Hp} (e : Ex H0 H1) : Ex (newp H1 H2) (newp H0 H2) := fun a o q => by
  have n := newp_none q
  rw [newp_at (fresh_back e n)]
  exact newp_ex a o q
theorem newp_mono2 {H1 H2 H3 : Hp} (e : Ex H2 H3) : Ex (newp H1 H2) (newp H1 H3) := fun a o q => by
  rw [newp_at (newp_none q)]
  exact e a o (newp_ex a o q)
def EvN (te : TE) (σ : L2.St) (H : Hp) (E : V → Hp → Prop) : Prop := ∀ H1, Ex H H1 → ∀ Q : VK, (∀ v H2, Ex H1 H2 → E v (newp H1 H2) → Q v H2) → te σ H1 Q
/-- E is kept when more stands -/
def Mono {α : Type} (E : α → Hp → Prop) : Prop := ∀ v H H', Ex H H' → E v H → E v H'
section
variable {te tl : TE} {σ : L2.St} {H H' : Hp} {v : V} {K : PySem.W.Frag}
theorem EvN.mono {E : V → Hp → Prop} (e : Ex H H') (h : EvN te σ H E) : EvN te σ H' E := fun H1 a Q q => h H1 (e.trans a) Q q
theorem EvN.imp {E E' : V → Hp → Prop} (h : EvN te σ H E) (i : ∀ v N, E v N → E' v N) : EvN te σ H E' := fun H1 a Q q => h H1 a Q fun v H2 e2 z => q v H2 e2 (i _ _ z)
theorem en_ev (h : Ev te σ H v) : EvN te σ H (fun y _ => y = v) := fun H1 e Q q => h H1 e Q fun H2 e2 => q v H2 e2 rfl
theorem ev_en (h : EvN te σ H (fun y _ => y = v)) : Ev te σ H v := fun H1 e Q q => h H1 e Q fun y H2 e2 z => by rw [z]; exact q H2 e2
theorem en_el {xs : List V} (h : EvL te σ H xs) : EvN te σ H (fun y N => ∃ p, y = .ref p ∧ N p = some (.lst xs)) := fun H1 e Q q => h H1 e Q fun p H2 n e2 hp => q _ H2 e2 ⟨p, rfl, by rw [newp_at n]; exact hp⟩
theorem en_eu {xs : List V} (h : EvU te σ H xs) : EvN te σ H (fun y N => ∃ p, y = .ref p ∧ N p = some (.tup xs)) := fun H1 e Q q => h H1 e Q fun p H2 n e2 hp => q _ H2 e2 ⟨p, rfl, by rw [newp_at n]; exact hp⟩
theorem el_en {xs : List V} (h : EvN te σ H (fun y N => ∃ p, y = .ref p ∧ N p = some (.lst xs))) : EvL te σ H xs := fun H1 e Q q => h H1 e Q fun y H2 e2 ⟨p, ey, hp⟩ => by
  rw [ey]
  exact q p H2 (newp_none hp) e2 (newp_ex p _ hp)
end
/-! ### what is walked -/
/-- from H on, whatever is made meanwhile: n turns, the target's slots at turn i by st i -/
def Wk (wi : TI) (g : TG) (σ : L2.St) (H : Hp) (n : Nat) (st : Nat → L2.St → L2.St) : Prop :=
  ∀ H0, Ex H H0 → ∀ R : It → Hp → Prop, (∀ J H1, Ex H0 H1 → (∀ i H', Ex H1 H' → i < n → J.go i H' ∧ ∀ x H'', J.yld i H' x H'' → ∀ (σ' : L2.St) (Q2 : L2.St → Hp → Prop), (∀ H3, Ex H' H3 → Q2 (st i σ') H3) → g x σ' H'' Q2) → (∀ H', Ex H1 H' → J.stop n H') → R J H1) → wi σ H0 R
section
variable {te tl : TE} {tt : TT} {wi : TI} {g : TG} {σ : L2.St} {H H' : Hp} {v : V} {K : PySem.W.Frag} {ta : TA}
theorem Wk.mono {n : Nat} {st : Nat → L2.St → L2.St} (e : Ex H H') (h : Wk wi g σ H n st) : Wk wi g σ H' n st := fun H1 a R q => h H1 (e.trans a) R q
theorem wk_range1 {j : Nat} {n : Nat} (h : EvA ta σ H [.int (n : Int)]) (hn : n ≤ 100000) : Wk (iRng1 ta) (gName j) σ H n (fun i σ' => σ'.set j (some (.int (i : Int)))) := fun H0 e R k => h H0 e _ fun H1 e1 =>
  ⟨n, rfl, by omega, by omega, k _ H1 e1 (fun i H' e2 hi => ⟨by show i < ((n : Int)).toNat; omega, fun x H'' y σ' Q2 q => by
    obtain ⟨e3, ex⟩ := y
    subst e3 ex
    have e0 : (0 : Int) + (i : Int) = (i : Int) := Int.zero_add _
    show Q2 (σ'.set j (some (.int ((0 : Int) + (i : Int))))) _
    rw [e0]
    exact q _ (Ex.refl _)⟩) fun H' e2 => by show ((n : Int)).toNat ≤ n; omega⟩
theorem wk_list {j : Nat} {a : Addr} {xs : List V} (h : Ev tl σ H (.ref a)) (hx : SqL K H a xs) : Wk (iList K tl) (gName j) σ H xs.length (fun i σ' => σ'.set j (some (xs.getD i .non))) := fun H0 e R k => h H0 e _ fun H1 e1 =>
  ⟨a, rfl, ⟨xs, ex_l (e.trans e1) hx⟩, k _ H1 e1 (fun i H' e2 hi => ⟨⟨xs, xs[i], ex_l ((e.trans e1).trans e2) hx, List.getElem?_eq_getElem hi⟩, fun x H'' y σ' Q2 q => by
    obtain ⟨e3, f⟩ := y
    subst e3
    have q1 := f xs (ex_l ((e.trans e1).trans e2) hx)
    have e4 : xs.getD i .non = x := by rw [List.getD_eq_getElem?_getD, q1]; rfl
    have q2 : Q2 (σ'.set j (some (xs.getD i .non))) H'' := q _ (Ex.refl _)
    rw [e4] at q2
    exact q2⟩) fun H' e2 => ⟨xs, ex_l ((e.trans e1).trans e2) hx, Nat.le_refl _⟩⟩
theorem wk_listN {j : Nat} {xs : List V} (h : EvL tl σ H xs) : Wk (iList K tl) (gName j) σ H xs.length (fun i σ' => σ'.set j (some (xs.getD i .non))) := fun H0 e R k => h H0 e _ fun a H1 _ e1 hx =>
  ⟨a, rfl, ⟨xs, sq_of hx⟩, k _ H1 e1 (fun i H' e2 hi => ⟨⟨xs, xs[i], ex_l e2 (sq_of hx), List.getElem?_eq_getElem hi⟩, fun x H'' y σ' Q2 q => by
    obtain ⟨e3, f⟩ := y
    subst e3
    have q1 := f xs (ex_l e2 (sq_of hx))
    have e4 : xs.getD i .non = x := by rw [List.getD_eq_getElem?_getD, q1]; rfl
    have q2 : Q2 (σ'.set j (some (xs.getD i .non))) H'' := q _ (Ex.refl _)
    rw [e4] at q2
    exact q2⟩) fun H' e2 => ⟨xs, ex_l e2 (sq_of hx), Nat.le_refl _⟩⟩
/-- a, b = .. of two names -/
abbrev g2 (K : PySem.W.Frag) (j1 j2 : Nat) : TG := gTup K 2 (gCons (gName j1) (gCons (gName j2) gNil))
theorem g2_ok {j1 j2 : Nat} {t : Addr} {x y : V} {σ' : L2.St} {Q2 : L2.St → Hp → Prop} (h : SqT K H t [x, y]) (q : Q2 ((σ'.set j1 (some x)).set j2 (some y)) H) : g2 K j1 j2 (.ref t) σ' H Q2 :=
  ⟨t, [x, y], rfl, h, rfl, x, [y], rfl, y, [], rfl, rfl, q⟩
/-- a list of pairs of values -/
def PairAt (K : PySem.W.Frag) (x : V × V) (v : V) (H : Hp) : Prop := ∃ t, v = .ref t ∧ SqT K H t [x.1, x.2]
/-- the values ys stand for the data xs, by E -/
def Pd {α : Type} (E : α → V → Hp → Prop) (xs : List α) (ys : List V) (H : Hp) : Prop := Paired (fun x v => E x v H) xs ys
theorem Pd.length {α : Type} {E : α → V → Hp → Prop} {xs : List α} {ys : List V} (h : Pd E xs ys H) : xs.length = ys.length := Paired.length h
theorem Pd.mono {α : Type} {E : α → V → Hp → Prop} (m : ∀ x, Mono (E x)) {xs : List α} {ys : List V} (e : Ex H H') (h : Pd E xs ys H) : Pd E xs ys H' := Paired.mapP h fun x v z => m x v _ _ e z
theorem Pd.get {α : Type} {E : α → V → Hp → Prop} : ∀ {xs : List α} {ys : List V} {i : Nat} {x : α}, Pd E xs ys H → xs[i]? = some x → ∃ y, ys[i]? = some y ∧ E x y H
  | _, _, _, _, .nil, e => by simp at e
  | _, _, 0, _, .cons r _, e => by simp at e; subst e; exact ⟨_, rfl, r⟩
  | _, _, i + 1, x, .cons _ t, e => by
    obtain ⟨u, h1, h2⟩ := Pd.get (i := i) (x := x) t (by simpa using e)
    exact ⟨u, by simpa using h1, h2⟩
theorem Pd.append {α : Type} {E : α → V → Hp → Prop} : ∀ {xs xs' : List α} {ys ys' : List V}, Pd E xs ys H → Pd E xs' ys' H → Pd E (xs ++ xs') (ys ++ ys') H
  | _, _, _, _, .nil, s => s
  | _, _, _, _, .cons r t, s => .cons r (Pd.append t s)
theorem pair_mono (x : V × V) : Mono (PairAt K x) := fun v H H' e ⟨t, ev, h⟩ => ⟨t, ev, ex_t e h⟩
theorem wk_pairs {j1 j2 : Nat} {xs : List (V × V)} (h : EvN tl σ H (fun v N => ∃ a ys, v = .ref a ∧ N a = some (.lst ys) ∧ Pd (PairAt K) xs ys N)) :
    Wk (iList K tl) (g2 K j1 j2) σ H xs.length (fun i σ' => (σ'.set j1 (some (xs.getD i (.non, .non)).1)).set j2 (some (xs.getD i (.non, .non)).2)) := fun H0 e R k => h H0 e _ fun v H1 e1 z => by
  obtain ⟨a, ys, ev, ha, pd⟩ := z
  have ha1 := newp_ex a _ ha
  have pd1 := pd.mono pair_mono newp_ex
  refine ⟨a, ev, ⟨ys, sq_of ha1⟩, k _ H1 e1 (fun i H' e2 hi => ?_) fun H' e2 => ⟨ys, ex_l e2 (sq_of ha1), by rw [pd.length]; exact Nat.le_refl _⟩⟩
  have hi2 : i < ys.length := by rw [← pd.length]; exact hi
  refine ⟨⟨ys, ys[i], ex_l e2 (sq_of ha1), List.getElem?_eq_getElem hi2⟩, fun x H'' y σ' Q2 q => ?_⟩
  obtain ⟨e3, f⟩ := y
  subst e3
  obtain ⟨y', q1, t, q2, q3⟩ := pd1.get (List.getElem?_eq_getElem hi)
  have q4 := f ys (ex_l e2 (sq_of ha1))
  rw [q1] at q4
  cases q4
  rw [q2]
  refine g2_ok (ex_t e2 q3) ?_
  have e4 : xs.getD i (.non, .non) = xs[i] := by rw [List.getD_eq_getElem?_getD, List.getElem?_eq_getElem hi]; rfl
  have q5 : Q2 ((σ'.set j1 (some (xs.getD i (.non, .non)).1)).set j2 (some (xs.getD i (.non, .non)).2)) H'' := q _ (Ex.refl _)
  rw [e4] at q5
  exact q5
theorem wk_enum {j1 j2 : Nat} {a : Addr} {xs : List V} (h : EvA ta σ H [.ref a]) (hx : SqL K H a xs) :
    Wk (iEnum K ta) (g2 K j1 j2) σ H xs.length (fun i σ' => (σ'.set j1 (some (.int (i : Int)))).set j2 (some (xs.getD i .non))) := fun H0 e R k => h H0 e _ fun H1 e1 =>
  ⟨a, xs, rfl, ex_l (e.trans e1) hx, k _ H1 e1 (fun i H' e2 hi => ⟨⟨xs, xs[i], ex_l ((e.trans e1).trans e2) hx, List.getElem?_eq_getElem hi⟩, fun x H'' y σ' Q2 q => by
    obtain ⟨t, z, ex, nt, eh, f⟩ := y
    subst ex eh
    have q1 := f xs (ex_l ((e.trans e1).trans e2) hx)
    have e4 : xs.getD i .non = z := by rw [List.getD_eq_getElem?_getD, q1]; rfl
    have q2 : Q2 ((σ'.set j1 (some (.int (i : Int)))).set j2 (some (xs.getD i .non))) (upd H' t (.tup [.int (i : Nat), z])) := q _ (Ex.new nt)
    rw [e4] at q2
    exact g2_ok (st_of upd_same) q2⟩) fun H' e2 => ⟨xs, ex_l ((e.trans e1).trans e2) hx, Nat.le_refl _⟩⟩
/-! ### comprehensions -/
/-- what the first i turns give: f tells which, d what -/
def kept {α : Type} (n : Nat) (f : Nat → Bool) (d : Nat → α) : List α := ((List.range n).filter f).map d
theorem kept_yes {α : Type} {n : Nat} {f : Nat → Bool} {d : Nat → α} (h : f n = true) : kept (n + 1) f d = kept n f d ++ [d n] := by
  unfold kept
  rw [List.range_succ, List.filter_append, List.map_append, List.filter_cons, if_pos h] <;> rfl
theorem kept_no {α : Type} {n : Nat} {f : Nat → Bool} {d : Nat → α} (h : f n = false) : kept (n + 1) f d = kept n f d := by
  unfold kept
  rw [List.range_succ, List.filter_append, List.map_append, List.filter_cons, if_neg (by rw [h]; decide)]
  show _ ++ [] = _
  rw [List.append_nil]
theorem kept_len {α : Type} (n : Nat) (f : Nat → Bool) (d : Nat → α) : (kept n f d).length ≤ n := by
  unfold kept
  rw [List.length_map]
  have h := List.length_filter_le f (List.range n)
  rw [List.length_range] at h
  exact h
theorem kept_all {α : Type} (n : Nat) (d : Nat → α) : kept n (fun _ => true) d = (List.range n).map d := by
  unfold kept
  rw [List.filter_eq_self.mpr fun _ _ => rfl]
def joinH (N M : Hp) : Hp := fun b => match N b with
  | some o => some o
  | none => M b
theorem join_l {N M : Hp} : Ex N (joinH N M) := fun a o e => by unfold joinH; rw [e]
/-- the comprehension -/
theorem en_lc {α : Type} {n : Nat} {st : Nat → L2.St → L2.St} {vs : List Nat} {E : α → V → Hp → Prop} (f : Nat → Bool) (d : Nat → α) (hm : ∀ x, Mono (E x)) (hw : Wk wi g σ H n st) (hz : n ≤ 40000) (hs : ∀ i, wipe (st i (wipe σ vs)) vs = wipe σ vs)
    (ht : ∀ i H1, Ex H H1 → i < n → EvT tt (st i (wipe σ vs)) H1 (f i)) (he : ∀ i H1, Ex H H1 → i < n → f i = true → EvN te (st i (wipe σ vs)) H1 (E (d i))) :
    EvN (tLc wi g tt te vs) σ H (fun v N => ∃ a ys, v = .ref a ∧ N a = some (.lst ys) ∧ Pd E (kept n f d) ys N) := fun H0 e0 Q q => by
  refine hw H0 e0 _ fun J H1 e1 go stop => fun D hD => ?_
  refine ⟨fun i m H' => m = n - i ∧ i ≤ n ∧ Ex H1 H' ∧ ∃ ys N, H' D = some (.lst ys) ∧ N D = none ∧ Ex N H' ∧ Ex N (newp H1 H') ∧ Pd E (kept i f d) ys N, ⟨n, by omega, Nat.zero_le _, Ex.new hD, [], fun _ => none, upd_same, rfl, (fun a o z => nomatch z), (fun a o z => nomatch z), ?_⟩, ?_⟩
  · exact Paired.nil
  · rintro i m H' ⟨rfl, hi, ex, ys, N, h1, h2, h3, h3', h4⟩
    by_cases lt : i < n
    · obtain ⟨g1, g3⟩ := go i H' ex lt
      refine .inr ⟨g1, fun H'' => i + 1 ≤ n ∧ Ex H1 H'' ∧ ∃ ys N, H'' D = some (.lst ys) ∧ N D = none ∧ Ex N H'' ∧ Ex N (newp H1 H'') ∧ Pd E (kept (i + 1) f d) ys N, fun H'' z => ⟨n - (i + 1), by omega, rfl, z⟩, fun x H'' y => ?_⟩
      refine g3 x H'' y (wipe σ vs) _ fun H3 e3 => ⟨hs i, ?_⟩
      refine ht i H3 ((e0.trans e1).trans (ex.trans e3)) lt H3 (Ex.refl _) _ fun H4 e4 => ?_
      have hD4 : H4 D = some (.lst ys) := e4 D _ (e3 D _ h1)
      have e14 : Ex H1 H4 := ex.trans (e3.trans e4)
      cases fi : f i with
      | false =>
        show i + 1 ≤ n ∧ _
        refine ⟨lt, e14, ys, N, hD4, h2, h3.trans (e3.trans e4), h3'.trans (newp_mono2 (e3.trans e4)), ?_⟩
        rw [kept_no fi]
        exact h4
      | true =>
        rw [if_pos rfl]
        refine he i H4 (e0.trans (e1.trans e14)) lt fi H4 (Ex.refl _) _ fun v H5 e5 z => ⟨ys, e5 D _ hD4, ?_, lt, ?_, ys ++ [v], joinH N (newp H4 H5), upd_same, ?_, ?_, ?_, ?_⟩
        · exact sz_lt (by have := kept_len i f d; rw [← h4.length]; omega)
        · exact Ex.mut (e14.trans e5) hD
        · unfold joinH
          rw [h2]
          unfold newp
          rw [hD4]
        · intro a o z
          have na : a ≠ D := fun w => by
            rw [w] at z
            unfold joinH at z
            rw [h2] at z
            unfold newp at z
            rw [hD4] at z
            cases z
          rw [upd_ne na]
          unfold joinH at z
          cases w : N a with
          | some u => rw [w] at z; cases z; exact e5 a _ (e4 a _ (e3 a _ (h3 a _ w)))
          | none => rw [w] at z; exact newp_ex a _ z
        · intro a o z
          have na : a ≠ D := fun w => by
            rw [w] at z
            unfold joinH at z
            rw [h2] at z
            unfold newp at z
            rw [hD4] at z
            cases z
          have n1 : H1 a = none := by
            unfold joinH at z
            cases w : N a with
            | some u => exact newp_none (h3' a _ w)
            | none => rw [w] at z; exact fresh_back e14 (newp_none z)
          rw [newp_at n1, upd_ne na]
          unfold joinH at z
          cases w : N a with
          | some u => rw [w] at z; cases z; exact e5 a _ (e4 a _ (e3 a _ (h3 a _ w)))
          | none => rw [w] at z; exact newp_ex a _ z
        · rw [kept_yes fi]
          refine (h4.mono hm join_l).append (.cons (hm _ _ _ _ (fun a o w => ?_) z) .nil)
          unfold joinH
          cases u : N a with
          | some u' => 
            have := newp_none w
            rw [e4 a _ (e3 a _ (h3 a _ u))] at this
            cases this
          | none => exact w
    · have ei : i = n := by omega
      subst ei
      refine .inl ⟨stop H' ex, q _ H' (e1.trans ex) ⟨D, ys, rfl, ?_, h4.mono hm ?_⟩⟩
      · rw [newp_at (fresh_back e1 hD)]
        exact h1
      · exact h3'.trans (newp_mono e1)
/-- .. of plain values -/
theorem pd_eq {α : Type} {vf : α → V} : ∀ {xs : List α} {ys : List V}, Pd (fun x y _ => y = vf x) xs ys H → ys = xs.map vf
  | _, _, .nil => rfl
  | _, _, .cons r t => by rw [r, pd_eq t]; rfl
theorem el_lc {n : Nat} {st : Nat → L2.St → L2.St} {vs : List Nat} (f : Nat → Bool) (d : Nat → V) (hw : Wk wi g σ H n st) (hz : n ≤ 40000) (hs : ∀ i, wipe (st i (wipe σ vs)) vs = wipe σ vs)
    (ht : ∀ i H1, Ex H H1 → i < n → EvT tt (st i (wipe σ vs)) H1 (f i)) (he : ∀ i H1, Ex H H1 → i < n → f i = true → Ev te (st i (wipe σ vs)) H1 (d i)) : EvL (tLc wi g tt te vs) σ H (kept n f d) :=
  el_en ((en_lc (E := fun x y _ => y = x) f d (fun _ _ _ _ _ z => z) hw hz hs ht fun i H1 e lt fi => en_ev (he i H1 e lt fi)).imp fun v N ⟨a, ys, ev, ha, pd⟩ => ⟨a, ev, by
    have z := pd_eq (vf := fun x : V => x) pd
    rw [List.map_id'] at z
    rw [ha, z]⟩)
theorem et_yes {b : Bool} (h : b = true) : EvT tYes σ H b := fun H1 _ Q q => by rw [h] at q; exact q H1 (Ex.refl _)
end
end Lk

namespace Lk
open PySem PySem.Spec PyProof.Rows L2 Evl LE
/-! ### lists: [v] * n, xs + ys, xs[:i], xs[i:] -/
section
variable {ta tb tv tn : TE} {σ : L2.St} {H H' : Hp} {K : PySem.W.Frag} {x v : V} {xs ys : List V} {a : Addr}
theorem flat_one (n : Nat) (v : V) : (List.replicate n [v]).flatten = List.replicate n v := by
  induction n with
  | zero => rfl
  | succ n ih => rw [List.replicate_succ, List.flatten_cons, ih, List.replicate_succ]; rfl
theorem el_rep {n : Nat} (h1 : Ev tv σ H v) (h2 : Ev tn σ H (.int (n : Int))) (hn : n ≤ 100000) : EvL (tOp rRep (tLst (tCons tv tNil)) tn) σ H (List.replicate n v) := fun H1 e Q q =>
  (el_lst (ea_cons h1 ea_nil) (by show 1 ≤ 100000; decide)) H1 e _ fun l H2 _ e2 hl => h2 H2 (e.trans e2) _ fun H3 e3 => ⟨l, (n : Int), [v], rfl, rfl, e3 l _ hl, by omega, by omega, by
    rw [List.length_singleton, Int.toNat_natCast]
    exact Nat.le_trans (by omega) (show 100000 ≤ sizeLine by decide), fun p hp => q p _ (fresh_back (e2.trans e3) hp) ((e2.trans e3).trans (Ex.new hp)) (by rw [upd_same, Int.toNat_natCast, flat_one])⟩
theorem el_cat (h1 : EvL ta σ H xs) (h2 : EvL tb σ H ys) (hn : xs.length + ys.length ≤ 100000) : EvL (tOp rCat ta tb) σ H (xs ++ ys) := fun H1 e Q q =>
  h1 H1 e _ fun l H2 _ e2 hl => h2 H2 (e.trans e2) _ fun b H3 _ e3 hb => ⟨l, b, xs, ys, rfl, rfl, e3 l _ hl, hb, sz_of hn, fun p hp => q p _ (fresh_back (e2.trans e3) hp) ((e2.trans e3).trans (Ex.new hp)) upd_same⟩
theorem cut_take (xs : List V) (i : Nat) : cutV xs none (some (i : Int)) = xs.take i := by
  unfold cutV
  rw [HT.sIx_none, HT.sIx_nat]
  show (xs.drop 0).take (min i xs.length - 0) = xs.take i
  rw [List.drop_zero, Nat.sub_zero]
  by_cases h : i ≤ xs.length
  · rw [Nat.min_eq_left h]
  · rw [Nat.min_eq_right (by omega), List.take_length, List.take_of_length_le (by omega)]
theorem cut_drop (xs : List V) (i : Nat) : cutV xs (some (i : Int)) none = xs.drop i := by
  unfold cutV
  rw [HT.sIx_none, HT.sIx_nat]
  by_cases h : i ≤ xs.length
  · rw [Nat.min_eq_left h, List.take_of_length_le (by rw [List.length_drop]; omega)]
  · rw [Nat.min_eq_right (by omega), List.drop_of_length_le (Nat.le_refl _), List.drop_of_length_le (by omega)]
    simp
theorem el_take {i : Nat} (h : Ev ta σ H (.ref a)) (hx : SqL K H a xs) (h2 : Ev tb σ H (.int (i : Int))) : EvL (tSl (rSlL K) ta tNoPart (tPart tb)) σ H (xs.take i) := by
  have z := el_sl (lo := none) (hi := some (i : Int)) h eo_none (eo_some h2) hx
  rw [cut_take] at z
  exact z
theorem el_drop {i : Nat} (h : Ev ta σ H (.ref a)) (hx : SqL K H a xs) (h2 : Ev tb σ H (.int (i : Int))) : EvL (tSl (rSlL K) ta (tPart tb) tNoPart) σ H (xs.drop i) := by
  have z := el_sl (lo := some (i : Int)) (hi := none) h (eo_some h2) eo_none hx
  rw [cut_drop] at z
  exact z
theorem ev_add {i j : Int} (h1 : Ev ta σ H (.int i)) (h2 : Ev tb σ H (.int j)) : Ev (tOp (rI0 fun i j => .int (i + j)) ta tb) σ H (.int (i + j)) := ev_op h1 h2 rv_I0
theorem ev_sub {i j : Int} (h1 : Ev ta σ H (.int i)) (h2 : Ev tb σ H (.int j)) : Ev (tOp (rI0 fun i j => .int (i - j)) ta tb) σ H (.int (i - j)) := ev_op h1 h2 rv_I0
end
/-! ### deals -/
theorem sum_filter (n : Nat) (p : Nat → Bool) (f : Nat → Int) : (((List.range n).filter p).map f).sum = S n fun t => if p t = true then f t else 0 := by
  induction n with
  | zero => rfl
  | succ n ih =>
    rw [List.range_succ, List.filter_append, List.map_append, List.sum_append, ih, S_succ]
    by_cases h : p n = true
    · rw [List.filter_cons, if_pos h, if_pos h]
      simp
    · rw [List.filter_cons, if_neg h, if_neg h]
      simp
def heapL (os : List (Option Nat)) (j : Nat) : List Nat := (List.range os.length).filter fun t => decide (Dl os t = some j)
theorem heap_worth (T : List (List Int)) (os : List (Option Nat)) (i j : Nat) : worth T i (heapL os j) = val (wt T) os.length (Dl os) i j := by
  unfold worth heapL
  rw [sum_filter]
  refine S_congr fun t _ => ?_
  by_cases h : Dl os t = some j
  · rw [if_pos (decide_eq_true h), if_pos h]
  · rw [if_neg (by rw [decide_eq_false h]; decide), if_neg h]
theorem heap_lt {os : List (Option Nat)} {j t : Nat} (m : t ∈ heapL os j) : t < os.length := List.mem_range.mp (List.mem_filter.mp m).1
def sp_nothing_dealt (K : PySem.W.Frag) : Sp := fun vs H Q _ => ∃ a T h n, vs = [.ref a] ∧ GT K H a T h n ∧ RetL (List.replicate n .non) H Q
abbrev N_nothing_dealt : List Str := ["table"]
theorem sc_nothing_dealt : FnScope N_nothing_dealt ["table"] (defScope s_nothing_dealt) := ⟨rfl, rfl, rfl, by decide +kernel, rfl, by decide +kernel, by decide +kernel⟩
theorem ok_nothing_dealt {P : Program} {w : World} {K : PySem.W.Frag} {mg : Str → Option Value} {base : Heap} (TT : Top K mg) (O_things_of : Ok P w K mg base 1 "things_of" ["table"] [] (sp_things_of K)) : Ok P w K mg base 2 "nothing_dealt" ["table"] [] (sp_nothing_dealt K) := by
  refine TT.ok (d := d_nothing_dealt) 5 5 rfl rfl rfl rfl rfl sc_nothing_dealt (fun _ _ _ _ _ _ us hl => match us, hl with | [_], _ => rfl) (fun vs H Q E h => ?_) (fun cdv A outer s H vs Q E hr h => ?_)
  · obtain ⟨a, T, h, n, rfl, _⟩ := h; rfl
  · obtain ⟨a, T, h, n, rfl, g, k⟩ := h
    refine ⟨_, (pss_one (ps_ret (pe_op op_rep (pe_lst (pa_cons pe_non pa_nil)) (pe_cl O_things_of (hr.mono (by decide)) rfl (pa_cons (pv 0) pa_nil))))), ?_⟩
    exact s_retL (el_rep ev_c (c_things g (ev_var rfl)) (by have := g.2.n12; omega)) k
def sp_thing_given (K : PySem.W.Frag) : Sp := fun vs H Q _ => ∃ a b T h n os, ∃ t u : Nat, vs = [.ref a, .ref b, .int (t : Int), .int (u : Int)] ∧ GT K H a T h n ∧ SqL K H b (optsV os) ∧ os.length = n ∧ t < n ∧ u < h ∧ Dl os t = none ∧ RetL (optsV (os.set t (some u))) H Q
theorem set_cut {α : Type} : ∀ (xs : List α) (t : Nat) (x : α), t < xs.length → xs.take t ++ [x] ++ xs.drop (t + 1) = xs.set t x
  | [], _, _, h => absurd h (by simp)
  | _ :: _, 0, _, _ => rfl
  | a :: r, t + 1, x, h => by
    have ih := set_cut r t x (by simpa using h)
    show a :: (r.take t ++ [x] ++ r.drop (t + 1)) = a :: r.set t x
    rw [ih]
abbrev N_thing_given : List Str := ["table", "deal", "thing", "hand"]
theorem sc_thing_given : FnScope N_thing_given ["table", "deal", "thing", "hand"] (defScope s_thing_given) := ⟨rfl, rfl, rfl, by decide +kernel, rfl, by decide +kernel, by decide +kernel⟩
theorem ok_thing_given {P : Program} {w : World} {K : PySem.W.Frag} {mg : Str → Option Value} {base : Heap} (TT : Top K mg) (O_check_thing : Ok P w K mg base 2 "check_thing" ["table", "thing"] [] (sp_check_thing K)) (O_check_hand : Ok P w K mg base 2 "check_hand" ["table", "hand"] [] (sp_check_hand K)) : Ok P w K mg base 3 "thing_given" ["table", "deal", "thing", "hand"] [] (sp_thing_given K) := by
  refine TT.ok (d := d_thing_given) 6 6 rfl rfl rfl rfl rfl sc_thing_given (fun _ _ _ _ _ _ us hl => match us, hl with | [_, _, _, _], _ => rfl) (fun vs H Q E h => ?_) (fun cdv A outer s H vs Q E hr h => ?_)
  · obtain ⟨a, b, T, h, n, os, t, u, rfl, _⟩ := h; rfl
  · obtain ⟨a, b, T, h, n, os, t, u, rfl, g, hb, hl, ht, hu, hd, k⟩ := h
    refine ⟨_, (pss_cons (ps_expr (pe_cl O_check_thing (hr.mono (by decide)) rfl (pa_cons (pv 0) (pa_cons (pv 2) pa_nil))))
  (pss_cons (ps_expr (pe_cl O_check_hand (hr.mono (by decide)) rfl (pa_cons (pv 0) (pa_cons (pv 3) pa_nil))))
  (pss_cons (ps_if (pt_cmpR op_notN (pe_ix (ixL K) (pv 1) (pv 2) (fun _ _ => rfl)) pe_non (nomark _)) (pss_one ps_never) pss_nil)
  (pss_one (ps_ret (pe_op op_cat (pe_op op_cat (pe_slice (slL K) (pv 1) po_none (po_some (pv 2))) (pe_lst (pa_cons (pv 3) pa_nil))) (pe_slice (slL K) (pv 1) (po_some (pe_op op_add (pv 2) pe_int)) po_none))))))), ?_⟩
    have eo : (optsV os)[t]? = some .non := by
      rw [optsV_get (by omega), hd]
      rfl
    refine q_drop (c_checkT g ht (ev_var rfl) (ev_var rfl)) fun H1 e1 => q_drop (c_checkH (g.mono e1) hu (ev_var rfl) (ev_var rfl)) fun H2 e2 => ?_
    have e := e1.trans e2
    refine q_when (b := false) (et_test (ev_op (ev_op (ev_var rfl) (ev_var rfl) (rv_ixL (ex_l e hb) (atI_nat eo))) ev_c fun H3 _ Q q => ⟨rfl, q H3 (Ex.refl _)⟩)) (fun z => nomatch z) fun _ H3 e3 => ?_
    have e13 := e.trans e3
    refine s_retL (xs := optsV (os.set t (some u))) ?_ fun p H4 hp e4 h4 => k p H4 (fresh_back e13 hp) (e13.trans e4) h4
    have z := el_cat (el_cat (el_take (i := t) (ev_var (σ := [some (.ref a), some (.ref b), some (.int (t : Int)), some (.int (u : Int))]) (i := 1) rfl) (ex_l e13 hb) (ev_var (i := 2) rfl)) (el_lst (ea_cons (ev_var (i := 3) rfl) ea_nil) (by show 1 ≤ 100000; decide)) (by have := g.2.n12; rw [List.length_take, optsV_len]; simp; omega))
      (el_drop (i := t + 1) (ev_var (i := 1) rfl) (ex_l e13 hb) (ev_add (i := (t : Int)) (j := 1) (ev_var (i := 2) rfl) ev_c)) (by have := g.2.n12; rw [List.length_append, List.length_take, List.length_drop, optsV_len]; simp; omega)
    have ez : (optsV os).take t ++ [V.int (u : Int)] ++ (optsV os).drop (t + 1) = optsV (os.set t (some u)) := by
      rw [set_cut _ _ _ (by rw [optsV_len]; omega)]
      unfold optsV
      rw [List.map_set]
      rfl
    rw [ez] at z
    exact z
def sp_heap_of (K : PySem.W.Frag) : Sp := fun vs H Q _ => ∃ b os, ∃ j : Nat, vs = [.ref b, .int (j : Int)] ∧ SqL K H b (optsV os) ∧ os.length ≤ 40 ∧ RetL (natsV (heapL os j)) H Q
theorem oV_eq (o : Option Nat) (j : Nat) : scal (oV o) (.int (j : Int)) = true ∧ decide (oV o = V.int (j : Int)) = decide (o = some j) := by
  cases o with
  | none => exact ⟨rfl, by rw [decide_eq_false (by intro e; cases e), decide_eq_false (by intro e; cases e)]⟩
  | some k =>
    refine ⟨rfl, ?_⟩
    by_cases h : k = j
    · subst h
      exact (decide_eq_true rfl).trans (decide_eq_true rfl).symm
    · rw [decide_eq_false (by intro e; injection e with e; exact h (by omega)), decide_eq_false (by intro e; injection e with e; exact h e)]
abbrev N_heap_of : List Str := ["deal", "hand", "thing", "owner"]
theorem sc_heap_of : FnScope N_heap_of ["deal", "hand"] (defScope s_heap_of) := ⟨rfl, rfl, rfl, by decide +kernel, rfl, by decide +kernel, by decide +kernel⟩
theorem ok_heap_of {P : Program} {w : World} {K : PySem.W.Frag} {mg : Str → Option Value} {base : Heap} (TT : Top K mg)  : Ok P w K mg base 1 "heap_of" ["deal", "hand"] [] (sp_heap_of K) := by
  refine TT.ok (d := d_heap_of) 7 7 rfl rfl rfl rfl rfl sc_heap_of (fun _ _ _ _ _ _ us hl => match us, hl with | [_, _], _ => rfl) (fun vs H Q E h => ?_) (fun cdv A outer s H vs Q E hr h => ?_)
  · obtain ⟨b, os, j, rfl, _⟩ := h; rfl
  · obtain ⟨b, os, j, rfl, hb, hl, k⟩ := h
    refine ⟨_, (pss_one (ps_ret (pe_lc (own := [("thing", 2), ("owner", 3)]) rfl sc_heap_of.nd (wEnum K (TT.free 77) (pa_cons (pv 0) pa_nil)) (blkOk_by (N := N_heap_of) (sc := defScope s_heap_of) (by decide +kernel)) (fun _ _ _ _ _ => (gT2 K (n := 2) (pgs_cons (pg_name (i := 2) sc_heap_of.nd rfl (Or.inl rfl) (Or.inr rfl)) (pgs_cons (pg_name (i := 3) sc_heap_of.nd rfl (Or.inl rfl) (Or.inr rfl)) pgs_nil)))) (fun _ _ _ _ _ => pts_one (pt_cmpR op_eq (pv 3) (pv 1) (nomark _))) (fun _ _ _ _ _ => (pv 2))))), ?_⟩
    have hw := wk_enum (K := K) (j1 := 2) (j2 := 3) (ta := tCons (tVar 0) tNil) (σ := start N_heap_of [.ref b, .int (j : Int)]) (H := H) (ea_cons (ev_var rfl) ea_nil) hb
    rw [optsV_len] at hw
    refine s_retL (xs := natsV (heapL os j)) (el_lc (fun t => decide (Dl os t = some j)) (fun t => .int (t : Int)) (n := os.length) hw (by omega) (fun _ => rfl) (fun i H1 e1 hi => ?_) (fun i H1 e1 hi _ => ev_var rfl)) k
    · obtain ⟨s1, s2⟩ := oV_eq (Dl os i) j
      have ex : (optsV os).getD i .non = oV (Dl os i) := by rw [List.getD_eq_getElem?_getD, optsV_get hi]; rfl
      refine et_is (et_test (ev_op (ev_var rfl) (ev_var (v := .int (j : Int)) rfl) (rv_eq ?_))) ?_
      · rw [ex]; exact s1
      · rw [ex]; exact s2
section
variable {K : PySem.W.Frag} {H : Hp} {a b : Addr} {T : List (List Int)} {h n : Nat} {os : List (Option Nat)} {σ : L2.St} {ta tb tc td : TE} {E : XK}
theorem c_nothing (g : GT K H a T h n) (e1 : Ev ta σ H (.ref a)) : EvL (tCall (sp_nothing_dealt K) [] E (tCons ta tNil)) σ H (List.replicate n .non) :=
  el_callL (ea_cons e1 ea_nil) fun H1 e Q k => ⟨a, T, h, n, rfl, g.mono e, k⟩
theorem c_given {t u : Nat} (g : GT K H a T h n) (hb : SqL K H b (optsV os)) (hl : os.length = n) (ht : t < n) (hu : u < h) (hd : Dl os t = none) (e1 : Ev ta σ H (.ref a)) (e2 : Ev tb σ H (.ref b)) (e3 : Ev tc σ H (.int (t : Int))) (e4 : Ev td σ H (.int (u : Int))) :
    EvL (tCall (sp_thing_given K) [] E (tCons ta (tCons tb (tCons tc (tCons td tNil))))) σ H (optsV (os.set t (some u))) :=
  el_callL (ea_cons e1 (ea_cons e2 (ea_cons e3 (ea_cons e4 ea_nil)))) fun H1 e Q k => ⟨a, b, T, h, n, os, t, u, rfl, g.mono e, ex_l e hb, hl, ht, hu, hd, k⟩
theorem c_heap {j : Nat} (hb : SqL K H b (optsV os)) (hl : os.length ≤ 40) (e1 : Ev ta σ H (.ref b)) (e2 : Ev tb σ H (.int (j : Int))) : EvL (tCall (sp_heap_of K) [] E (tCons ta (tCons tb tNil))) σ H (natsV (heapL os j)) :=
  el_callL (ea_cons e1 (ea_cons e2 ea_nil)) fun H1 e Q k => ⟨b, os, j, rfl, ex_l e hb, hl, k⟩
end
/-- what its heap is worth to j, told of i -/
def vl (T : List (List Int)) (os : List (Option Nat)) (i j : Nat) : Int := val (wt T) os.length (Dl os) i j
def sp_share_of (K : PySem.W.Frag) : Sp := fun vs H Q _ => ∃ a b T h n os, ∃ i : Nat, vs = [.ref a, .ref b, .int (i : Int)] ∧ GT K H a T h n ∧ SqL K H b (optsV os) ∧ os.length = n ∧ i < h ∧ RetV (.int (vl T os i i)) H Q
abbrev N_share_of : List Str := ["table", "deal", "hand"]
theorem sc_share_of : FnScope N_share_of ["table", "deal", "hand"] (defScope s_share_of) := ⟨rfl, rfl, rfl, by decide +kernel, rfl, by decide +kernel, by decide +kernel⟩
theorem ok_share_of {P : Program} {w : World} {K : PySem.W.Frag} {mg : Str → Option Value} {base : Heap} (TT : Top K mg) (O_worth_of : Ok P w K mg base 3 "worth_of" ["table", "hand", "things"] [] (sp_worth_of K)) (O_heap_of : Ok P w K mg base 1 "heap_of" ["deal", "hand"] [] (sp_heap_of K)) : Ok P w K mg base 4 "share_of" ["table", "deal", "hand"] [] (sp_share_of K) := by
  refine TT.ok (d := d_share_of) 8 8 rfl rfl rfl rfl rfl sc_share_of (fun _ _ _ _ _ _ us hl => match us, hl with | [_, _, _], _ => rfl) (fun vs H Q E h => ?_) (fun cdv A outer s H vs Q E hr h => ?_)
  · obtain ⟨a, b, T, h, n, os, i, rfl, _⟩ := h; rfl
  · obtain ⟨a, b, T, h, n, os, i, rfl, g, hb, hl, hi, k⟩ := h
    refine ⟨_, (pss_one (ps_ret (pe_cl O_worth_of (hr.mono (by decide)) rfl (pa_cons (pv 0) (pa_cons (pv 2) (pa_cons (pe_cl O_heap_of (hr.mono (by decide)) rfl (pa_cons (pv 1) (pa_cons (pv 2) pa_nil))) pa_nil)))))), ?_⟩
    refine s_ret (ev_is (c_worthN g hi (fun t m => by have := heap_lt m; omega) (ev_var rfl) (ev_var rfl) (c_heap hb (by have := g.2.n12; omega) (ev_var rfl) (ev_var rfl))) ?_) k
    rw [heap_worth]
    rfl
section
variable {K : PySem.W.Frag} {H : Hp} {a b : Addr} {T : List (List Int)} {h n : Nat} {os : List (Option Nat)} {σ : L2.St} {ta tb tc td : TE} {E : XK}
theorem c_share {i : Nat} (g : GT K H a T h n) (hb : SqL K H b (optsV os)) (hl : os.length = n) (hi : i < h) (e1 : Ev ta σ H (.ref a)) (e2 : Ev tb σ H (.ref b)) (e3 : Ev tc σ H (.int (i : Int))) :
    Ev (tCall (sp_share_of K) [] E (tCons ta (tCons tb (tCons tc tNil)))) σ H (.int (vl T os i i)) :=
  ev_callV (ea_cons e1 (ea_cons e2 (ea_cons e3 ea_nil))) fun H1 e Q k => ⟨a, b, T, h, n, os, i, rfl, g.mono e, ex_l e hb, hl, hi, k⟩
end
def sharesL (T : List (List Int)) (h : Nat) (os : List (Option Nat)) : List Int := (List.range h).map fun i => vl T os i i
def sp_shares_of (K : PySem.W.Frag) : Sp := fun vs H Q _ => ∃ a b T h n os, vs = [.ref a, .ref b] ∧ GT K H a T h n ∧ SqL K H b (optsV os) ∧ os.length = n ∧ RetL (intsV (sharesL T h os)) H Q
abbrev N_shares_of : List Str := ["table", "deal", "hand"]
theorem sc_shares_of : FnScope N_shares_of ["table", "deal"] (defScope s_shares_of) := ⟨rfl, rfl, rfl, by decide +kernel, rfl, by decide +kernel, by decide +kernel⟩
theorem ok_shares_of {P : Program} {w : World} {K : PySem.W.Frag} {mg : Str → Option Value} {base : Heap} (TT : Top K mg) (O_share_of : Ok P w K mg base 4 "share_of" ["table", "deal", "hand"] [] (sp_share_of K)) (O_hands_of : Ok P w K mg base 1 "hands_of" ["table"] [] (sp_hands_of K)) : Ok P w K mg base 5 "shares_of" ["table", "deal"] [] (sp_shares_of K) := by
  refine TT.ok (d := d_shares_of) 9 9 rfl rfl rfl rfl rfl sc_shares_of (fun _ _ _ _ _ _ us hl => match us, hl with | [_, _], _ => rfl) (fun vs H Q E h => ?_) (fun cdv A outer s H vs Q E hr h => ?_)
  · obtain ⟨a, b, T, h, n, os, rfl, _⟩ := h; rfl
  · obtain ⟨a, b, T, h, n, os, rfl, g, hb, hl, k⟩ := h
    refine ⟨_, (pss_one (ps_ret (pe_lc (own := [("hand", 2)]) rfl sc_shares_of.nd (pi_range1 rfl (TT.free 71) (pa_cons (pe_cl O_hands_of (hr.mono (by decide)) rfl (pa_cons (pv 0) pa_nil)) pa_nil)) (blkOk_by (N := N_shares_of) (sc := defScope s_shares_of) (by decide +kernel)) (fun _ _ _ _ _ => (pg_name (i := 2) sc_shares_of.nd rfl (Or.inl rfl) (Or.inr rfl))) (fun _ _ _ _ _ => pts_nil) (fun _ _ _ _ _ => (pe_cl O_share_of (hr.mono (by decide)) rfl (pa_cons (pv 0) (pa_cons (pv 1) (pa_cons (pv 2) pa_nil)))))))), ?_⟩
    have z : kept h (fun _ => true) (fun i => V.int (vl T os i i)) = intsV (sharesL T h os) := by
      rw [kept_all]
      unfold intsV sharesL
      rw [List.map_map]
      rfl
    refine s_retL (xs := intsV (sharesL T h os)) ?_ k
    rw [← z]
    exact el_lc (fun _ => true) (fun i => .int (vl T os i i)) (wk_range1 (ea_cons (c_hands g (ev_var rfl)) ea_nil) (by have := g.2.h4; omega)) (by have := g.2.h4; omega) (fun _ => rfl) (fun i H1 e1 hi => et_yes rfl)
      (fun i H1 e1 hi _ => c_share (g.mono e1) (ex_l e1 hb) hl hi (ev_var rfl) (ev_var rfl) (ev_var rfl))
section
variable {K : PySem.W.Frag} {H : Hp} {a b : Addr} {T : List (List Int)} {h n : Nat} {os : List (Option Nat)} {σ : L2.St} {ta tb tc td : TE} {E : XK}
theorem c_shares (g : GT K H a T h n) (hb : SqL K H b (optsV os)) (hl : os.length = n) (e1 : Ev ta σ H (.ref a)) (e2 : Ev tb σ H (.ref b)) : EvL (tCall (sp_shares_of K) [] E (tCons ta (tCons tb tNil))) σ H (intsV (sharesL T h os)) :=
  el_callL (ea_cons e1 (ea_cons e2 ea_nil)) fun H1 e Q k => ⟨a, b, T, h, n, os, rfl, g.mono e, ex_l e hb, hl, k⟩
end
end Lk

namespace Lk
open PySem PySem.Spec PyProof.Rows L2 Evl LE
/-! ### what an expression leaves -/
def EvP (te : TE) (σ : L2.St) (H : Hp) (E : V → Hp → Prop) : Prop := ∀ H1, Ex H H1 → ∀ Q : VK, (∀ v H2, Ex H1 H2 → E v H2 → Q v H2) → te σ H1 Q
def RetP (E : V → Hp → Prop) (H : Hp) (Q : VK) : Prop := ∀ v H2, Ex H H2 → E v H2 → Q v H2
theorem en_ep {te : TE} {σ : L2.St} {H : Hp} {E : V → Hp → Prop} (m : Mono E) (h : EvN te σ H E) : EvP te σ H E := fun H1 e Q q => h H1 e Q fun v H2 e2 z => q v H2 e2 (m v _ _ newp_ex z)
theorem EvP.mono {te : TE} {σ : L2.St} {H H' : Hp} {E : V → Hp → Prop} (e : Ex H H') (h : EvP te σ H E) : EvP te σ H' E := fun H1 a Q q => h H1 (e.trans a) Q q
theorem ep_callP {sp : Sp} {dvs vs : List V} {E : XK} {ta : TA} {σ : L2.St} {H : Hp} {R : V → Hp → Prop} (h : EvA ta σ H vs) (hs : ∀ H1, Ex H H1 → ∀ Q : VK, RetP R H1 Q → sp (vs ++ dvs) H1 Q E) : EvP (tCall sp dvs E ta) σ H R := fun H1 e Q q =>
  h H1 e _ fun H2 e2 => hs H2 (e.trans e2) Q (fun v H3 e3 r => q v H3 (e2.trans e3) r)
theorem s_retP {te : TE} {σ : L2.St} {H : Hp} {D : Ends} {R : V → Hp → Prop} (h : EvP te σ H R) (k : ∀ v H1, Ex H H1 → R v H1 → D.rt v H1) : tRet te D σ H := h H (Ex.refl H) _ k
theorem s_asgP {te : TE} {σ : L2.St} {H : Hp} {D : Ends} {R : V → Hp → Prop} {i : Nat} (h : EvP te σ H R) (k : ∀ v H1, Ex H H1 → R v H1 → D.nx (σ.set i (some v)) H1) : tAsg te (gName i) D σ H := h H (Ex.refl H) _ k
theorem q_asgP {te : TE} {tz : TS} {σ : L2.St} {H : Hp} {D : Ends} {R : V → Hp → Prop} {i : Nat} (h : EvP te σ H R) (k : ∀ v H1, Ex H H1 → R v H1 → tz D (σ.set i (some v)) H1) : tSeq (tAsg te (gName i)) tz D σ H := s_asgP (D := { D with nx := tz D }) h k
theorem sqt_upd {K : PySem.W.Frag} {H : Hp} {l t : Addr} {xs ys : List V} {o : HO} (hl : H l = some (.lst xs)) (h : SqT K H t ys) : SqT K (upd H l o) t ys := by
  rcases h with (h | ⟨u, h⟩) | h
  · exact .inl (.inl (by rw [upd_ne (ne_of h hl (by intro q; cases q))]; exact h))
  · exact .inl (.inr ⟨u, by rw [upd_ne (ne_of h hl (by intro q; cases q))]; exact h⟩)
  · exact .inr h
/-- xs.extend(..) -/
theorem s_ext {K : PySem.W.Frag} {ta te : TE} {σ : L2.St} {H : Hp} {D : Ends} {l : Addr} {xs : List V} {G : List V → Hp → Prop} (hl : H l = some (.lst xs)) (ha : Ev ta σ H (.ref l)) (h : EvP te σ H (fun v H2 => ∃ b zs, v = .ref b ∧ H2 b = some (.lst zs) ∧ zs.length ≤ 50000 ∧ G zs H2)) (hz : xs.length ≤ 50000)
    (k : ∀ zs H1, Ex H H1 → H1 l = some (.lst xs) → G zs H1 → D.nx σ (upd H1 l (.lst (xs ++ zs)))) : tDrop (tBM K "list" rExtend ta (tCons te tNil)) D σ H := ha H (Ex.refl H) _ fun H1 e1 =>
  ⟨Or.inl ⟨rfl, xs, sq_of (e1 l _ hl)⟩, h H1 e1 _ fun v H2 e2 ⟨b, zs, ev, hb, hz2, g⟩ => ⟨l, b, xs, zs, rfl, by rw [ev], e2 l _ (e1 l _ hl), hb, sz_of (by omega), k zs H2 (e1.trans e2) (e2 l _ (e1 l _ hl)) g⟩⟩
/-! ### pairs of hands -/
def pV (p : Nat × Nat) : V × V := (.int (p.1 : Int), .int (p.2 : Int))
def pE (K : PySem.W.Frag) (p : Nat × Nat) : V → Hp → Prop := PairAt K (pV p)
theorem pE_mono (K : PySem.W.Frag) (p : Nat × Nat) : Mono (pE K p) := pair_mono _
/-- a list of these pairs -/
def Prs (K : PySem.W.Frag) (ps : List (Nat × Nat)) (v : V) (H : Hp) : Prop := ∃ a ys, v = .ref a ∧ H a = some (.lst ys) ∧ Pd (pE K) ps ys H
theorem prs_mono {K : PySem.W.Frag} {ps : List (Nat × Nat)} : Mono (Prs K ps) := fun v H H' e ⟨a, ys, ev, ha, pd⟩ => ⟨a, ys, ev, e a _ ha, pd.mono (pE_mono K) e⟩
theorem pd_upd {K : PySem.W.Frag} {ps : List (Nat × Nat)} {ys : List V} {H : Hp} {l : Addr} {xs : List V} {o : HO} (hl : H l = some (.lst xs)) (h : Pd (pE K) ps ys H) : Pd (pE K) ps ys (upd H l o) := Paired.mapP h fun p v ⟨t, ev, ht⟩ => ⟨t, ev, sqt_upd hl ht⟩
theorem wk_prs {K : PySem.W.Frag} {tl : TE} {σ : L2.St} {H : Hp} {j1 j2 : Nat} {ps : List (Nat × Nat)} (h : EvP tl σ H (Prs K ps)) :
    Wk (iList K tl) (g2 K j1 j2) σ H ps.length (fun i σ' => (σ'.set j1 (some (.int ((ps.getD i (0, 0)).1 : Int)))).set j2 (some (.int ((ps.getD i (0, 0)).2 : Int)))) := fun H0 e R k => h H0 e _ fun v H1 e1 z => by
  obtain ⟨a, ys, ev, ha1, pd1⟩ := z
  refine ⟨a, ev, ⟨ys, sq_of ha1⟩, k _ H1 e1 (fun i H' e2 hi => ?_) fun H' e2 => ⟨ys, ex_l e2 (sq_of ha1), by rw [pd1.length]; exact Nat.le_refl _⟩⟩
  have hi2 : i < ys.length := by rw [← pd1.length]; exact hi
  refine ⟨⟨ys, ys[i], ex_l e2 (sq_of ha1), List.getElem?_eq_getElem hi2⟩, fun x H'' y σ' Q2 q => ?_⟩
  obtain ⟨e3, f⟩ := y
  subst e3
  obtain ⟨y', q1, t, q2, q3⟩ := pd1.get (List.getElem?_eq_getElem hi)
  have q4 := f ys (ex_l e2 (sq_of ha1))
  rw [q1] at q4
  cases q4
  rw [q2]
  refine g2_ok (ex_t e2 q3) ?_
  have e4 : ps.getD i (0, 0) = ps[i] := by rw [List.getD_eq_getElem?_getD, List.getElem?_eq_getElem hi]; rfl
  have q5 : Q2 ((σ'.set j1 (some (.int ((ps.getD i (0, 0)).1 : Int)))).set j2 (some (.int ((ps.getD i (0, 0)).2 : Int)))) H'' := q _ (Ex.refl _)
  rw [e4] at q5
  exact q5
theorem kept_filter {α : Type} (ps : List α) (d : α) (q : α → Bool) : kept ps.length (fun i => q (ps.getD i d)) (fun i => ps.getD i d) = ps.filter q := by
  have gen : ∀ n, n ≤ ps.length → kept n (fun i => q (ps.getD i d)) (fun i => ps.getD i d) = (ps.take n).filter q := by
    intro n
    induction n with
    | zero => intro _; rfl
    | succ n ih =>
      intro h
      have e : ps.getD n d = ps[n] := by rw [List.getD_eq_getElem?_getD, List.getElem?_eq_getElem (by omega)]; rfl
      rw [List.take_succ, List.getElem?_eq_getElem (by omega), List.filter_append]
      cases z : q (ps.getD n d) with
      | true =>
        rw [kept_yes z, ih (by omega), e]
        rw [e] at z
        simp [z]
      | false =>
        rw [kept_no z, ih (by omega)]
        rw [e] at z
        simp [z]
  rw [gen _ (Nat.le_refl _), List.take_length]
def rowP (h i : Nat) : List (Nat × Nat) := ((List.range h).filter fun (j : Nat) => !decide (V.int (j : Int) = V.int (i : Int))).map fun j => (i, j)
def pairsL (h : Nat) : List (Nat × Nat) := (List.range h).flatMap (rowP h)
theorem rowP_len (h i : Nat) : (rowP h i).length ≤ h := by
  unfold rowP
  rw [List.length_map]
  have := List.length_filter_le (fun j => !decide (V.int ((j : Nat) : Int) = V.int (i : Int))) (List.range h)
  rw [List.length_range] at this
  exact this
theorem pairs_mem {h i j : Nat} : (i, j) ∈ pairsL h ↔ i < h ∧ j < h ∧ i ≠ j := by
  unfold pairsL rowP
  rw [List.mem_flatMap]
  constructor
  · rintro ⟨x, hx, m⟩
    obtain ⟨y, hy, e⟩ := List.mem_map.mp m
    cases e
    obtain ⟨h1, h2⟩ := List.mem_filter.mp hy
    refine ⟨List.mem_range.mp hx, List.mem_range.mp h1, fun e => ?_⟩
    subst e
    simp at h2
  · rintro ⟨h1, h2, h3⟩
    refine ⟨i, List.mem_range.mpr h1, List.mem_map.mpr ⟨j, List.mem_filter.mpr ⟨List.mem_range.mpr h2, ?_⟩, rfl⟩⟩
    rw [decide_eq_false (by intro e; injection e with e; exact h3 (by omega))]
    rfl
theorem flat_take (h m : Nat) (hm : m < h) : ((List.range h).take (m + 1)).flatMap (rowP h) = ((List.range h).take m).flatMap (rowP h) ++ rowP h m := by
  rw [List.take_succ, List.getElem?_range hm, List.flatMap_append]
  simp
theorem flat_len (h m : Nat) (hh : h ≤ 4) : (((List.range h).take m).flatMap (rowP h)).length ≤ 4 * m := by
  induction m with
  | zero => simp
  | succ m ih =>
    by_cases hm : m < h
    · rw [flat_take h m hm, List.length_append]
      have := rowP_len h m
      omega
    · rw [List.take_of_length_le (by rw [List.length_range]; omega)]
      rw [List.take_of_length_le (by rw [List.length_range]; omega)] at ih
      omega
def sp_pairs_of (K : PySem.W.Frag) : Sp := fun vs H Q _ => ∃ a T h n, vs = [.ref a] ∧ GT K H a T h n ∧ RetP (Prs K (pairsL h)) H Q
abbrev N_pairs_of : List Str := ["table", "found", "one", "other"]
theorem sc_pairs_of : FnScope N_pairs_of ["table"] (defScope s_pairs_of) := ⟨rfl, rfl, rfl, by decide +kernel, rfl, by decide +kernel, by decide +kernel⟩
theorem ok_pairs_of {P : Program} {w : World} {K : PySem.W.Frag} {mg : Str → Option Value} {base : Heap} (TT : Top K mg) (O_hands_of : Ok P w K mg base 1 "hands_of" ["table"] [] (sp_hands_of K)) : Ok P w K mg base 2 "pairs_of" ["table"] [] (sp_pairs_of K) := by
  refine TT.ok (d := d_pairs_of) 12 12 rfl rfl rfl rfl rfl sc_pairs_of (fun _ _ _ _ _ _ us hl => match us, hl with | [_], _ => rfl) (fun vs H Q E h => ?_) (fun cdv A outer s H vs Q E hr h => ?_)
  · obtain ⟨a, T, h, n, rfl, _⟩ := h; rfl
  · obtain ⟨a, T, h, n, rfl, g, k⟩ := h
    refine ⟨_, (pss_cons (ps_set (i := 1) sc_pairs_of.nd rfl (Or.inl rfl) (pe_lst pa_nil))
  (pss_cons (ps_for PassesOwn.never rfl (pi_range1 rfl (TT.free 71) (pa_cons (pe_cl O_hands_of (hr.mono (by decide)) rfl (pa_cons (pv 0) pa_nil)) pa_nil)) (pg_name (i := 2) sc_pairs_of.nd rfl (Or.inr rfl) (Or.inl rfl)) (pss_one (ps_expr (eBM K PySem.F.plainAttrs_list PySem.F.slot_list_extend PySem.F.type_list_extend mt_extend (pv 1) (pa_cons (pe_lc (own := [("other", 3)]) rfl sc_pairs_of.nd (pi_range1 rfl (TT.free 71) (pa_cons (pe_cl O_hands_of (hr.mono (by decide)) rfl (pa_cons (pv 0) pa_nil)) pa_nil)) (blkOk_by (N := N_pairs_of) (sc := defScope s_pairs_of) (by decide +kernel)) (fun _ _ _ _ _ => (pg_name (i := 3) sc_pairs_of.nd rfl (Or.inl rfl) (Or.inr rfl))) (fun _ _ _ _ _ => pts_one (pt_cmpR op_ne (pv 3) (pv 2) (nomark _))) (fun _ _ _ _ _ => (pe_tup (pa_cons (pv 2) (pa_cons (pv 3) pa_nil))))) pa_nil)))))
  (pss_one (ps_ret (pv 1))))), ?_⟩
    refine q_asgL (el_lst ea_nil (by decide)) fun l H1 nl e1 hl => ?_
    refine q_forR1 (n := (h : Int)) (ea_cons (c_hands (g.mono e1) (ev_var rfl)) ea_nil) (by have := g.2.h4; omega) (fun m σ' H' => ∃ ys v2, σ' = [some (.ref a), some (.ref l), v2, none] ∧ Ex H H' ∧ H' l = some (.lst ys) ∧ Pd (pE K) (((List.range h).take m).flatMap (rowP h)) ys H')
      (fun H2 e2 => ⟨[], none, rfl, e1.trans e2, e2 l _ hl, Paired.nil⟩) (fun m σ' H' hm p => ?_) (fun σ' H' p => ?_)
    · obtain ⟨ys, v2, rfl, ex, hl', pd⟩ := p
      have hm' : m < h := by omega
      refine s_ext (G := fun zs H2 => Pd (pE K) (rowP h m) zs H2) hl' (ev_var rfl) ?_ (by rw [← pd.length]; have := flat_len h m g.2.h4; have := g.2.h4; omega) fun zs H2 e2 hl2 gz => ?_
      · have hw := wk_range1 (ta := tCons (tCall (sp_hands_of K) [] E0 (tCons (tVar 0) tNil)) tNil) (j := 3) (n := h) (σ := [some (V.ref a), some (V.ref l), some (V.int (m : Int)), none]) (ea_cons (c_hands (g.mono ex) (ev_var rfl)) ea_nil) (by have := g.2.h4; omega)
        have z := en_lc (vs := [3]) (E := pE K) (fun j => !decide (V.int (j : Int) = V.int (m : Int))) (fun j => (m, j)) (pE_mono K) hw (by have := g.2.h4; omega) (fun _ => rfl)
          (fun j H3 e3 hj => et_test (ev_op (ev_var (i := 3) (v := .int (j : Int)) rfl) (ev_var (i := 2) (v := .int (m : Int)) rfl) (rv_ne rfl)))
          (fun j H3 e3 hj _ => (en_eu (eu_tup (ea_cons (ev_var (i := 2) (v := .int (m : Int)) rfl) (ea_cons (ev_var (i := 3) (v := .int (j : Int)) rfl) ea_nil)) (by show 2 ≤ 100000; decide))).imp fun v N ⟨t, ev, ht⟩ => ⟨t, ev, st_of ht⟩)
        refine en_ep (E := fun v H2 => ∃ b zs, v = .ref b ∧ H2 b = some (.lst zs) ∧ zs.length ≤ 50000 ∧ Pd (pE K) (rowP h m) zs H2) (fun v H4 H5 e ⟨b, zs, h1, h2, h3, h4⟩ => ⟨b, zs, h1, e b _ h2, h3, h4.mono (pE_mono K) e⟩) (z.imp fun v N ⟨b, zs, h1, h2, h3⟩ => ⟨b, zs, h1, h2, ?_, h3⟩)
        have l3 := h3.length
        have := kept_len h (fun j => !decide (V.int (j : Int) = V.int (m : Int))) (fun j => (m, j))
        have := g.2.h4
        omega
      · refine ⟨ys ++ zs, _, rfl, Ex.mut (ex.trans e2) nl, upd_same, ?_⟩
        rw [flat_take h m hm']
        exact pd_upd hl2 ((pd.mono (pE_mono K) e2).append gz)
    · obtain ⟨ys, v2, rfl, ex, hl', pd⟩ := p
      refine s_ret (ev_var rfl) fun H2 e2 => k _ H2 (ex.trans e2) ⟨l, ys, rfl, e2 l _ hl', ?_⟩
      rw [Int.toNat_natCast, List.take_of_length_le (by rw [List.length_range]; exact Nat.le_refl _)] at pd
      exact pd.mono (pE_mono K) e2
def sp_heap_seen (K : PySem.W.Frag) : Sp := fun vs H Q _ => ∃ a b T h n os, ∃ i j : Nat, vs = [.ref a, .ref b, .int (i : Int), .int (j : Int)] ∧ GT K H a T h n ∧ SqL K H b (optsV os) ∧ os.length = n ∧ i < h ∧ RetV (.int (vl T os i j)) H Q
abbrev N_heap_seen : List Str := ["table", "deal", "one", "other"]
theorem sc_heap_seen : FnScope N_heap_seen ["table", "deal", "one", "other"] (defScope s_heap_seen) := ⟨rfl, rfl, rfl, by decide +kernel, rfl, by decide +kernel, by decide +kernel⟩
theorem ok_heap_seen {P : Program} {w : World} {K : PySem.W.Frag} {mg : Str → Option Value} {base : Heap} (TT : Top K mg) (O_worth_of : Ok P w K mg base 3 "worth_of" ["table", "hand", "things"] [] (sp_worth_of K)) (O_heap_of : Ok P w K mg base 1 "heap_of" ["deal", "hand"] [] (sp_heap_of K)) : Ok P w K mg base 4 "heap_seen" ["table", "deal", "one", "other"] [] (sp_heap_seen K) := by
  refine TT.ok (d := d_heap_seen) 10 10 rfl rfl rfl rfl rfl sc_heap_seen (fun _ _ _ _ _ _ us hl => match us, hl with | [_, _, _, _], _ => rfl) (fun vs H Q E h => ?_) (fun cdv A outer s H vs Q E hr h => ?_)
  · obtain ⟨a, b, T, h, n, os, i, j, rfl, _⟩ := h; rfl
  · obtain ⟨a, b, T, h, n, os, i, j, rfl, g, hb, hl, hi, k⟩ := h
    refine ⟨_, (pss_one (ps_ret (pe_cl O_worth_of (hr.mono (by decide)) rfl (pa_cons (pv 0) (pa_cons (pv 2) (pa_cons (pe_cl O_heap_of (hr.mono (by decide)) rfl (pa_cons (pv 1) (pa_cons (pv 3) pa_nil))) pa_nil)))))), ?_⟩
    refine s_ret (ev_is (c_worthN g hi (fun t m => by have := heap_lt m; omega) (ev_var rfl) (ev_var rfl) (c_heap hb (by have := g.2.n12; omega) (ev_var rfl) (ev_var rfl))) ?_) k
    rw [heap_worth]
    rfl
def envB (T : List (List Int)) (os : List (Option Nat)) (p : Nat × Nat) : Bool := decide (vl T os p.1 p.1 < vl T os p.1 p.2)
def sp_envies (K : PySem.W.Frag) : Sp := fun vs H Q _ => ∃ a b T h n os, ∃ i j : Nat, vs = [.ref a, .ref b, .int (i : Int), .int (j : Int)] ∧ GT K H a T h n ∧ SqL K H b (optsV os) ∧ os.length = n ∧ i < h ∧ RetV (.bl (envB T os (i, j))) H Q
section
variable {K : PySem.W.Frag} {H : Hp} {a b : Addr} {T : List (List Int)} {h n : Nat} {os : List (Option Nat)} {σ : L2.St} {ta tb tc td te : TE} {E : XK}
theorem c_seen {i j : Nat} (g : GT K H a T h n) (hb : SqL K H b (optsV os)) (hl : os.length = n) (hi : i < h) (e1 : Ev ta σ H (.ref a)) (e2 : Ev tb σ H (.ref b)) (e3 : Ev tc σ H (.int (i : Int))) (e4 : Ev td σ H (.int (j : Int))) :
    Ev (tCall (sp_heap_seen K) [] E (tCons ta (tCons tb (tCons tc (tCons td tNil))))) σ H (.int (vl T os i j)) :=
  ev_callV (ea_cons e1 (ea_cons e2 (ea_cons e3 (ea_cons e4 ea_nil)))) fun H1 e Q k => ⟨a, b, T, h, n, os, i, j, rfl, g.mono e, ex_l e hb, hl, hi, k⟩
theorem c_envies {i j : Nat} (g : GT K H a T h n) (hb : SqL K H b (optsV os)) (hl : os.length = n) (hi : i < h) (e1 : Ev ta σ H (.ref a)) (e2 : Ev tb σ H (.ref b)) (e3 : Ev tc σ H (.int (i : Int))) (e4 : Ev td σ H (.int (j : Int))) :
    Ev (tCall (sp_envies K) [] E (tCons ta (tCons tb (tCons tc (tCons td tNil))))) σ H (.bl (envB T os (i, j))) :=
  ev_callV (ea_cons e1 (ea_cons e2 (ea_cons e3 (ea_cons e4 ea_nil)))) fun H1 e Q k => ⟨a, b, T, h, n, os, i, j, rfl, g.mono e, ex_l e hb, hl, hi, k⟩
theorem c_pairs (g : GT K H a T h n) (e1 : Ev ta σ H (.ref a)) : EvP (tCall (sp_pairs_of K) [] E (tCons ta tNil)) σ H (Prs K (pairsL h)) :=
  ep_callP (ea_cons e1 ea_nil) fun H1 e Q k => ⟨a, T, h, n, rfl, g.mono e, k⟩
end
abbrev N_envies : List Str := ["table", "deal", "one", "other"]
theorem sc_envies : FnScope N_envies ["table", "deal", "one", "other"] (defScope s_envies) := ⟨rfl, rfl, rfl, by decide +kernel, rfl, by decide +kernel, by decide +kernel⟩
theorem ok_envies {P : Program} {w : World} {K : PySem.W.Frag} {mg : Str → Option Value} {base : Heap} (TT : Top K mg) (O_heap_seen : Ok P w K mg base 4 "heap_seen" ["table", "deal", "one", "other"] [] (sp_heap_seen K)) (O_share_of : Ok P w K mg base 4 "share_of" ["table", "deal", "hand"] [] (sp_share_of K)) : Ok P w K mg base 5 "envies" ["table", "deal", "one", "other"] [] (sp_envies K) := by
  refine TT.ok (d := d_envies) 11 11 rfl rfl rfl rfl rfl sc_envies (fun _ _ _ _ _ _ us hl => match us, hl with | [_, _, _, _], _ => rfl) (fun vs H Q E h => ?_) (fun cdv A outer s H vs Q E hr h => ?_)
  · obtain ⟨a, b, T, h, n, os, i, j, rfl, _⟩ := h; rfl
  · obtain ⟨a, b, T, h, n, os, i, j, rfl, g, hb, hl, hi, k⟩ := h
    refine ⟨_, (pss_one (ps_ret (pe_cmpR op_gt (pe_cl O_heap_seen (hr.mono (by decide)) rfl (pa_cons (pv 0) (pa_cons (pv 1) (pa_cons (pv 2) (pa_cons (pv 3) pa_nil))))) (pe_cl O_share_of (hr.mono (by decide)) rfl (pa_cons (pv 0) (pa_cons (pv 1) (pa_cons (pv 2) pa_nil)))) (nomark _)))), ?_⟩
    exact s_ret (ev_op (c_seen (j := j) g hb hl hi (ev_var rfl) (ev_var rfl) (ev_var rfl) (ev_var rfl)) (c_share g hb hl hi (ev_var rfl) (ev_var rfl) (ev_var rfl)) rv_I0) k
def enviesL (T : List (List Int)) (h : Nat) (os : List (Option Nat)) : List (Nat × Nat) := (pairsL h).filter (envB T os)
theorem pairs_len {h : Nat} (hh : h ≤ 4) : (pairsL h).length ≤ 16 := by
  have z := flat_len h h hh
  rw [List.take_of_length_le (by rw [List.length_range]; exact Nat.le_refl _)] at z
  unfold pairsL
  omega
def sp_envies_of (K : PySem.W.Frag) : Sp := fun vs H Q _ => ∃ a b T h n os, vs = [.ref a, .ref b] ∧ GT K H a T h n ∧ SqL K H b (optsV os) ∧ os.length = n ∧ RetP (Prs K (enviesL T h os)) H Q
theorem getD_mem {α : Type} {xs : List α} {i : Nat} {d : α} (h : i < xs.length) : xs.getD i d ∈ xs := by
  rw [List.getD_eq_getElem?_getD, List.getElem?_eq_getElem h]
  exact List.getElem_mem h
abbrev N_envies_of : List Str := ["table", "deal", "one", "other"]
theorem sc_envies_of : FnScope N_envies_of ["table", "deal"] (defScope s_envies_of) := ⟨rfl, rfl, rfl, by decide +kernel, rfl, by decide +kernel, by decide +kernel⟩
theorem ok_envies_of {P : Program} {w : World} {K : PySem.W.Frag} {mg : Str → Option Value} {base : Heap} (TT : Top K mg) (O_pairs_of : Ok P w K mg base 2 "pairs_of" ["table"] [] (sp_pairs_of K)) (O_envies : Ok P w K mg base 5 "envies" ["table", "deal", "one", "other"] [] (sp_envies K)) : Ok P w K mg base 6 "envies_of" ["table", "deal"] [] (sp_envies_of K) := by
  refine TT.ok (d := d_envies_of) 13 13 rfl rfl rfl rfl rfl sc_envies_of (fun _ _ _ _ _ _ us hl => match us, hl with | [_, _], _ => rfl) (fun vs H Q E h => ?_) (fun cdv A outer s H vs Q E hr h => ?_)
  · obtain ⟨a, b, T, h, n, os, rfl, _⟩ := h; rfl
  · obtain ⟨a, b, T, h, n, os, rfl, g, hb, hl, k⟩ := h
    refine ⟨_, (pss_one (ps_ret (pe_lc (own := [("one", 2), ("other", 3)]) rfl sc_envies_of.nd (wList K (pe_cl O_pairs_of (hr.mono (by decide)) rfl (pa_cons (pv 0) pa_nil))) (blkOk_by (N := N_envies_of) (sc := defScope s_envies_of) (by decide +kernel)) (fun _ _ _ _ _ => (gT2 K (n := 2) (pgs_cons (pg_name (i := 2) sc_envies_of.nd rfl (Or.inl rfl) (Or.inr rfl)) (pgs_cons (pg_name (i := 3) sc_envies_of.nd rfl (Or.inl rfl) (Or.inr rfl)) pgs_nil)))) (fun _ _ _ _ _ => pts_one (pt_val (pe_cl O_envies (hr.mono (by decide)) rfl (pa_cons (pv 0) (pa_cons (pv 1) (pa_cons (pv 2) (pa_cons (pv 3) pa_nil))))))) (fun _ _ _ _ _ => (pe_tup (pa_cons (pv 2) (pa_cons (pv 3) pa_nil))))))), ?_⟩
    have hw := wk_prs (j1 := 2) (j2 := 3) (σ := start N_envies_of [.ref a, .ref b]) (c_pairs (E := E0) (ta := tVar 0) g (ev_var rfl))
    refine s_retP (R := Prs K (enviesL T h os)) (en_ep prs_mono ((en_lc (vs := [2, 3]) (E := pE K) (fun i => envB T os ((pairsL h).getD i (0, 0))) (fun i => (pairsL h).getD i (0, 0)) (pE_mono K) hw (by have := pairs_len g.2.h4; omega) (fun _ => rfl) (fun i H1 e1 hi => ?_) (fun i H1 e1 hi _ => ?_)).imp ?_)) k
    · have m := getD_mem (d := (0, 0)) hi
      exact et_B (c_envies (g.mono e1) (ex_l e1 hb) hl (pairs_mem.mp (show ((((pairsL h).getD i (0, 0)).1, ((pairsL h).getD i (0, 0)).2) ∈ pairsL h) from m)).1 (ev_var rfl) (ev_var rfl) (ev_var rfl) (ev_var rfl))
    · exact (en_eu (eu_tup (ea_cons (ev_var rfl) (ea_cons (ev_var rfl) ea_nil)) (by show 2 ≤ 100000; decide))).imp fun v N ⟨t, ev, ht⟩ => ⟨t, ev, st_of ht⟩
    · rintro v N ⟨c, ys, h1, h2, h3⟩
      rw [kept_filter] at h3
      exact ⟨c, ys, h1, h2, h3⟩
end Lk

namespace Lk
open PySem PySem.Spec PyProof.Rows L2 Evl LE
/-! ### the spare thing; fair -/
theorem rv_isN {x : V} {H : Hp} : RV (fun x y H Q => y = .non ∧ Q (.bl (decide (x = .non))) H) x .non H (.bl (decide (x = .non))) := fun H1 _ Q q => ⟨rfl, q H1 (Ex.refl _)⟩
theorem rv_noN {x : V} {H : Hp} : RV (fun x y H Q => y = .non ∧ Q (.bl (!decide (x = .non))) H) x .non H (.bl (!decide (x = .non))) := fun H1 _ Q q => ⟨rfl, q H1 (Ex.refl _)⟩
theorem oV_non (o : Option Nat) : decide (oV o = .non) = o.isNone := by cases o <;> rfl
theorem range_getD {α β : Type} (ps : List α) (d : α) (f : α → β) : (List.range ps.length).map (fun i => f (ps.getD i d)) = ps.map f := by
  have z := kept_filter (ps.map f) (f d) (fun _ => true)
  rw [kept_all, List.length_map, List.filter_eq_self.mpr fun _ _ => rfl] at z
  rw [← z]
  refine List.map_congr_left fun i hi => ?_
  have h := List.mem_range.mp hi
  rw [List.getD_eq_getElem?_getD, List.getD_eq_getElem?_getD, List.getElem?_map, List.getElem?_eq_getElem h]
  rfl
section
variable {K : PySem.W.Frag} {H : Hp} {σ : L2.St} {te : TE} {bs : List Bool} {ns : List Int}
theorem ev_anyN (h : EvL te σ H (bs.map V.bl)) : Ev (tCB (rAny K) (tCons te tNil)) σ H (.bl (bs.any id)) := fun H1 e Q q => h H1 e _ fun p H2 _ e2 hp => ⟨p, bs, rfl, sq_of hp, q H2 e2⟩
theorem ev_allN (h : EvL te σ H (bs.map V.bl)) : Ev (tCB (rAll K) (tCons te tNil)) σ H (.bl (bs.all id)) := fun H1 e Q q => h H1 e _ fun p H2 _ e2 hp => ⟨p, bs, rfl, sq_of hp, q H2 e2⟩
theorem ev_sumN (h : EvL te σ H (intsV ns)) : Ev (tCB (rSum K) (tCons te tNil)) σ H (.int ns.sum) := fun H1 e Q q => h H1 e _ fun p H2 _ e2 hp => ⟨p, ns, rfl, sq_of hp, q H2 e2⟩
end
def spStep (T : List (List Int)) (i : Nat) (s : Option Nat) (t : Nat) : Option Nat := match s with
  | none => some t
  | some g => if wt T i g < wt T i t then some t else some g
def spareL (T : List (List Int)) (os : List (Option Nat)) (i j : Nat) : Option Nat := (heapL os j).foldl (spStep T i) none
theorem sp_fold (T : List (List Int)) (i : Nat) : ∀ (l : List Nat) (s : Option Nat), (s = none ∧ l = [] ∧ l.foldl (spStep T i) s = none) ∨
    ∃ g, l.foldl (spStep T i) s = some g ∧ (s = some g ∨ g ∈ l) ∧ (∀ t, t ∈ l → wt T i t ≤ wt T i g) ∧ ∀ g0, s = some g0 → wt T i g0 ≤ wt T i g
  | [], none => .inl ⟨rfl, rfl, rfl⟩
  | [], some g => .inr ⟨g, rfl, .inl rfl, fun _ h => absurd h List.not_mem_nil, fun g0 e => by cases e; exact Int.le_refl _⟩
  | x :: l, s => by
    rcases sp_fold T i l (spStep T i s x) with ⟨h, _⟩ | ⟨g, h1, h2, h3, h4⟩
    · exfalso
      cases s with
      | none => cases h
      | some g0 =>
        have h' : (if wt T i g0 < wt T i x then some x else some g0) = none := h
        split at h' <;> cases h'
    · refine .inr ⟨g, h1, ?_, ?_, ?_⟩
      · rcases h2 with h2 | h2
        · cases s with
          | none => cases h2; exact .inr List.mem_cons_self
          | some g0 =>
            have h2' : (if wt T i g0 < wt T i x then some x else some g0) = some g := h2
            split at h2'
            · cases h2'; exact .inr List.mem_cons_self
            · cases h2'; exact .inl rfl
        · exact .inr (List.mem_cons_of_mem _ h2)
      · intro t ht
        rcases List.mem_cons.mp ht with e | ht
        · subst e
          cases s with
          | none => exact h4 t rfl
          | some g0 =>
            by_cases q : wt T i g0 < wt T i t
            · exact h4 t (by show (if wt T i g0 < wt T i t then some t else some g0) = some t; rw [if_pos q])
            · have := h4 g0 (by show (if wt T i g0 < wt T i t then some t else some g0) = some g0; rw [if_neg q])
              omega
        · exact h3 t ht
      · intro g0 e
        subst e
        by_cases q : wt T i g0 < wt T i x
        · have := h4 x (by show (if wt T i g0 < wt T i x then some x else some g0) = some x; rw [if_pos q])
          omega
        · exact h4 g0 (by show (if wt T i g0 < wt T i x then some x else some g0) = some g0; rw [if_neg q])
def sp_spare_of (K : PySem.W.Frag) : Sp := fun vs H Q _ => ∃ a b T h n os, ∃ i j : Nat, vs = [.ref a, .ref b, .int (i : Int), .int (j : Int)] ∧ GT K H a T h n ∧ SqL K H b (optsV os) ∧ os.length = n ∧ i < h ∧ RetV (oV (spareL T os i j)) H Q
abbrev N_spare_of : List Str := ["table", "deal", "one", "other", "spare", "thing"]
theorem sc_spare_of : FnScope N_spare_of ["table", "deal", "one", "other"] (defScope s_spare_of) := ⟨rfl, rfl, rfl, by decide +kernel, rfl, by decide +kernel, by decide +kernel⟩
theorem ok_spare_of {P : Program} {w : World} {K : PySem.W.Frag} {mg : Str → Option Value} {base : Heap} (TT : Top K mg) (O_heap_of : Ok P w K mg base 1 "heap_of" ["deal", "hand"] [] (sp_heap_of K)) : Ok P w K mg base 2 "spare_of" ["table", "deal", "one", "other"] [] (sp_spare_of K) := by
  refine TT.ok (d := d_spare_of) 14 14 rfl rfl rfl rfl rfl sc_spare_of (fun _ _ _ _ _ _ us hl => match us, hl with | [_, _, _, _], _ => rfl) (fun vs H Q E h => ?_) (fun cdv A outer s H vs Q E hr h => ?_)
  · obtain ⟨a, b, T, h, n, os, i, j, rfl, _⟩ := h; rfl
  · obtain ⟨a, b, T, h, n, os, i, j, rfl, g, hb, hl, hi, k⟩ := h
    refine ⟨_, (pss_cons (ps_set (i := 4) sc_spare_of.nd rfl (Or.inl rfl) pe_non)
  (pss_cons (ps_for PassesOwn.never rfl (wList K (pe_cl O_heap_of (hr.mono (by decide)) rfl (pa_cons (pv 1) (pa_cons (pv 3) pa_nil)))) (pg_name (i := 5) sc_spare_of.nd rfl (Or.inl rfl) (Or.inr rfl)) (pss_one (ps_if (PW.pt (pw_or (pt_cmpR op_isN (pv 4) pe_non (nomark _)) (pw_or1 (pt_cmpR op_gt (pe_ix (ixL K) (pe_ix (ixL K) (pv 0) (pv 2) (fun _ _ => rfl)) (pv 5) (fun _ _ => rfl)) (pe_ix (ixL K) (pe_ix (ixL K) (pv 0) (pv 2) (fun _ _ => rfl)) (pv 4) (fun _ _ => rfl)) (nomark _))))) (pss_one (ps_set (i := 4) sc_spare_of.nd rfl (Or.inl rfl) (pv 5))) pss_nil)))
  (pss_one (ps_ret (pv 4))))), ?_⟩
    refine q_asg ev_c fun H1 e1 => ?_
    refine q_forNLn (xs := natsV (heapL os j)) (c_heap (ex_l e1 hb) (by have := g.2.n12; omega) (ev_var rfl) (ev_var rfl)) (fun p m σ' H' => ∃ v, σ' = [some (.ref a), some (.ref b), some (.int (i : Int)), some (.int (j : Int)), some (oV (((heapL os j).take m).foldl (spStep T i) none)), v] ∧ Ex H H' ∧ H' p = some (.lst (natsV (heapL os j))))
      (fun p H2 _ e2 hp => ⟨none, rfl, e1.trans e2, hp⟩) (fun p m σ' H' _ ⟨_, _, _, hp⟩ => sq_of hp) (fun p m x σ' H' hx pr => ?_) (fun p σ' H' pr => ?_)
    · obtain ⟨v, rfl, ex, hp⟩ := pr
      obtain ⟨t, ht, rfl⟩ := natsV_at hx
      have htn : t < n := by have := heap_lt (List.mem_of_getElem? ht); omega
      have et : ((heapL os j).take (m + 1)).foldl (spStep T i) none = spStep T i (((heapL os j).take m).foldl (spStep T i) none) t := by
        rw [List.take_succ, ht, List.foldl_append]
        rfl
      have hs : ∀ g0, ((heapL os j).take m).foldl (spStep T i) none = some g0 → g0 < n := fun g0 e => by
        rcases sp_fold T i ((heapL os j).take m) none with ⟨_, _, z⟩ | ⟨g1, z1, z2, _⟩
        · rw [z] at e; cases e
        · rw [z1] at e
          cases e
          rcases z2 with z2 | z2
          · cases z2
          · have := heap_lt (List.mem_of_mem_take z2)
            omega
      rw [et]
      generalize ((heapL os j).take m).foldl (spStep T i) none = s at hs
      cases s with
      | none =>
        refine s_when (b := true) (et_is (et_or (a := true) (b := false) (et_test (ev_op (ev_var rfl) ev_c rv_isN)) (fun z => nomatch z)) rfl) (fun _ H2 e2 => ?_) (fun z => nomatch z)
        exact s_asg (ev_var rfl) fun H3 e3 => ⟨_, rfl, (ex.trans e2).trans e3, e3 p _ (e2 p _ hp)⟩
      | some g0 =>
        have hg0 := hs g0 rfl
        refine s_when (b := decide (wt T i g0 < wt T i t)) (et_is (et_or (a := false) (et_test (ev_op (ev_var rfl) ev_c rv_isN)) (fun _ => et_test (ev_op (ev_cell (g.mono ex) hi htn (ev_var rfl) (ev_var rfl) (ev_var rfl)) (ev_cell (g.mono ex) hi hg0 (ev_var rfl) (ev_var rfl) (ev_var rfl)) rv_I0))) rfl) (fun z H2 e2 => ?_) (fun z H2 e2 => ?_)
        · have es : spStep T i (some g0) t = some t := by
            show (if wt T i g0 < wt T i t then some t else some g0) = some t
            rw [if_pos (of_decide_eq_true z)]
          rw [es]
          exact s_asg (ev_var rfl) fun H3 e3 => ⟨some (.int (t : Int)), rfl, (ex.trans e2).trans e3, e3 p _ (e2 p _ hp)⟩
        · have es : spStep T i (some g0) t = some g0 := by
            show (if wt T i g0 < wt T i t then some t else some g0) = some g0
            rw [if_neg (of_decide_eq_false z)]
          rw [es]
          exact ⟨some (.int (t : Int)), rfl, ex.trans e2, e2 p _ hp⟩
    · obtain ⟨v, rfl, ex, hp⟩ := pr
      refine s_ret (ev_is (ev_var rfl) ?_) fun H2 e2 => k H2 (ex.trans e2)
      rw [natsV_len, List.take_length]
      rfl
def butB (T : List (List Int)) (os : List (Option Nat)) (i j t : Nat) : Bool := decide (vl T os i i < vl T os i j - wt T i t)
def sp_envies_but (K : PySem.W.Frag) : Sp := fun vs H Q _ => ∃ a b T h n os, ∃ i j t : Nat, vs = [.ref a, .ref b, .int (i : Int), .int (j : Int), .int (t : Int)] ∧ GT K H a T h n ∧ SqL K H b (optsV os) ∧ os.length = n ∧ i < h ∧ t < n ∧ RetV (.bl (butB T os i j t)) H Q
abbrev N_envies_but : List Str := ["table", "deal", "one", "other", "thing"]
theorem sc_envies_but : FnScope N_envies_but ["table", "deal", "one", "other", "thing"] (defScope s_envies_but) := ⟨rfl, rfl, rfl, by decide +kernel, rfl, by decide +kernel, by decide +kernel⟩
theorem ok_envies_but {P : Program} {w : World} {K : PySem.W.Frag} {mg : Str → Option Value} {base : Heap} (TT : Top K mg) (O_share_of : Ok P w K mg base 4 "share_of" ["table", "deal", "hand"] [] (sp_share_of K)) (O_heap_seen : Ok P w K mg base 4 "heap_seen" ["table", "deal", "one", "other"] [] (sp_heap_seen K)) : Ok P w K mg base 5 "envies_but" ["table", "deal", "one", "other", "thing"] [] (sp_envies_but K) := by
  refine TT.ok (d := d_envies_but) 15 15 rfl rfl rfl rfl rfl sc_envies_but (fun _ _ _ _ _ _ us hl => match us, hl with | [_, _, _, _, _], _ => rfl) (fun vs H Q E h => ?_) (fun cdv A outer s H vs Q E hr h => ?_)
  · obtain ⟨a, b, T, h, n, os, i, j, t, rfl, _⟩ := h; rfl
  · obtain ⟨a, b, T, h, n, os, i, j, t, rfl, g, hb, hl, hi, ht, k⟩ := h
    refine ⟨_, (pss_one (ps_ret (pe_cmpR op_gt (pe_op op_sub (pe_cl O_heap_seen (hr.mono (by decide)) rfl (pa_cons (pv 0) (pa_cons (pv 1) (pa_cons (pv 2) (pa_cons (pv 3) pa_nil))))) (pe_ix (ixL K) (pe_ix (ixL K) (pv 0) (pv 2) (fun _ _ => rfl)) (pv 4) (fun _ _ => rfl))) (pe_cl O_share_of (hr.mono (by decide)) rfl (pa_cons (pv 0) (pa_cons (pv 1) (pa_cons (pv 2) pa_nil)))) (nomark _)))), ?_⟩
    exact s_ret (ev_op (ev_sub (c_seen (j := j) g hb hl hi (ev_var rfl) (ev_var rfl) (ev_var rfl) (ev_var rfl)) (ev_cell g hi ht (ev_var rfl) (ev_var rfl) (ev_var rfl))) (c_share g hb hl hi (ev_var rfl) (ev_var rfl) (ev_var rfl)) rv_I0) k
section
variable {K : PySem.W.Frag} {H : Hp} {a b : Addr} {T : List (List Int)} {h n : Nat} {os : List (Option Nat)} {σ : L2.St} {ta tb tc td te : TE} {E : XK}
theorem c_spare {i j : Nat} (g : GT K H a T h n) (hb : SqL K H b (optsV os)) (hl : os.length = n) (hi : i < h) (e1 : Ev ta σ H (.ref a)) (e2 : Ev tb σ H (.ref b)) (e3 : Ev tc σ H (.int (i : Int))) (e4 : Ev td σ H (.int (j : Int))) :
    Ev (tCall (sp_spare_of K) [] E (tCons ta (tCons tb (tCons tc (tCons td tNil))))) σ H (oV (spareL T os i j)) :=
  ev_callV (ea_cons e1 (ea_cons e2 (ea_cons e3 (ea_cons e4 ea_nil)))) fun H1 e Q k => ⟨a, b, T, h, n, os, i, j, rfl, g.mono e, ex_l e hb, hl, hi, k⟩
theorem c_but {i j t : Nat} (g : GT K H a T h n) (hb : SqL K H b (optsV os)) (hl : os.length = n) (hi : i < h) (ht : t < n) (e1 : Ev ta σ H (.ref a)) (e2 : Ev tb σ H (.ref b)) (e3 : Ev tc σ H (.int (i : Int))) (e4 : Ev td σ H (.int (j : Int))) (e5 : Ev te σ H (.int (t : Int))) :
    Ev (tCall (sp_envies_but K) [] E (tCons ta (tCons tb (tCons tc (tCons td (tCons te tNil)))))) σ H (.bl (butB T os i j t)) :=
  ev_callV (ea_cons e1 (ea_cons e2 (ea_cons e3 (ea_cons e4 (ea_cons e5 ea_nil))))) fun H1 e Q k => ⟨a, b, T, h, n, os, i, j, t, rfl, g.mono e, ex_l e hb, hl, hi, ht, k⟩
end
def beyB (T : List (List Int)) (os : List (Option Nat)) (p : Nat × Nat) : Bool := match spareL T os p.1 p.2 with
  | none => false
  | some g => butB T os p.1 p.2 g
theorem spare_at {T : List (List Int)} {os : List (Option Nat)} {i j g : Nat} (e : spareL T os i j = some g) : g ∈ heapL os j ∧ ∀ t, t ∈ heapL os j → wt T i t ≤ wt T i g := by
  unfold spareL at e
  rcases sp_fold T i (heapL os j) none with ⟨_, _, z⟩ | ⟨g1, z1, z2, z3, _⟩
  · rw [z] at e; cases e
  · rw [z1] at e
    cases e
    rcases z2 with z2 | z2
    · cases z2
    · exact ⟨z2, z3⟩
theorem spare_none {T : List (List Int)} {os : List (Option Nat)} {i j : Nat} (e : spareL T os i j = none) : heapL os j = [] := by
  unfold spareL at e
  rcases sp_fold T i (heapL os j) none with ⟨_, z, _⟩ | ⟨g1, z1, _⟩
  · exact z
  · rw [z1] at e; cases e
def sp_envies_beyond (K : PySem.W.Frag) : Sp := fun vs H Q _ => ∃ a b T h n os, ∃ i j : Nat, vs = [.ref a, .ref b, .int (i : Int), .int (j : Int)] ∧ GT K H a T h n ∧ SqL K H b (optsV os) ∧ os.length = n ∧ i < h ∧ RetV (.bl (beyB T os (i, j))) H Q
abbrev N_envies_beyond : List Str := ["table", "deal", "one", "other", "spare"]
theorem sc_envies_beyond : FnScope N_envies_beyond ["table", "deal", "one", "other"] (defScope s_envies_beyond) := ⟨rfl, rfl, rfl, by decide +kernel, rfl, by decide +kernel, by decide +kernel⟩
theorem ok_envies_beyond {P : Program} {w : World} {K : PySem.W.Frag} {mg : Str → Option Value} {base : Heap} (TT : Top K mg) (O_spare_of : Ok P w K mg base 2 "spare_of" ["table", "deal", "one", "other"] [] (sp_spare_of K)) (O_envies_but : Ok P w K mg base 5 "envies_but" ["table", "deal", "one", "other", "thing"] [] (sp_envies_but K)) : Ok P w K mg base 6 "envies_beyond" ["table", "deal", "one", "other"] [] (sp_envies_beyond K) := by
  refine TT.ok (d := d_envies_beyond) 16 16 rfl rfl rfl rfl rfl sc_envies_beyond (fun _ _ _ _ _ _ us hl => match us, hl with | [_, _, _, _], _ => rfl) (fun vs H Q E h => ?_) (fun cdv A outer s H vs Q E hr h => ?_)
  · obtain ⟨a, b, T, h, n, os, i, j, rfl, _⟩ := h; rfl
  · obtain ⟨a, b, T, h, n, os, i, j, rfl, g, hb, hl, hi, k⟩ := h
    refine ⟨_, (pss_cons (ps_set (i := 4) sc_envies_beyond.nd rfl (Or.inl rfl) (pe_cl O_spare_of (hr.mono (by decide)) rfl (pa_cons (pv 0) (pa_cons (pv 1) (pa_cons (pv 2) (pa_cons (pv 3) pa_nil))))))
  (pss_one (ps_ret (pe_and (pe_cmpR op_notN (pv 4) pe_non (nomark _)) (pe_one (pe_cl O_envies_but (hr.mono (by decide)) rfl (pa_cons (pv 0) (pa_cons (pv 1) (pa_cons (pv 2) (pa_cons (pv 3) (pa_cons (pv 4) pa_nil))))))))))), ?_⟩
    refine q_asg (c_spare g hb hl hi (ev_var rfl) (ev_var rfl) (ev_var rfl) (ev_var rfl)) fun H1 e1 => ?_
    cases q : spareL T os i j with
    | none =>
      refine s_ret (ev_is (ev_andV (a := false) (b := true) (ev_op (ev_var rfl) ev_c rv_noN) (fun z => nomatch z)) ?_) fun H2 e2 => k H2 (e1.trans e2)
      show V.bl false = .bl (match spareL T os i j with
        | none => false
        | some g => butB T os i j g)
      rw [q]
    | some t =>
      have ht : t < n := by have := heap_lt (spare_at q).1; omega
      refine s_ret (ev_is (ev_andV (a := true) (ev_op (ev_var rfl) ev_c rv_noN) (fun _ => c_but (g.mono e1) (ex_l e1 hb) hl hi ht (ev_var rfl) (ev_var rfl) (ev_var rfl) (ev_var rfl) (ev_var rfl))) ?_) fun H2 e2 => k H2 (e1.trans e2)
      show V.bl (butB T os i j t) = .bl (match spareL T os i j with
        | none => false
        | some g => butB T os i j g)
      rw [q]
def fairB (T : List (List Int)) (h : Nat) (os : List (Option Nat)) : Bool := !((pairsL h).any (beyB T os))
theorem fair_ef1 {T : List (List Int)} {h : Nat} {os : List (Option Nat)} (f : fairB T h os = true) : EF1 (wt T) os.length h (Dl os) := by
  intro i j hi hj ne
  have z : beyB T os (i, j) = false := by
    cases q : beyB T os (i, j) with
    | false => rfl
    | true =>
      have : (pairsL h).any (beyB T os) = true := List.any_eq_true.mpr ⟨(i, j), pairs_mem.mpr ⟨hi, hj, ne⟩, q⟩
      unfold fairB at f
      rw [this] at f
      cases f
  have z' : (match spareL T os i j with
    | none => false
    | some g => butB T os i j g) = false := z
  cases q : spareL T os i j with
  | none =>
    refine .inl fun t ht e => ?_
    have m : t ∈ heapL os j := List.mem_filter.mpr ⟨List.mem_range.mpr ht, decide_eq_true e⟩
    rw [spare_none q] at m
    exact List.not_mem_nil m
  | some g =>
    rw [q] at z'
    obtain ⟨m, _⟩ := spare_at q
    obtain ⟨m1, m2⟩ := List.mem_filter.mp m
    refine .inr ⟨g, List.mem_range.mp m1, of_decide_eq_true m2, ?_⟩
    have := of_decide_eq_false z'
    exact Int.not_lt.mp this
theorem ef1_fair {T : List (List Int)} {h : Nat} {os : List (Option Nat)} (f : fairB T h os = false) : ∃ i j, i < h ∧ j < h ∧ i ≠ j ∧ ∃ g, g < os.length ∧ Dl os g = some j ∧ vl T os i i < vl T os i j - wt T i g ∧ ∀ t, t < os.length → Dl os t = some j → wt T i t ≤ wt T i g := by
  have z : (pairsL h).any (beyB T os) = true := by
    unfold fairB at f
    cases q : (pairsL h).any (beyB T os) with
    | true => rfl
    | false => rw [q] at f; cases f
  obtain ⟨⟨i, j⟩, m, b⟩ := List.any_eq_true.mp z
  obtain ⟨h1, h2, h3⟩ := pairs_mem.mp m
  have b' : (match spareL T os i j with
    | none => false
    | some g => butB T os i j g) = true := b
  cases q : spareL T os i j with
  | none => rw [q] at b'; cases b'
  | some g =>
    rw [q] at b'
    obtain ⟨m, mx⟩ := spare_at q
    obtain ⟨m1, m2⟩ := List.mem_filter.mp m
    exact ⟨i, j, h1, h2, h3, g, List.mem_range.mp m1, of_decide_eq_true m2, of_decide_eq_true b', fun t ht e => mx t (List.mem_filter.mpr ⟨List.mem_range.mpr ht, decide_eq_true e⟩)⟩
section
variable {K : PySem.W.Frag} {H : Hp} {a b : Addr} {T : List (List Int)} {h n : Nat} {os : List (Option Nat)} {σ : L2.St} {ta tb tc td te : TE} {E : XK}
theorem c_beyond {i j : Nat} (g : GT K H a T h n) (hb : SqL K H b (optsV os)) (hl : os.length = n) (hi : i < h) (e1 : Ev ta σ H (.ref a)) (e2 : Ev tb σ H (.ref b)) (e3 : Ev tc σ H (.int (i : Int))) (e4 : Ev td σ H (.int (j : Int))) :
    Ev (tCall (sp_envies_beyond K) [] E (tCons ta (tCons tb (tCons tc (tCons td tNil))))) σ H (.bl (beyB T os (i, j))) :=
  ev_callV (ea_cons e1 (ea_cons e2 (ea_cons e3 (ea_cons e4 ea_nil)))) fun H1 e Q k => ⟨a, b, T, h, n, os, i, j, rfl, g.mono e, ex_l e hb, hl, hi, k⟩
end
def sp_is_fair (K : PySem.W.Frag) : Sp := fun vs H Q _ => ∃ a b T h n os, vs = [.ref a, .ref b] ∧ GT K H a T h n ∧ SqL K H b (optsV os) ∧ os.length = n ∧ RetV (.bl (fairB T h os)) H Q
abbrev N_is_fair : List Str := ["table", "deal", "one", "other"]
theorem sc_is_fair : FnScope N_is_fair ["table", "deal"] (defScope s_is_fair) := ⟨rfl, rfl, rfl, by decide +kernel, rfl, by decide +kernel, by decide +kernel⟩
theorem ok_is_fair {P : Program} {w : World} {K : PySem.W.Frag} {mg : Str → Option Value} {base : Heap} (TT : Top K mg) (O_envies_beyond : Ok P w K mg base 6 "envies_beyond" ["table", "deal", "one", "other"] [] (sp_envies_beyond K)) (O_pairs_of : Ok P w K mg base 2 "pairs_of" ["table"] [] (sp_pairs_of K)) : Ok P w K mg base 7 "is_fair" ["table", "deal"] [] (sp_is_fair K) := by
  refine TT.ok (d := d_is_fair) 17 17 rfl rfl rfl rfl rfl sc_is_fair (fun _ _ _ _ _ _ us hl => match us, hl with | [_, _], _ => rfl) (fun vs H Q E h => ?_) (fun cdv A outer s H vs Q E hr h => ?_)
  · obtain ⟨a, b, T, h, n, os, rfl, _⟩ := h; rfl
  · obtain ⟨a, b, T, h, n, os, rfl, g, hb, hl, k⟩ := h
    refine ⟨_, (pss_one (ps_ret (pe_not (cAny K (TT.free 78) (pa_cons (pe_lc (own := [("one", 2), ("other", 3)]) rfl sc_is_fair.nd (wList K (pe_cl O_pairs_of (hr.mono (by decide)) rfl (pa_cons (pv 0) pa_nil))) (blkOk_by (N := N_is_fair) (sc := defScope s_is_fair) (by decide +kernel)) (fun _ _ _ _ _ => (gT2 K (n := 2) (pgs_cons (pg_name (i := 2) sc_is_fair.nd rfl (Or.inl rfl) (Or.inr rfl)) (pgs_cons (pg_name (i := 3) sc_is_fair.nd rfl (Or.inl rfl) (Or.inr rfl)) pgs_nil)))) (fun _ _ _ _ _ => pts_nil) (fun _ _ _ _ _ => (pe_cl O_envies_beyond (hr.mono (by decide)) rfl (pa_cons (pv 0) (pa_cons (pv 1) (pa_cons (pv 2) (pa_cons (pv 3) pa_nil))))))) pa_nil))))), ?_⟩
    have hw := wk_prs (j1 := 2) (j2 := 3) (σ := start N_is_fair [.ref a, .ref b]) (c_pairs (E := E0) (ta := tVar 0) g (ev_var rfl))
    have z : kept (pairsL h).length (fun _ => true) (fun i => V.bl (beyB T os ((pairsL h).getD i (0, 0)))) = ((pairsL h).map (beyB T os)).map V.bl := by
      rw [kept_all, List.map_map]
      exact range_getD (pairsL h) (0, 0) (fun p => V.bl (beyB T os p))
    refine s_ret (ev_is (ev_notV (ev_anyN (bs := (pairsL h).map (beyB T os)) ?_)) ?_) k
    · rw [← z]
      refine el_lc (fun _ => true) _ hw (by have := pairs_len g.2.h4; omega) (fun _ => rfl) (fun i H1 e1 hi => et_yes rfl) (fun i H1 e1 hi _ => ?_)
      have m := getD_mem (d := (0, 0)) hi
      exact c_beyond (g.mono e1) (ex_l e1 hb) hl (pairs_mem.mp (show ((((pairsL h).getD i (0, 0)).1, ((pairsL h).getD i (0, 0)).2) ∈ pairsL h) from m)).1 (ev_var rfl) (ev_var rfl) (ev_var rfl) (ev_var rfl)
    · rw [List.any_map]
      rfl
section
variable {K : PySem.W.Frag} {H : Hp} {a b : Addr} {T : List (List Int)} {h n : Nat} {os : List (Option Nat)} {σ : L2.St} {ta tb tc td te : TE} {E : XK}
theorem c_fairN (g : GT K H a T h n) (hl : os.length = n) (e1 : Ev ta σ H (.ref a)) (e2 : EvL tb σ H (optsV os)) : Ev (tCall (sp_is_fair K) [] E (tCons ta (tCons tb tNil))) σ H (.bl (fairB T h os)) := fun H1 e Q q =>
  e1 H1 e _ fun H2 e2' => e2 H2 (e.trans e2') _ fun p H3 _ e3 hp => ⟨a, p, T, h, n, os, rfl, g.mono ((e.trans e2').trans e3), sq_of hp, hl, fun H4 e4 => q H4 ((e2'.trans e3).trans e4)⟩
end
end Lk

namespace Lk
open PySem PySem.Spec PyProof.Rows L2 Evl LE
/-! ### more of lists; whole deals -/
section
variable {K : PySem.W.Frag} {H H' : Hp} {σ : L2.St} {ta tb tc te : TE} {a l : Addr} {ns ms : List Int} {xs ys : List V} {D : Ends} {tz : TS}
theorem dp_intsV {p : Addr} (h : SqL K H p (intsV ns)) : Dp K H (.ref p) (.list (ns.map PyData.int)) := dp_ints h
theorem eqv_ints : PyData.eqv (.list (ns.map PyData.int)) (.list (ms.map PyData.int)) = decide (ns = ms) := PySem.W.Datum.eqv ns ms
/-- two lists of ints compared -/
theorem rv_eqI {p q : Addr} (h1 : SqL K H p (intsV ns)) (h2 : SqL K H q (intsV ms)) : RV (rEqD K) (.ref p) (.ref q) H (.bl (decide (ns = ms))) := fun H1 e Q q =>
  ⟨_, _, dp_intsV (ex_l e h1), dp_intsV (ex_l e h2), PySem.W.ke_shaped_ints ns, PySem.W.ke_shaped_ints ms, by rw [eqv_ints]; exact q H1 (Ex.refl _)⟩
theorem rv_neI {p q : Addr} (h1 : SqL K H p (intsV ns)) (h2 : SqL K H q (intsV ms)) : RV (rNeD K) (.ref p) (.ref q) H (.bl (!decide (ns = ms))) := fun H1 e Q q =>
  ⟨_, _, dp_intsV (ex_l e h1), dp_intsV (ex_l e h2), PySem.W.ke_shaped_ints ns, PySem.W.ke_shaped_ints ms, by rw [eqv_ints]; exact q H1 (Ex.refl _)⟩
theorem nats_ints (ts : List Nat) : natsV ts = intsV (ts.map fun (t : Nat) => (t : Int)) := by
  unfold natsV intsV
  rw [List.map_map]
  rfl
theorem natsV_inj {ts us : List Nat} (e : natsV ts = natsV us) : ts = us := by
  unfold natsV at e
  exact List.map_inj_right (fun x y q => by injection q with q; omega) |>.mp e
theorem el_range {n : Nat} (h : Ev ta σ H (.int (n : Int))) (hn : n ≤ 100000) : EvL (tLstRg (tRg1 ta)) σ H (natsV (List.range n)) := fun H1 e Q q => h H1 e _ fun H2 e2 =>
  ⟨n, rfl, RgOk.of_le (by omega) (by omega) (by omega) (by omega), fun p hp => q p _ (fresh_back e2 hp) (e2.trans (Ex.new hp)) (by
    rw [upd_same]
    unfold rgV natsV
    rw [show ((n : Int) - 0).toNat = n by omega]
    have z : (List.range n).map (fun (i : Nat) => V.int (0 + (i : Int))) = (List.range n).map (fun (i : Nat) => V.int (i : Int)) := List.map_congr_left fun i _ => by rw [Int.zero_add]
    rw [z])⟩
theorem range_up (n : Nat) : ((List.range n).map fun (t : Nat) => (t : Int)).Pairwise (· ≤ ·) := by
  rw [List.pairwise_map]
  exact List.pairwise_lt_range.imp fun h => by omega
/-- sorted(xs) of xs that rises -/
theorem el_sortedUp (h : Ev ta σ H (.ref a)) (hx : SqL K H a (intsV ns)) (up : ns.Pairwise (· ≤ ·)) (hl : ns.length < 64) : EvL (tCB (rSorted K) (tCons ta tNil)) σ H (intsV ns) := fun H1 e Q q => h H1 e _ fun H2 e2 =>
  ⟨a, ns, rfl, ex_l (e.trans e2) hx, hl, fun ns' p pm pw hp => q p _ (fresh_back e2 hp) (e2.trans (Ex.new hp)) (by
    have z : ns' = ns := pm.eq_of_pairwise (fun a b _ _ h1 h2 => by omega) pw up
    rw [z, upd_same]
    rfl)⟩
theorem ev_lenA (h : Ev ta σ H (.ref a)) (hx : H a = some (.lst xs)) : Ev (tCB (rLenS K) (tCons ta tNil)) σ H (.int (xs.length : Int)) := ev_len h (sq_of hx)
/-- a list that is made on the way is indexed -/
theorem ev_ixN {i : Nat} {v : V} (h : EvL ta σ H xs) (h2 : Ev tb σ H (.int (i : Int))) (hv : xs[i]? = some v) : Ev (tOp (rIxL K) ta tb) σ H v := fun H1 e Q q =>
  h H1 e _ fun p H2 _ e2 hp => h2 H2 (e.trans e2) _ fun H3 e3 => ⟨p, xs, (i : Int), v, rfl, rfl, sq_of (e3 p _ hp), atI_nat hv, q H3 (e2.trans e3)⟩
theorem map_eraseI {α β : Type} (f : α → β) : ∀ (l : List α) (j : Nat), (l.map f).eraseIdx j = (l.eraseIdx j).map f
  | [], j => by simp
  | a :: r, 0 => by simp
  | a :: r, j + 1 => by
    have ih := map_eraseI f r j
    simp [ih]
/-- xs.remove(k) -/
theorem s_rem {k j : Nat} {ts : List Nat} (hl : H l = some (.lst (natsV ts))) (ha : Ev ta σ H (.ref l)) (h : Ev te σ H (.int (k : Int))) (hj : ts[j]? = some k) (hf : ∀ m, m < j → ts[m]? ≠ some k) (q : ∀ H1, Ex H H1 → D.nx σ (upd H1 l (.lst (natsV (ts.eraseIdx j))))) :
    tDrop (tBM K "list" rRemI ta (tCons te tNil)) D σ H := ha H (Ex.refl H) _ fun H1 e1 =>
  ⟨Or.inl ⟨rfl, _, sq_of (e1 l _ hl)⟩, h H1 e1 _ fun H2 e2 => ⟨l, ts.map fun (t : Nat) => (t : Int), (k : Int), j, rfl, rfl, by rw [e2 l _ (e1 l _ hl), nats_ints]; rfl, by rw [List.getElem?_map, hj]; rfl, fun m hm z => by
    rw [List.getElem?_map] at z
    cases w : ts[m]? with
    | none => rw [w] at z; cases z
    | some u =>
      rw [w] at z
      have z2 : (u : Int) = (k : Int) := Option.some.inj z
      exact hf m hm (by rw [w, show u = k by omega]), by
    have z := q H2 (e1.trans e2)
    rw [nats_ints] at z
    unfold intsV at z
    rw [← map_eraseI] at z
    exact z⟩⟩
end
theorem idx_ne {k : Nat} : ∀ (ts : List Nat) (j : Nat), j < ts.idxOf k → ts[j]? ≠ some k
  | [], j, h => by simp
  | x :: ts, j, h => by
    rw [List.idxOf_cons] at h
    by_cases q : x = k
    · subst q
      simp at h
    · have q' : (x == k) = false := by simp [q]
      rw [q'] at h
      simp only [cond_false] at h
      cases j with
      | zero => simp [q]
      | succ j =>
        rw [List.getElem?_cons_succ]
        exact idx_ne ts j (by omega)
theorem idx_first {ts : List Nat} {k : Nat} (m : k ∈ ts) : ts[ts.idxOf k]? = some k ∧ ∀ j, j < ts.idxOf k → ts[j]? ≠ some k := by
  have l := List.idxOf_lt_length_of_mem m
  refine ⟨by rw [List.getElem?_eq_getElem l, List.getElem_idxOf l], fun j hj => idx_ne ts j hj⟩
theorem erase_idx {ts : List Nat} {k : Nat} : ts.eraseIdx (ts.idxOf k) = ts.erase k := (List.erase_eq_eraseIdx_of_idxOf rfl).symm
/-- a whole deal -/
theorem whole_list : ∀ {os : List (Option Nat)} {h : Nat}, (∀ t, t < os.length → ∃ k, k < h ∧ Dl os t = some k) → ∃ ds : List Nat, os = ds.map some ∧ ∀ k, k ∈ ds → k < h
  | [], _, _ => ⟨[], rfl, fun _ m => absurd m List.not_mem_nil⟩
  | o :: os, h, w => by
    obtain ⟨k, hk, e⟩ := w 0 (by simp)
    obtain ⟨ds, e2, l⟩ := whole_list (os := os) (h := h) fun t ht => by
      obtain ⟨k, hk, e⟩ := w (t + 1) (by simp; omega)
      exact ⟨k, hk, e⟩
    have e' : o = some k := e
    refine ⟨k :: ds, by rw [e', e2]; rfl, fun x hx => ?_⟩
    rcases List.mem_cons.mp hx with z | z
    · rw [z]; exact hk
    · exact l x z
theorem opts_some (ds : List Nat) : optsV (ds.map some) = natsV ds := by
  unfold optsV natsV
  rw [List.map_map]
  rfl
/-- who has t, of a whole deal -/
def Dn (ds : List Nat) (t : Nat) : Option Nat := ds[t]?
theorem dl_some (ds : List Nat) (t : Nat) : Dl (ds.map some) t = Dn ds t := by
  unfold Dl Dn
  rw [List.getD_eq_getElem?_getD, List.getElem?_map]
  cases ds[t]? <;> rfl
theorem dn_whole {ds : List Nat} {h n : Nat} (hl : ds.length = n) (lt : ∀ k, k ∈ ds → k < h) : Whole n h (Dn ds) := fun t ht => by
  have ht' : t < ds.length := by omega
  exact ⟨ds[t], lt _ (List.getElem_mem ht'), List.getElem?_eq_getElem ht'⟩
theorem vl_dn (T : List (List Int)) (ds : List Nat) (i j : Nat) : vl T (ds.map some) i j = val (wt T) ds.length (Dn ds) i j := by
  unfold vl
  rw [List.length_map]
  exact val_congr fun t _ => dl_some ds t
/-- a whole deal at v, of which P holds -/
def DealV (h n : Nat) (P : List Nat → Prop) (v : V) (H : Hp) : Prop := ∃ p ds, v = .ref p ∧ H p = some (.lst (natsV ds)) ∧ ds.length = n ∧ (∀ k, k ∈ ds → k < h) ∧ P ds
theorem dealV_mono {h n : Nat} {P : List Nat → Prop} : Mono (DealV h n P) := fun v H H' e ⟨p, ds, h1, h2, h3⟩ => ⟨p, ds, h1, e p _ h2, h3⟩
/-- a tuple of such a deal and something -/
def DealT (h n : Nat) (P : List Nat → Prop) (v : V) (H : Hp) : Prop := ∃ t d x, v = .ref t ∧ H t = some (.tup [d, x]) ∧ DealV h n P d H
end Lk

namespace Lk
open PySem PySem.Spec PyProof.Rows L2 Evl LE
/-! ### turns -/
def sp_is_order (K : PySem.W.Frag) : Sp := fun vs H Q _ => ∃ b, ∃ n : Nat, vs = [.ref b, .int (n : Int)] ∧ SqL K H b (natsV (List.range n)) ∧ n ≤ 40 ∧ RetV (.bl true) H Q
abbrev N_is_order : List Str := ["order", "many"]
theorem sc_is_order : FnScope N_is_order ["order", "many"] (defScope s_is_order) := ⟨rfl, rfl, rfl, by decide +kernel, rfl, by decide +kernel, by decide +kernel⟩
theorem ok_is_order {P : Program} {w : World} {K : PySem.W.Frag} {mg : Str → Option Value} {base : Heap} (TT : Top K mg)  : Ok P w K mg base 1 "is_order" ["order", "many"] [] (sp_is_order K) := by
  refine TT.ok (d := d_is_order) 37 37 rfl rfl rfl rfl rfl sc_is_order (fun _ _ _ _ _ _ us hl => match us, hl with | [_, _], _ => rfl) (fun vs H Q E h => ?_) (fun cdv A outer s H vs Q E hr h => ?_)
  · obtain ⟨b, n, rfl, _⟩ := h; rfl
  · obtain ⟨b, n, rfl, hb, hn, k⟩ := h
    refine ⟨_, (pss_one (ps_ret (pe_cmpR (eqD K hr.units) (cSorted K (TT.free 73) (pa_cons (pv 0) pa_nil)) (pe_listRg rfl rfl (TT.free 76) (prg_1 rfl (TT.free 71) (pv 1))) (nomark _)))), ?_⟩
    have e0 : natsV (List.range n) = intsV ((List.range n).map fun (t : Nat) => (t : Int)) := nats_ints _
    refine s_ret (ev_is (ev_opLL (el_sortedUp (ns := (List.range n).map fun (t : Nat) => (t : Int)) (ev_var rfl) (by rw [← e0]; exact hb) (range_up n) (by rw [List.length_map, List.length_range]; omega)) (el_range (ev_var rfl) (by omega)) fun p q H1 hp hq e => rv_eqI (sq_of hp) (sq_of (by rw [hq, e0]))) ?_) k
    rw [decide_eq_true rfl]
section
variable {K : PySem.W.Frag} {H : Hp} {a b : Addr} {T : List (List Int)} {h n : Nat} {σ : L2.St} {ta tb tc td te : TE} {E : XK}
theorem c_order (hb : SqL K H b (natsV (List.range n))) (hn : n ≤ 40) (e1 : Ev ta σ H (.ref b)) (e2 : Ev tb σ H (.int (n : Int))) : Ev (tCall (sp_is_order K) [] E (tCons ta (tCons tb tNil))) σ H (.bl true) :=
  ev_callV (ea_cons e1 (ea_cons e2 ea_nil)) fun H1 e Q k => ⟨b, n, rfl, ex_l e hb, hn, k⟩
end
/-- the first of the things that are worth most -/
def Dear (row : List Int) (ts : List Nat) (g : Nat) : Prop := g ∈ ts ∧ ∀ s, s ∈ ts → row.getD s 0 ≤ row.getD g 0
def sp_dearest_of (K : PySem.W.Frag) : Sp := fun vs H Q _ => ∃ r l row ts, vs = [.ref r, .ref l] ∧ SqL K H r (intsV row) ∧ SqL K H l (natsV ts) ∧ ts ≠ [] ∧ (∀ t, t ∈ ts → t < row.length) ∧ ∀ g, Dear row ts g → RetV (.int (g : Int)) H Q
theorem ev_row {K : PySem.W.Frag} {H : Hp} {σ : L2.St} {ta tt : TE} {r : Addr} {row : List Int} {t : Nat} (h : SqL K H r (intsV row)) (ht : t < row.length) (e1 : Ev ta σ H (.ref r)) (e2 : Ev tt σ H (.int (t : Int))) : Ev (tOp (rIxL K) ta tt) σ H (.int (row.getD t 0)) :=
  ev_op e1 e2 (rv_ixL h (atI_nat (intsV_get (by rw [List.getD_eq_getElem?_getD, List.getElem?_eq_getElem ht]; rfl))))
abbrev N_dearest_of : List Str := ["row", "left", "best", "thing"]
theorem sc_dearest_of : FnScope N_dearest_of ["row", "left"] (defScope s_dearest_of) := ⟨rfl, rfl, rfl, by decide +kernel, rfl, by decide +kernel, by decide +kernel⟩
theorem ok_dearest_of {P : Program} {w : World} {K : PySem.W.Frag} {mg : Str → Option Value} {base : Heap} (TT : Top K mg)  : Ok P w K mg base 1 "dearest_of" ["row", "left"] [] (sp_dearest_of K) := by
  refine TT.ok (d := d_dearest_of) 38 38 rfl rfl rfl rfl rfl sc_dearest_of (fun _ _ _ _ _ _ us hl => match us, hl with | [_, _], _ => rfl) (fun vs H Q E h => ?_) (fun cdv A outer s H vs Q E hr h => ?_)
  · obtain ⟨r, l, row, ts, rfl, _⟩ := h; rfl
  · obtain ⟨r, l, row, ts, rfl, hr', hl, ne, lt, k⟩ := h
    refine ⟨_, (pss_cons (ps_set (i := 2) sc_dearest_of.nd rfl (Or.inl rfl) (pe_ix (ixL K) (pv 1) pe_int (fun _ _ => rfl)))
  (pss_cons (ps_for PassesOwn.never rfl (wList K (pv 1)) (pg_name (i := 3) sc_dearest_of.nd rfl (Or.inl rfl) (Or.inr rfl)) (pss_one (ps_if (pt_cmpR op_gt (pe_ix (ixL K) (pv 0) (pv 3) (fun _ _ => rfl)) (pe_ix (ixL K) (pv 0) (pv 2) (fun _ _ => rfl)) (nomark _)) (pss_one (ps_set (i := 2) sc_dearest_of.nd rfl (Or.inl rfl) (pv 3))) pss_nil)))
  (pss_one (ps_ret (pv 2))))), ?_⟩
    obtain ⟨g0, rest, rfl⟩ : ∃ g0 rest, ts = g0 :: rest := by
      cases ts with
      | nil => exact absurd rfl ne
      | cons x r => exact ⟨x, r, rfl⟩
    refine q_asg (ev_op (ev_var rfl) ev_c (rv_ixL hl (atI_nat (j := 0) rfl))) fun H1 e1 => ?_
    refine q_forLn (xs := natsV (g0 :: rest)) (ev_var rfl) (ex_l e1 hl) (fun m σ' H' => ∃ (g : Nat) (v : Option V), σ' = [some (.ref r), some (.ref l), some (.int (g : Int)), v] ∧ Ex H H' ∧ g ∈ g0 :: rest ∧ ∀ s, s ∈ (g0 :: rest).take m → row.getD s 0 ≤ row.getD g 0)
      (fun H2 e2 => ⟨g0, none, rfl, e1.trans e2, List.mem_cons_self, fun s m => absurd m (by simp)⟩) (fun m σ' H' _ ⟨_, _, _, e, _⟩ => ex_l e hl) (fun m x σ' H' hx p => ?_) (fun σ' H' p => ?_)
    · obtain ⟨g, v, rfl, ex, mg, mx⟩ := p
      obtain ⟨t, ht, rfl⟩ := natsV_at hx
      have mt := List.mem_of_getElem? ht
      have tk : ∀ s, s ∈ (g0 :: rest).take (m + 1) → s ∈ (g0 :: rest).take m ∨ s = t := fun s hs => by
        rw [List.take_succ, ht] at hs
        rcases List.mem_append.mp hs with z | z
        · exact .inl z
        · exact .inr (by simpa using z)
      refine s_when (et_test (ev_op (ev_row (ex_l ex hr') (lt t mt) (ev_var rfl) (ev_var rfl)) (ev_row (ex_l ex hr') (lt g mg) (ev_var rfl) (ev_var rfl)) rv_I0)) (fun z H2 e2 => ?_) (fun z H2 e2 => ?_)
      · have z' := of_decide_eq_true z
        refine s_asg (ev_var rfl) fun H3 e3 => ⟨t, some (.int (t : Int)), rfl, (ex.trans e2).trans e3, mt, fun s hs => ?_⟩
        rcases tk s hs with q | q
        · have := mx s q
          omega
        · rw [q]; exact Int.le_refl _
      · have z' := of_decide_eq_false z
        refine ⟨g, some (.int (t : Int)), rfl, ex.trans e2, mg, fun s hs => ?_⟩
        rcases tk s hs with q | q
        · exact mx s q
        · rw [q]; omega
    · obtain ⟨g, v, rfl, ex, mg, mx⟩ := p
      refine s_ret (ev_var rfl) fun H2 e2 => k g ⟨mg, fun s hs => mx s ?_⟩ H2 (ex.trans e2)
      rw [natsV_len, List.take_length]
      exact hs
def Fair1 (T : List (List Int)) (h : Nat) (ds : List Nat) : Prop := EF1 (wt T) ds.length h (Dn ds)
/-- [xs] into a name -/
theorem s_asg1 {te : TE} {σ : L2.St} {H : Hp} {D : Ends} {i : Nat} {xs : List V} (h : EvL te σ H xs) (k : ∀ ao ar H1, H ao = none → H ar = none → Ex H H1 → H1 ao = some (.lst [.ref ar]) → H1 ar = some (.lst xs) → D.nx (σ.set i (some (.ref ao))) H1) : tAsg (tLst (tCons te tNil)) (gName i) D σ H :=
  h H (Ex.refl H) _ fun ar H2 nar e2 har => ⟨by show 1 ≤ sizeLine; decide, fun ao nao => k ao ar _ (fresh_back e2 nao) nar (e2.trans (Ex.new nao)) upd_same (by rw [upd_ne (ne_of_none har nao)]; exact har)⟩
def sp_by_turns (K : PySem.W.Frag) : Sp := fun vs H Q _ => ∃ a T h n, vs = [.ref a, .non] ∧ GT K H a T h n ∧ RetP (DealT h n (Fair1 T h)) H Q
/-- the state between the picks: ts is left -/
structure TuS (T : List (List Int)) (h n : Nat) (os : List (Option Nat)) (ts : List Nat) : Prop where
  len : os.length = n
  nd : ts.Nodup
  left : ∀ t, t ∈ ts ↔ t < n ∧ Dl os t = none
  lt : ∀ t k, t < n → Dl os t = some k → k < h
theorem dl_set {os : List (Option Nat)} {t : Nat} {o : Option Nat} (h : t < os.length) : Dl (os.set t o) = put (Dl os) t o := by
  funext s
  unfold Dl put
  show (os.set t o).getD s none = if s = t then o else os.getD s none
  rw [List.getD_eq_getElem?_getD, List.getD_eq_getElem?_getD]
  by_cases e : s = t
  · subst e
    rw [if_pos rfl, List.getElem?_set_self h]
    rfl
  · rw [if_neg e, List.getElem?_set_ne (Ne.symm e)]
theorem ts_step {T : List (List Int)} {h n c g : Nat} {os : List (Option Nat)} {ts : List Nat} (S : TuS T h n os ts) (hc : c < h) (mg : g ∈ ts) : TuS T h n (os.set g (some c)) (ts.erase g) := by
  obtain ⟨g1, g2⟩ := (S.left g).mp mg
  have hg : g < os.length := by rw [S.len]; exact g1
  refine ⟨by rw [List.length_set, S.len], S.nd.erase g, fun t => ?_, fun t k ht e => ?_⟩
  · rw [S.nd.mem_erase_iff, S.left t, dl_set hg]
    unfold put
    constructor
    · rintro ⟨h1, h2, h3⟩
      exact ⟨h2, by rw [if_neg h1]; exact h3⟩
    · rintro ⟨h1, h2⟩
      by_cases e : t = g
      · rw [if_pos e] at h2; cases h2
      · rw [if_neg e] at h2
        exact ⟨e, h1, h2⟩
  · rw [dl_set hg] at e
    unfold put at e
    by_cases q : t = g
    · rw [if_pos q] at e; cases e; exact hc
    · rw [if_neg q] at e
      exact S.lt t k ht e
theorem ts_done {T : List (List Int)} {h n c : Nat} {os : List (Option Nat)} (o : TabOk T h n) (S : TuS T h n os []) (R : Turn (wt T) n h c (Dl os)) : ∃ ds : List Nat, os = ds.map some ∧ ds.length = n ∧ (∀ k, k ∈ ds → k < h) ∧ Fair1 T h ds := by
  obtain ⟨ds, e, l⟩ := whole_list (os := os) (h := h) fun t ht => by
    rw [S.len] at ht
    cases q : Dl os t with
    | none => exact absurd ((S.left t).mpr ⟨ht, q⟩) List.not_mem_nil
    | some k => exact ⟨k, S.lt t k ht q, rfl⟩
  have hl : ds.length = n := by rw [← S.len, e, List.length_map]
  refine ⟨ds, e, hl, l, ?_⟩
  have z := turn_end (wt_pos o) R
  have ef : Dl os = Dn ds := by
    funext t
    rw [e, dl_some]
  unfold Fair1
  rw [hl, ← ef]
  exact z
theorem turn_less {w : Nat → Nat → Int} {n h c : Nat} {D : Nat → Option Nat} (R : Turn w n h c D) : Turn w n h c D := R
abbrev N_by_turns : List Str := ["table", "orders", "deal", "left", "picks", "rounds", "hand", "thing", "order"]
theorem sc_by_turns : FnScope N_by_turns ["table", "orders"] (defScope s_by_turns) := ⟨rfl, rfl, rfl, by decide +kernel, rfl, by decide +kernel, by decide +kernel⟩
theorem ok_by_turns {P : Program} {w : World} {K : PySem.W.Frag} {mg : Str → Option Value} {base : Heap} (TT : Top K mg) (O_nothing_dealt : Ok P w K mg base 2 "nothing_dealt" ["table"] [] (sp_nothing_dealt K)) (O_things_of : Ok P w K mg base 1 "things_of" ["table"] [] (sp_things_of K)) (O_dearest_of : Ok P w K mg base 1 "dearest_of" ["row", "left"] [] (sp_dearest_of K)) (O_hands_of : Ok P w K mg base 1 "hands_of" ["table"] [] (sp_hands_of K)) (O_is_order : Ok P w K mg base 1 "is_order" ["order", "many"] [] (sp_is_order K)) : Ok P w K mg base 3 "by_turns" ["table", "orders"] [] (sp_by_turns K) := by
  refine TT.okD (d := d_by_turns) 39 39 rfl rfl rfl rfl (by intro z; cases z) sc_by_turns (fun _ _ _ _ _ _ _ us its hl hi => match us, hl, its, hi with | [_, _], _, [_], _ => ⟨_, rfl, rfl⟩) (fun vs H Q E h => ?_) (fun cdv A outer s H vs Q E hr h => ?_)
  · obtain ⟨a, T, h, n, rfl, _⟩ := h; rfl
  · obtain ⟨a, T, h, n, rfl, g, k⟩ := h
    refine ⟨_, (Evl.pss_cut (ps_if (pt_cmpR op_isN (pv 1) pe_non (nomark _)) (pss_one (ps_set (i := 1) sc_by_turns.nd rfl (Or.inl rfl) (pe_lst (pa_cons (pe_listRg rfl rfl (TT.free 76) (prg_1 rfl (TT.free 71) (pe_cl O_hands_of (hr.mono (by decide)) rfl (pa_cons (pv 0) pa_nil)))) pa_nil)))) pss_nil)
  (pss_cons (ps_if (PW.pt (pw_or (pt_cmpR op_eq (cLen K (TT.free 70) (pa_cons (pv 1) pa_nil)) pe_int (nomark _)) (pw_or1 (pt_not (pt_val (cAll K (TT.free 79) (pa_cons (pe_lc (own := [("order", 8)]) rfl sc_by_turns.nd (wList K (pv 1)) (blkOk_by (N := N_by_turns) (sc := defScope s_by_turns) (by decide +kernel)) (fun _ _ _ _ _ => (pg_name (i := 8) sc_by_turns.nd rfl (Or.inl rfl) (Or.inr rfl))) (fun _ _ _ _ _ => pts_nil) (fun _ _ _ _ _ => (pe_cl O_is_order (hr.mono (by decide)) rfl (pa_cons (pv 8) (pa_cons (pe_cl O_hands_of (hr.mono (by decide)) rfl (pa_cons (pv 0) pa_nil)) pa_nil))))) pa_nil))))))) (pss_one ps_never) pss_nil)
  (pss_cons (ps_set (i := 2) sc_by_turns.nd rfl (Or.inl rfl) (pe_cl O_nothing_dealt (hr.mono (by decide)) rfl (pa_cons (pv 0) pa_nil)))
  (pss_cons (ps_set (i := 3) sc_by_turns.nd rfl (Or.inl rfl) (pe_listRg rfl rfl (TT.free 76) (prg_1 rfl (TT.free 71) (pe_cl O_things_of (hr.mono (by decide)) rfl (pa_cons (pv 0) pa_nil)))))
  (pss_cons (ps_set (i := 4) sc_by_turns.nd rfl (Or.inl rfl) (pe_lst pa_nil))
  (pss_cons (ps_set (i := 5) sc_by_turns.nd rfl (Or.inl rfl) pe_int)
  (pss_cons (ps_while PassesOwn.never (pt_cmpR op_gt (cLen K (TT.free 70) (pa_cons (pv 3) pa_nil)) pe_int (nomark _)) (pss_cons (ps_for PassesOwn.never rfl (wList K (pe_slice (slL K) (pe_ix (ixL K) (pv 1) (pe_op op_mod (pv 5) (cLen K (TT.free 70) (pa_cons (pv 1) pa_nil))) (fun _ _ => rfl)) po_none (po_some (cLen K (TT.free 70) (pa_cons (pv 3) pa_nil))))) (pg_name (i := 6) sc_by_turns.nd rfl (Or.inl rfl) (Or.inr rfl)) (pss_cons (ps_set (i := 7) sc_by_turns.nd rfl (Or.inl rfl) (pe_cl O_dearest_of (hr.mono (by decide)) rfl (pa_cons (pe_ix (ixL K) (pv 0) (pv 6) (fun _ _ => rfl)) (pa_cons (pv 3) pa_nil))))
  (pss_cons (ps_expr (eBM K PySem.F.plainAttrs_list PySem.F.slot_list_remove PySem.F.type_list_remove mt_remove (pv 3) (pa_cons (pv 7) pa_nil)))
  (pss_cons (ps_asg (pv 6) (pg_sub (pv 2) (pv 7) set_list))
  (pss_one (ps_expr (eBM K PySem.F.plainAttrs_list PySem.F.slot_list_append PySem.F.type_list_append mt_append (pv 4) (pa_cons (pe_tup (pa_cons (pv 6) (pa_cons (pv 7) pa_nil))) pa_nil))))))))
  (pss_one (ps_aug (i := 5) sc_by_turns.nd rfl (Or.inl rfl) pe_int ip_add))))
  (pss_one (ps_ret (pe_tup (pa_cons (pv 2) (pa_cons (pv 4) pa_nil)))))))))))), ?_⟩
    have h4 := g.2.h4
    have n12 := g.2.n12
    -- if orders is None: orders = [list(range(hands_of(table)))]
    refine q_cut (M := fun σ' H' => ∃ ao ar, σ' = [some (.ref a), some (.ref ao), none, none, none, none, none, none, none] ∧ Ex H H' ∧ H' ao = some (.lst [.ref ar]) ∧ H' ar = some (.lst (natsV (List.range h))) ∧ H ao = none ∧ H ar = none) ?_ fun σ' H' p => ?_
    · refine s_when (b := true) (et_test (ev_op (ev_var rfl) ev_c rv_isN)) (fun _ H1 e1 => ?_) (fun z => nomatch z)
      exact s_asg1 (el_range (c_hands (g.mono e1) (ev_var rfl)) (by omega)) fun ao ar H2 nao nar e2 hao har => ⟨ao, ar, rfl, e1.trans e2, hao, har, fresh_back e1 nao, fresh_back e1 nar⟩
    obtain ⟨ao, ar, rfl, ex, hao, har, nao, nar⟩ := p
    -- no orders: never
    refine q_when (b := false) ?_ (fun z => nomatch z) fun _ H1 e1 => ?_
    · have hw := wk_list (K := K) (j := 8) (tl := tVar 1) (σ := [some (.ref a), some (.ref ao), none, none, none, none, none, none, none]) (H := H') (ev_var rfl) (sq_of hao)
      have z : EvL _ _ H' ([true].map V.bl) := el_lc (tt := tYes) (te := tCall (sp_is_order K) [] E0 (tCons (tVar 8) (tCons (tCall (sp_hands_of K) [] E0 (tCons (tVar 0) tNil)) tNil))) (vs := [8]) (fun _ => true) (fun _ => .bl true) hw (by show 1 ≤ 40000; decide) (fun _ => rfl) (fun i H1 e1 hi => et_yes rfl) (fun i H1 e1 hi _ => by
        have i0 : i = 0 := by simp at hi; exact hi
        subst i0
        exact c_order (b := ar) (sq_of (e1 ar _ har)) (by omega) (ev_var rfl) (c_hands (g.mono (ex.trans e1)) (ev_var rfl)))
      exact et_is (et_or (et_test (ev_op (ev_lenA (ev_var rfl) hao) ev_c (rv_eq rfl))) (fun _ => et_not (et_B (ev_allN z)))) rfl
    refine q_asgL (c_nothing (g.mono (ex.trans e1)) (ev_var rfl)) fun ad H2 nad e2 had => ?_
    refine q_asgL (el_range (c_things (g.mono ((ex.trans e1).trans e2)) (ev_var rfl)) (by omega)) fun al H3 nal e3 hal => ?_
    refine q_asgL (el_lst ea_nil (by decide)) fun ap H4 nap e4 hap => ?_
    refine q_asg ev_c fun H5 e5 => ?_
    have e05 : Ex H H5 := ((((ex.trans e1).trans e2).trans e3).trans e4).trans e5
    have nad0 : H ad = none := fresh_back (ex.trans e1) nad
    have nal0 : H al = none := fresh_back ((ex.trans e1).trans e2) nal
    have nap0 : H ap = none := fresh_back (((ex.trans e1).trans e2).trans e3) nap
    have d1 : ad ≠ al := ne_of_none had nal
    have d2 : al ≠ ap := ne_of_none hal nap
    have d3 : ad ≠ ap := ne_of_none (e3 ad _ had) nap
    have d4 : ao ≠ ad := ne_of_none (e1 ao _ hao) nad
    have d5 : ao ≠ al := ne_of_none (e2 ao _ (e1 ao _ hao)) nal
    have d6 : ao ≠ ap := ne_of_none (e3 ao _ (e2 ao _ (e1 ao _ hao))) nap
    have d7 : ar ≠ ad := ne_of_none (e1 ar _ har) nad
    have d8 : ar ≠ al := ne_of_none (e2 ar _ (e1 ar _ har)) nal
    have d9 : ar ≠ ap := ne_of_none (e3 ar _ (e2 ar _ (e1 ar _ har))) nap
    -- while len(left) > 0
    refine q_while (fun m σ' H' => ∃ (os : List (Option Nat)) (ts : List Nat) (ps : List V) (r : Nat) (v6 v7 : Option V), σ' = [some (.ref a), some (.ref ao), some (.ref ad), some (.ref al), some (.ref ap), some (.int (r : Int)), v6, v7, none] ∧ Ex H H' ∧ H' ao = some (.lst [.ref ar]) ∧ H' ar = some (.lst (natsV (List.range h))) ∧
      H' ad = some (.lst (optsV os)) ∧ H' al = some (.lst (natsV ts)) ∧ H' ap = some (.lst ps) ∧ ps.length + ts.length = n ∧ m = ts.length ∧ TuS T h n os ts ∧ (Turn (wt T) n h 0 (Dl os) ∨ (ts = [] ∧ ∃ c, Turn (wt T) n h c (Dl os)))) n
      ⟨List.replicate n none, List.range n, [], 0, none, none, rfl, e05, e5 ao _ (e4 ao _ (e3 ao _ (e2 ao _ (e1 ao _ hao)))), e5 ar _ (e4 ar _ (e3 ar _ (e2 ar _ (e1 ar _ har)))), by rw [e5 ad _ (e4 ad _ (e3 ad _ had))]; unfold optsV; rw [List.map_replicate]; rfl, e5 al _ (e4 al _ hal), e5 ap _ hap, by simp, by simp, ?_, .inl ?_⟩ ?_
    · refine ⟨by simp, List.nodup_range, fun t => ?_, fun t kk ht e => ?_⟩
      · rw [List.mem_range]
        constructor
        · intro q
          refine ⟨q, ?_⟩
          unfold Dl
          simp [List.getD, q]
        · exact fun q => q.1
      · unfold Dl at e
        simp [List.getD, ht] at e
    · have z : Dl (List.replicate n none) = fun _ => none := by
        funext t
        unfold Dl
        rw [List.getD_eq_getElem?_getD, List.getElem?_replicate]
        split <;> rfl
      rw [z]
      exact turn_start
    rintro m σ' H' ⟨os, ts, ps, r, v6, v7, rfl, ex', hao', har', had', hal', hap', hpt, rfl, S, R⟩
    refine ⟨decide ((0 : Int) < (ts.length : Int)), ?_, fun hb H6 e6 => ?_, fun hb H6 e6 => ?_⟩
    · refine et_is (et_test (ev_op (ev_lenA (ev_var rfl) hal') ev_c rv_I0)) ?_
      rw [natsV_len]
    · -- one round
      have tpos : 0 < ts.length := by have := of_decide_eq_true hb; omega
      have R0 : Turn (wt T) n h 0 (Dl os) := by
        rcases R with R | ⟨z, _⟩
        · exact R
        · rw [z] at tpos; simp at tpos
      have hh1 := g.2.h1
      refine ⟨_, fun σ2 H2' N => N, ?_⟩
      have sl : EvL (tSl (rSlL K) (tOp (rIxL K) (tVar 1) (tOp (rI (fun _ j => 0 < j) fun i j => .int (i % j)) (tVar 5) (tCB (rLenS K) (tCons (tVar 1) tNil)))) tNoPart (tPart (tCB (rLenS K) (tCons (tVar 3) tNil)))) [some (.ref a), some (.ref ao), some (.ref ad), some (.ref al), some (.ref ap), some (.int (r : Int)), v6, v7, none] H6 ((natsV (List.range h)).take ts.length) := by
        refine el_take (a := ar) (i := ts.length) ?_ (sq_of (e6 ar _ har')) (ev_is (ev_lenA (ev_var rfl) (e6 al _ hal')) (by rw [natsV_len]))
        refine ev_op (ev_var rfl) (ev_is (w := .int ((0 : Nat) : Int)) (ev_op (ev_var rfl) (ev_lenA (ev_var rfl) (e6 ao _ hao')) (rv_I (by show (0 : Int) < ((1 : Nat) : Int); decide))) ?_) (rv_ixL (sq_of (e6 ao _ hao')) (atI_nat (j := 0) rfl))
        show V.int ((r : Int) % ((1 : Nat) : Int)) = V.int ((0 : Nat) : Int)
        rw [Int.natCast_one, Int.emod_one]
        rfl
      have cl : ((natsV (List.range h)).take ts.length).length = min ts.length h := by rw [List.length_take, natsV_len, List.length_range]
      refine q_forNLn sl (fun p c σ' H' => ∃ (os' : List (Option Nat)) (ts' : List Nat) (ps' : List V) (v6 v7 : Option V), σ' = [some (.ref a), some (.ref ao), some (.ref ad), some (.ref al), some (.ref ap), some (.int (r : Int)), v6, v7, none] ∧ Ex H H' ∧ H' ao = some (.lst [.ref ar]) ∧ H' ar = some (.lst (natsV (List.range h))) ∧
        H' ad = some (.lst (optsV os')) ∧ H' al = some (.lst (natsV ts')) ∧ H' ap = some (.lst ps') ∧ H' p = some (.lst ((natsV (List.range h)).take ts.length)) ∧ p ≠ ad ∧ p ≠ al ∧ p ≠ ap ∧ ps'.length + ts'.length = n ∧ ts'.length + c = ts.length ∧ TuS T h n os' ts' ∧ Turn (wt T) n h c (Dl os'))
        (fun p H7 np e7 hp => ⟨os, ts, ps, v6, v7, rfl, (ex'.trans e6).trans e7, e7 ao _ (e6 ao _ hao'), e7 ar _ (e6 ar _ har'), e7 ad _ (e6 ad _ had'), e7 al _ (e6 al _ hal'), e7 ap _ (e6 ap _ hap'), hp, (ne_of_none (e6 ad _ had') np).symm, (ne_of_none (e6 al _ hal') np).symm, (ne_of_none (e6 ap _ hap') np).symm, hpt, rfl, S, R0⟩)
        (fun p c σ' H' _ ⟨_, _, _, _, _, _, _, _, _, _, _, _, hp, _⟩ => sq_of hp) (fun p c x σ' H' hx pr => ?_) (fun p σ' H' pr => ?_)
      · obtain ⟨os', ts', ps', w6, w7, rfl, ex7, hao7, har7, had7, hal7, hap7, hp7, q1, q2, q3, hpt7, hct, S7, R7⟩ := pr
        have hcl := (List.getElem?_eq_some_iff.mp hx).1
        rw [cl] at hcl
        have hch : c < h := by omega
        have ex1 : x = .int (c : Int) := by
          rw [List.getElem?_take, if_pos (by omega), natsV_get (x := c) (by rw [List.getElem?_range hch])] at hx
          exact (Option.some.inj hx).symm
        subst ex1
        obtain ⟨rs, rr, row, r1, r2, r3, r4, r5⟩ := (g.mono ex7).row hch
        have tne : ts' ≠ [] := fun z => by rw [z] at hct; simp at hct; omega
        have rl : row.length = n := g.2.rows row r4
        -- thing = dearest_of(table[hand], left)
        refine q_asgP (R := fun v H2 => ∃ gg : Nat, v = .int (gg : Int) ∧ Dear row ts' gg) (ep_callP (ea_cons (ev_op (ev_var rfl) (ev_var rfl) (rv_ixL r1 (atI_nat r2))) (ea_cons (ev_var rfl) ea_nil)) fun H8 e8 Q8 k8 => ⟨rr, al, row, ts', rfl, ex_l e8 r5, sq_of (e8 al _ hal7), tne, fun t mt => by rw [rl]; exact ((S7.left t).mp mt).1, fun gg dg H9 e9 => k8 _ H9 e9 ⟨gg, rfl, dg⟩⟩) fun v H8 e8 ⟨gg, ev, dg⟩ => ?_
        subst ev
        obtain ⟨g1, g2'⟩ := (S7.left gg).mp dg.1
        obtain ⟨f1, f2⟩ := idx_first dg.1
        -- left.remove(thing)
        refine s_rem (D := { nx := _, rt := _, bk := _, ct := _ }) (e8 al _ hal7) (ev_var rfl) (ev_var rfl) f1 f2 fun H9 e9 => ?_
        rw [erase_idx]
        have had9 : H9 ad = some (.lst (optsV os')) := e9 ad _ (e8 ad _ had7)
        -- deal[thing] = hand
        refine q_setL (j := gg) (v := .int (c : Int)) (xs := optsV os') (by rw [upd_ne d1]; exact had9) (ev_var rfl) (ev_var rfl) (ev_var rfl) (by rw [optsV_len, S7.len]; exact g1) fun H10 e10 => ?_
        have hal10 : H10 al = some (.lst (natsV (ts'.erase gg))) := e10 al _ upd_same
        have hap10 : H10 ap = some (.lst ps') := e10 ap _ (by rw [upd_ne d2.symm]; exact e9 ap _ (e8 ap _ hap7))
        -- picks.append((hand, thing))
        refine s_appU (xs := ps') (by rw [upd_ne d3.symm]; exact hap10) (ev_var rfl) (eu_tup (ea_cons (ev_var rfl) (ea_cons (ev_var rfl) ea_nil)) (by show 2 ≤ 100000; decide)) (by omega) fun tp H11 _ e11 _ => ?_
        have er : optsV (os'.set gg (some c)) = (optsV os').set gg (.int (c : Int)) := by unfold optsV; rw [List.map_set]; rfl
        have le : (ts'.erase gg).length = ts'.length - 1 := List.length_erase_of_mem dg.1
        have lp : 0 < ts'.length := List.length_pos_of_mem dg.1
        have keep : ∀ (b : Addr) (o : HO), H' b = some o → b ≠ al → b ≠ ad → b ≠ ap → upd H11 ap (.lst (ps' ++ [.ref tp])) b = some o := fun b o hb n1 n2 n3 => by
          rw [upd_ne n3]
          refine e11 b _ ?_
          rw [upd_ne n2]
          refine e10 b _ ?_
          rw [upd_ne n1]
          exact e9 b _ (e8 b _ hb)
        refine ⟨os'.set gg (some c), ts'.erase gg, ps' ++ [.ref tp], some (.int (c : Int)), some (.int (gg : Int)), rfl, ?_, keep ao _ hao7 d5 d4 d6, keep ar _ har7 d8 d7 d9, ?_, ?_, upd_same, keep p _ hp7 q2 q1 q3, q1, q2, q3, ?_, ?_, ts_step S7 hch dg.1, ?_⟩
        · intro b o hb
          refine keep b o (ex7 b o hb) (fun z => ?_) (fun z => ?_) (fun z => ?_)
          · rw [z, nal0] at hb; cases hb
          · rw [z, nad0] at hb; cases hb
          · rw [z, nap0] at hb; cases hb
        · rw [upd_ne d3, er]
          exact e11 ad _ upd_same
        · rw [upd_ne d2]
          exact e11 al _ (by rw [upd_ne d1.symm]; exact hal10)
        · rw [List.length_append, List.length_singleton, le]; omega
        · omega
        · rw [dl_set (by rw [S7.len]; exact g1)]
          refine turn_step (wt_pos g.2) R7 hch g1 g2' fun s hs es => ?_
          have z := dg.2 s ((S7.left s).mpr ⟨hs, es⟩)
          have wr : ∀ t, wt T c t = row.getD t 0 := fun t => by
            unfold wt
            rw [List.getD_eq_getElem?_getD (l := T), r3]
            rfl
          rw [wr, wr]
          exact z
      · -- rounds += 1
        obtain ⟨os', ts', ps', w6, w7, rfl, ex7, hao7, har7, had7, hal7, hap7, hp7, q1, q2, q3, hpt7, hct, S7, R7⟩ := pr
        rw [cl] at hct R7
        refine s_aug rfl ev_c fun H8 e8 => ⟨ts'.length, by omega, os', ts', ps', r + 1, w6, w7, ?_, ex7.trans e8, e8 ao _ hao7, e8 ar _ har7, e8 ad _ had7, e8 al _ hal7, e8 ap _ hap7, hpt7, rfl, S7, ?_⟩
        · show _ = [some (V.ref a), some (V.ref ao), some (V.ref ad), some (V.ref al), some (V.ref ap), some (V.int ((r + 1 : Nat) : Int)), w6, w7, none]
          rw [Int.natCast_succ]
          rfl
        · by_cases q : h ≤ ts.length
          · rw [Nat.min_eq_right q] at R7
            exact .inl (turn_wrap (wt_pos g.2) R7)
          · rw [Nat.min_eq_left (by omega)] at R7 hct
            exact .inr ⟨List.length_eq_zero_iff.mp (by omega), _, R7⟩
    · -- return (deal, picks)
      have t0 : ts = [] := List.length_eq_zero_iff.mp (by have := of_decide_eq_false hb; omega)
      subst t0
      obtain ⟨c, Rc⟩ : ∃ c, Turn (wt T) n h c (Dl os) := by
        rcases R with R | ⟨_, R⟩
        · exact ⟨0, R⟩
        · exact R
      obtain ⟨ds, e1', l1, l2, fr⟩ := ts_done g.2 S Rc
      refine s_retU (eu_tup (ea_cons (ev_var rfl) (ea_cons (ev_var rfl) ea_nil)) (by show 2 ≤ 100000; decide)) fun p H7 _ e7 hp => k _ H7 ((ex'.trans e6).trans e7) ⟨p, _, _, rfl, hp, ad, ds, rfl, ?_, l1, l2, fr⟩
      rw [e7 ad _ (e6 ad _ had'), e1', opts_some]
end Lk

namespace Lk
open PySem PySem.Spec PyProof.Rows L2 Evl LE
/-! ### more loops, and small facts -/
section
variable {K : PySem.W.Frag} {H H' : Hp} {σ : L2.St} {ta tb tc te tl : TE} {tas : TA} {a l : Addr} {ns ms : List Int} {xs ys : List V} {D : Ends} {tz tu : TS} {E : XK}
theorem s_forPrs {p : V} {ps : List (Nat × Nat)} {j1 j2 : Nat} (h : Ev tl σ H p) (hp : Prs K ps p H) (Pv : Nat → L2.St → Hp → Prop) (h0 : ∀ H1, Ex H H1 → Pv 0 σ H1) (hl : ∀ i σ' H', i ≤ ps.length → Pv i σ' H' → Ex H H')
    (hs : ∀ (i x y : Nat) σ' H', ps[i]? = some (x, y) → Pv i σ' H' → tu { D with nx := Pv (i + 1), ct := Pv (i + 1), bk := D.nx } ((σ'.set j1 (some (.int (x : Int)))).set j2 (some (.int (y : Int)))) H')
    (hd : ∀ σ' H', Pv ps.length σ' H' → D.nx σ' H') : tFor (iList K tl) (g2 K j1 j2) tu D σ H := by
  obtain ⟨a, ys, rfl, ha, pd⟩ := hp
  have le := pd.length
  refine s_forL h (sq_of ha) Pv h0 (fun i σ' H' hi p => ex_l (hl i σ' H' (by omega) p) (sq_of ha)) (fun i v σ' H' hv p => ?_) (fun σ' H' p => hd σ' H' (by rw [le]; exact p))
  have hi : i < ys.length := (List.getElem?_eq_some_iff.mp hv).1
  have hi2 : i < ps.length := by omega
  obtain ⟨y', q1, t, q2, q3⟩ := pd.get (List.getElem?_eq_getElem hi2)
  rw [hv] at q1
  cases q1
  subst q2
  exact g2_ok (ex_t (hl i σ' H' (by omega) p) q3) (hs i ps[i].1 ps[i].2 σ' H' (List.getElem?_eq_getElem hi2) p)
theorem q_forPrs {p : V} {ps : List (Nat × Nat)} {j1 j2 : Nat} (h : Ev tl σ H p) (hp : Prs K ps p H) (Pv : Nat → L2.St → Hp → Prop) (h0 : ∀ H1, Ex H H1 → Pv 0 σ H1) (hl : ∀ i σ' H', i ≤ ps.length → Pv i σ' H' → Ex H H')
    (hs : ∀ (i x y : Nat) σ' H', ps[i]? = some (x, y) → Pv i σ' H' → tu { D with nx := Pv (i + 1), ct := Pv (i + 1), bk := tz D } ((σ'.set j1 (some (.int (x : Int)))).set j2 (some (.int (y : Int)))) H')
    (hd : ∀ σ' H', Pv ps.length σ' H' → tz D σ' H') : tSeq (tFor (iList K tl) (g2 K j1 j2) tu) tz D σ H := s_forPrs (D := { D with nx := tz D }) h hp Pv h0 hl hs hd
theorem s_forEnum {j1 j2 : Nat} (h : EvA tas σ H [.ref a]) (hx : SqL K H a xs) (Pv : Nat → L2.St → Hp → Prop) (h0 : ∀ H1, Ex H H1 → Pv 0 σ H1) (hl : ∀ i σ' H', i ≤ xs.length → Pv i σ' H' → SqL K H' a xs)
    (hs : ∀ i x σ' H', xs[i]? = some x → Pv i σ' H' → ∀ t, H' t = none → tu { D with nx := Pv (i + 1), ct := Pv (i + 1), bk := D.nx } ((σ'.set j1 (some (.int (i : Int)))).set j2 (some x)) (upd H' t (.tup [.int (i : Int), x])))
    (hd : ∀ σ' H', Pv xs.length σ' H' → D.nx σ' H') : tFor (iEnum K tas) (g2 K j1 j2) tu D σ H := h H (Ex.refl H) _ fun H1 e => ⟨a, xs, rfl, ex_l e hx,
  ⟨fun i m σ H => m = xs.length - i ∧ i ≤ xs.length ∧ Pv i σ H, ⟨xs.length, by simp, Nat.zero_le _, h0 H1 e⟩, by
    rintro i m σ' H' ⟨rfl, hi, p⟩
    have q := hl i σ' H' hi p
    by_cases lt : i < xs.length
    · refine .inr ⟨⟨xs, xs[i], q, List.getElem?_eq_getElem lt⟩, Pv (i + 1), fun σ2 H2 p' => ⟨xs.length - (i + 1), by omega, rfl, lt, p'⟩, fun x H'' y => ?_⟩
      obtain ⟨t, z, ex, nt, eh, f⟩ := y
      subst ex eh
      exact g2_ok (st_of upd_same) (hs i z σ' H' (f xs q) p t nt)
    · have ei : i = xs.length := by omega
      subst ei
      exact .inl ⟨⟨xs, q, Nat.le_refl _⟩, hd σ' H' p⟩⟩⟩
theorem q_forEnum {j1 j2 : Nat} (h : EvA tas σ H [.ref a]) (hx : SqL K H a xs) (Pv : Nat → L2.St → Hp → Prop) (h0 : ∀ H1, Ex H H1 → Pv 0 σ H1) (hl : ∀ i σ' H', i ≤ xs.length → Pv i σ' H' → SqL K H' a xs)
    (hs : ∀ i x σ' H', xs[i]? = some x → Pv i σ' H' → ∀ t, H' t = none → tu { D with nx := Pv (i + 1), ct := Pv (i + 1), bk := tz D } ((σ'.set j1 (some (.int (i : Int)))).set j2 (some x)) (upd H' t (.tup [.int (i : Int), x])))
    (hd : ∀ σ' H', Pv xs.length σ' H' → tz D σ' H') : tSeq (tFor (iEnum K tas) (g2 K j1 j2) tu) tz D σ H := s_forEnum (D := { D with nx := tz D }) h hx Pv h0 hl hs hd
theorem s_forEnumT {j1 j2 : Nat} (h : EvA tas σ H [.ref a]) (hx : SqT K H a xs) (Pv : Nat → L2.St → Hp → Prop) (h0 : ∀ H1, Ex H H1 → Pv 0 σ H1) (hl : ∀ i σ' H', i ≤ xs.length → Pv i σ' H' → SqT K H' a xs)
    (hs : ∀ i x σ' H', xs[i]? = some x → Pv i σ' H' → ∀ t, H' t = none → tu { D with nx := Pv (i + 1), ct := Pv (i + 1), bk := D.nx } ((σ'.set j1 (some (.int (i : Int)))).set j2 (some x)) (upd H' t (.tup [.int (i : Int), x])))
    (hd : ∀ σ' H', Pv xs.length σ' H' → D.nx σ' H') : tFor (iEnumT K tas) (g2 K j1 j2) tu D σ H := h H (Ex.refl H) _ fun H1 e => ⟨a, xs, rfl, ex_t e hx,
  ⟨fun i m σ H => m = xs.length - i ∧ i ≤ xs.length ∧ Pv i σ H, ⟨xs.length, by simp, Nat.zero_le _, h0 H1 e⟩, by
    rintro i m σ' H' ⟨rfl, hi, p⟩
    have q := hl i σ' H' hi p
    by_cases lt : i < xs.length
    · refine .inr ⟨⟨xs, xs[i], q, List.getElem?_eq_getElem lt⟩, Pv (i + 1), fun σ2 H2 p' => ⟨xs.length - (i + 1), by omega, rfl, lt, p'⟩, fun x H'' y => ?_⟩
      obtain ⟨t, z, ex, nt, eh, f⟩ := y
      subst ex eh
      exact g2_ok (st_of upd_same) (hs i z σ' H' (f xs q) p t nt)
    · have ei : i = xs.length := by omega
      subst ei
      exact .inl ⟨⟨xs, q, rfl⟩, hd σ' H' p⟩⟩⟩
theorem q_forEnumT {j1 j2 : Nat} (h : EvA tas σ H [.ref a]) (hx : SqT K H a xs) (Pv : Nat → L2.St → Hp → Prop) (h0 : ∀ H1, Ex H H1 → Pv 0 σ H1) (hl : ∀ i σ' H', i ≤ xs.length → Pv i σ' H' → SqT K H' a xs)
    (hs : ∀ i x σ' H', xs[i]? = some x → Pv i σ' H' → ∀ t, H' t = none → tu { D with nx := Pv (i + 1), ct := Pv (i + 1), bk := tz D } ((σ'.set j1 (some (.int (i : Int)))).set j2 (some x)) (upd H' t (.tup [.int (i : Int), x])))
    (hd : ∀ σ' H', Pv xs.length σ' H' → tz D σ' H') : tSeq (tFor (iEnumT K tas) (g2 K j1 j2) tu) tz D σ H := s_forEnumT (D := { D with nx := tz D }) h hx Pv h0 hl hs hd
theorem dec_nat (i j : Nat) : decide (V.int (i : Int) = V.int (j : Int)) = (i == j) := by
  by_cases h : i = j
  · subst h; simp
  · rw [decide_eq_false (by intro e; injection e with e; exact h (by omega))]
    simp [h]
theorem flat_nats (ts : List Nat) : (natsV ts).all flatV = true := by
  unfold natsV
  rw [List.all_map, List.all_eq_true]
  intro _ _
  rfl
theorem in_nats (ts : List Nat) (k : Nat) : inV (.int (k : Int)) (natsV ts) = ts.contains k := by
  unfold inV natsV
  rw [List.any_map, List.contains_eq_any_beq]
  suffices z : (fun (n : Nat) => eqV (V.int (n : Int)) (V.int (k : Int))) = fun n => k == n by
    show ts.any (fun (n : Nat) => eqV (V.int (n : Int)) (V.int (k : Int))) = _
    rw [z]
  funext n
  show ((n : Int) == (k : Int)) = (k == n)
  by_cases h : n = k
  · subst h; simp
  · have h1 : ¬ ((n : Int) = (k : Int)) := by omega
    have h2 : ¬ (k = n) := by omega
    rw [beq_eq_false_iff_ne.mpr h1, beq_eq_false_iff_ne.mpr h2]
theorem rv_inN {p : Addr} {ts : List Nat} {k : Nat} (h : SqL K H p (natsV ts)) : RV (rIn K false) (.int (k : Int)) (.ref p) H (.bl (ts.contains k)) := by
  rw [← in_nats]
  exact rv_isL h rfl (flat_nats ts)
theorem rv_niN {p : Addr} {ts : List Nat} {k : Nat} (h : SqL K H p (natsV ts)) : RV (rIn K true) (.int (k : Int)) (.ref p) H (.bl (!ts.contains k)) := by
  rw [← in_nats]
  exact rv_niL h rfl (flat_nats ts)
theorem natsV_getD {ts : List Nat} {i : Nat} (h : i < ts.length) : (natsV ts).getD i .non = .int ((ts.getD i 0 : Nat) : Int) := by
  rw [List.getD_eq_getElem?_getD, List.getD_eq_getElem?_getD, List.getElem?_eq_getElem h, natsV_get (List.getElem?_eq_getElem h)]
  rfl
theorem intsV_getD {ns : List Int} {i : Nat} (h : i < ns.length) : (intsV ns).getD i .non = .int (ns.getD i 0) := by
  rw [List.getD_eq_getElem?_getD, List.getD_eq_getElem?_getD, List.getElem?_eq_getElem h, intsV_get (List.getElem?_eq_getElem h)]
  rfl
theorem getD_at {α : Type} {xs : List α} {i : Nat} {d : α} (h : i < xs.length) : xs[i]? = some (xs.getD i d) := by
  rw [List.getD_eq_getElem?_getD, List.getElem?_eq_getElem h]
  rfl
theorem kept_map {α β : Type} (n : Nat) (f : Nat → Bool) (d : Nat → α) (g : α → β) : kept n f (fun i => g (d i)) = (kept n f d).map g := by
  unfold kept
  rw [List.map_map]
  rfl
theorem kept_nats (ts : List Nat) (q : Nat → Bool) : kept ts.length (fun i => q (ts.getD i 0)) (fun i => V.int ((ts.getD i 0 : Nat) : Int)) = natsV (ts.filter q) := by
  rw [kept_map ts.length _ (fun i => ts.getD i 0) (fun (k : Nat) => V.int (k : Int)), kept_filter]
  rfl
/-- xs[-1] -/
theorem ix_last {xs : List V} {v : V} (ne : 0 < xs.length) (e : xs[xs.length - 1]? = some v) : atI xs (-1) = some v := by
  unfold atI ixN
  rw [if_neg (by omega), if_pos (by omega)]
  rw [show ((-1 : Int) + xs.length).toNat = xs.length - 1 by omega]
  exact e
/-- xs.index(k) -/
theorem ev_index {k : Nat} {ts : List Nat} (ha : Ev ta σ H (.ref l)) (hl : SqL K H l (natsV ts)) (h : Ev te σ H (.int (k : Int))) (m : k ∈ ts) : Ev (tBM K "list" (rIndex K) ta (tCons te tNil)) σ H (.int ((ts.idxOf k : Nat) : Int)) := fun H1 e Q q =>
  ha H1 e _ fun H2 e2 => ⟨Or.inl ⟨rfl, _, ex_l (e.trans e2) hl⟩, h H2 (e.trans e2) _ fun H3 e3 => ⟨l, natsV ts, .int (k : Int), ts.idxOf k, .int (k : Int), rfl, rfl, ex_l ((e.trans e2).trans e3) hl, rfl, flat_nats ts,
    natsV_get (idx_first m).1, by show ((k : Int) == (k : Int)) = true; simp, fun j z hj hz => by
      obtain ⟨u, hu, rfl⟩ := natsV_at hz
      have := (idx_first m).2 j hj
      show ((u : Int) == (k : Int)) = false
      have n : ¬ ((u : Int) = (k : Int)) := fun w => this (by rw [hu, show u = k by omega])
      exact beq_eq_false_iff_ne.mpr n, q H3 (e2.trans e3)⟩⟩
theorem find_at {α : Type} {p : α → Bool} {l : List α} {m : Nat} {x : α} (e : l[m]? = some x) (no : (l.take m).find? p = none) (y : p x = true) : l.find? p = some x := by
  have h := (List.getElem?_eq_some_iff.mp e)
  obtain ⟨h1, h2⟩ := h
  rw [← List.take_append_drop m l, List.find?_append, no, List.drop_eq_getElem_cons h1, h2]
  simp [y]
theorem find_more {α : Type} {p : α → Bool} {l : List α} {m : Nat} {x : α} (e : l[m]? = some x) (no : (l.take m).find? p = none) (y : p x = false) : (l.take (m + 1)).find? p = none := by
  rw [List.take_succ, List.find?_append, no, e]
  simp [y]
/-- a list of numbers, new -/
def NatsAt (P : List Nat → Prop) (v : V) (H : Hp) : Prop := ∃ b ts, v = .ref b ∧ H b = some (.lst (natsV ts)) ∧ P ts
theorem natsAt_mono {P : List Nat → Prop} : Mono (NatsAt P) := fun v H H' e ⟨b, ts, h1, h2, h3⟩ => ⟨b, ts, h1, e b _ h2, h3⟩
/-- a < b < c of ints, as a value -/
theorem ev_chain {r r' : R2} {x y z : V} {b1 b2 : Bool} (h1 : Ev ta σ H x) (h2 : Ev tb σ H y) (h3 : RV r x y H (.bl b1)) (h4 : b1 = true → Ev tc σ H z) (h5 : b1 = true → RV r' y z H (.bl b2)) :
    Ev (tChain r r' ta tb tc) σ H (.bl (b1 && b2)) := fun H1 e Q q => h1 H1 e _ fun H2 e2 => h2 H2 (e.trans e2) _ fun H3 e3 => h3 H3 ((e.trans e2).trans e3) _ fun H4 e4 => ⟨b1, rfl, by
  cases b1 with
  | true =>
    rw [if_pos rfl]
    exact h4 rfl H4 (((e.trans e2).trans e3).trans e4) _ fun H5 e5 => h5 rfl H5 ((((e.trans e2).trans e3).trans e4).trans e5) _ fun H6 e6 => q H6 ((((e2.trans e3).trans e4).trans e5).trans e6)
  | false =>
    rw [if_neg Bool.false_ne_true]
    exact q H4 ((e2.trans e3).trans e4)⟩
theorem all_true {n : Nat} : (((List.range n).map fun _ => true).all id) = true := by
  rw [List.all_map, List.all_eq_true]
  intro _ _
  rfl
/-- all([..]) of what holds at every turn -/
theorem ev_allT {wi : TI} {g : TG} {tt : TT} {n : Nat} {st : Nat → L2.St → L2.St} {vs : List Nat} (hw : Wk wi g σ H n st) (hz : n ≤ 40000) (hs : ∀ i, wipe (st i (wipe σ vs)) vs = wipe σ vs)
    (ht : ∀ i H1, Ex H H1 → i < n → EvT tt (st i (wipe σ vs)) H1 true) (he : ∀ i H1, Ex H H1 → i < n → Ev te (st i (wipe σ vs)) H1 (.bl true)) : Ev (tCB (rAll K) (tCons (tLc wi g tt te vs) tNil)) σ H (.bl true) := by
  have z := el_lc (tt := tt) (te := te) (fun _ => true) (fun _ => V.bl true) hw hz hs ht fun i H1 e1 hi _ => he i H1 e1 hi
  rw [kept_all] at z
  have z2 : EvL (tLc wi g tt te vs) σ H (((List.range n).map fun _ => true).map V.bl) := by rw [List.map_map]; exact z
  exact ev_is (ev_allN z2) (by rw [all_true])
end
end Lk

namespace Lk
open PySem PySem.Spec PyProof.Rows L2 Evl LE
/-! ### rings -/
def sp_envied_among (K : PySem.W.Frag) : Sp := fun vs H Q _ => ∃ p l ps hs, ∃ x : Nat, vs = [p, .int (x : Int), .ref l] ∧ Prs K ps p H ∧ SqL K H l (natsV hs) ∧ RetV (oV (among ps x hs)) H Q
abbrev N_envied_among : List Str := ["pairs", "hand", "hands", "one", "other"]
theorem sc_envied_among : FnScope N_envied_among ["pairs", "hand", "hands"] (defScope s_envied_among) := ⟨rfl, rfl, rfl, by decide +kernel, rfl, by decide +kernel, by decide +kernel⟩
theorem ok_envied_among {P : Program} {w : World} {K : PySem.W.Frag} {mg : Str → Option Value} {base : Heap} (TT : Top K mg)  : Ok P w K mg base 1 "envied_among" ["pairs", "hand", "hands"] [] (sp_envied_among K) := by
  refine TT.ok (d := d_envied_among) 40 40 rfl rfl rfl rfl rfl sc_envied_among (fun _ _ _ _ _ _ us hl => match us, hl with | [_, _, _], _ => rfl) (fun vs H Q E h => ?_) (fun cdv A outer s H vs Q E hr h => ?_)
  · obtain ⟨p, l, ps, hs, x, rfl, _⟩ := h; rfl
  · obtain ⟨p, l, ps, hs, x, rfl, hp, hl, k⟩ := h
    refine ⟨_, (pss_cons (ps_for PassesOwn.never rfl (wList K (pv 0)) (gT2 K (n := 2) (pgs_cons (pg_name (i := 3) sc_envied_among.nd rfl (Or.inl rfl) (Or.inr rfl)) (pgs_cons (pg_name (i := 4) sc_envied_among.nd rfl (Or.inl rfl) (Or.inr rfl)) pgs_nil))) (pss_one (ps_if (PW.pt (pw_and (pt_cmpR op_eq (pv 3) (pv 1) (nomark _)) (pw_and1 (pt_cmpR (inS K) (pv 4) (pv 2) rfl)))) (pss_one (ps_ret (pv 4))) pss_nil)))
  (pss_one (ps_ret pe_non))), ?_⟩
    refine q_forPrs (j1 := 3) (j2 := 4) (ev_var rfl) hp (fun m σ' H' => ∃ v3 v4, σ' = [some p, some (.int (x : Int)), some (.ref l), v3, v4] ∧ Ex H H' ∧ (ps.take m).find? (fun q => q.1 == x && hs.contains q.2) = none)
      (fun H1 e1 => ⟨none, none, rfl, e1, rfl⟩) (fun m σ' H' _ ⟨_, _, _, e, _⟩ => e) (fun m a b σ' H' hm pr => ?_) (fun σ' H' pr => ?_)
    · obtain ⟨v3, v4, rfl, ex, no⟩ := pr
      refine s_when (b := (a == x && hs.contains b)) ?_ (fun hb H2 e2 => ?_) (fun hb H2 e2 => ?_)
      · refine et_is (et_and (et_test (ev_op (ev_var rfl) (ev_var rfl) (rv_eq rfl))) (fun _ => et_test (ev_op (ev_var rfl) (ev_var rfl) (rv_inN (ex_l ex hl))))) ?_
        rw [dec_nat]
      · refine s_ret (ev_var rfl) fun H3 e3 => ?_
        have z : among ps x hs = some b := by
          unfold among
          rw [find_at hm no hb]
          rfl
        rw [z] at k
        exact k H3 ((ex.trans e2).trans e3)
      · exact ⟨_, _, rfl, ex.trans e2, find_more hm no hb⟩
    · obtain ⟨v3, v4, rfl, ex, no⟩ := pr
      rw [List.take_length] at no
      refine s_ret ev_c fun H3 e3 => ?_
      have z : among ps x hs = none := by
        unfold among
        rw [no]
        rfl
      rw [z] at k
      exact k H3 (ex.trans e3)
section
variable {K : PySem.W.Frag} {H : Hp} {p : V} {l : Addr} {ps : List (Nat × Nat)} {hs : List Nat} {x : Nat} {σ : L2.St} {ta tb tc td te : TE} {E : XK}
theorem c_among (hp : Prs K ps p H) (hl : SqL K H l (natsV hs)) (e1 : Ev ta σ H p) (e2 : Ev tb σ H (.int (x : Int))) (e3 : Ev tc σ H (.ref l)) : Ev (tCall (sp_envied_among K) [] E (tCons ta (tCons tb (tCons tc tNil)))) σ H (oV (among ps x hs)) :=
  ev_callV (ea_cons e1 (ea_cons e2 (ea_cons e3 ea_nil))) fun H1 e Q k => ⟨p, l, ps, hs, x, rfl, prs_mono _ _ _ e hp, ex_l e hl, k⟩
end
/-- what is left when every hand that is left envies one of them -/
structure Rest (ps : List (Nat × Nat)) (all S : List Nat) : Prop where
  left : Left ps all S
  on : ∀ x, x ∈ S → ∃ y, among ps x S = some y
  le : S.length ≤ all.length
def sp_hands_in_rings (K : PySem.W.Frag) : Sp := fun vs H Q _ => ∃ p l ps all, vs = [p, .ref l] ∧ Prs K ps p H ∧ SqL K H l (natsV all) ∧ all ≠ [] ∧ all.length ≤ 40 ∧ RetP (NatsAt (Rest ps all)) H Q
abbrev N_hands_in_rings : List Str := ["pairs", "hands", "left", "kept", "hand"]
theorem sc_hands_in_rings : FnScope N_hands_in_rings ["pairs", "hands"] (defScope s_hands_in_rings) := ⟨rfl, rfl, rfl, by decide +kernel, rfl, by decide +kernel, by decide +kernel⟩
theorem ok_hands_in_rings {P : Program} {w : World} {K : PySem.W.Frag} {mg : Str → Option Value} {base : Heap} (TT : Top K mg) (O_envied_among : Ok P w K mg base 1 "envied_among" ["pairs", "hand", "hands"] [] (sp_envied_among K)) : Ok P w K mg base 2 "hands_in_rings" ["pairs", "hands"] [] (sp_hands_in_rings K) := by
  refine TT.ok (d := d_hands_in_rings) 41 41 rfl rfl rfl rfl rfl sc_hands_in_rings (fun _ _ _ _ _ _ us hl => match us, hl with | [_, _], _ => rfl) (fun vs H Q E h => ?_) (fun cdv A outer s H vs Q E hr h => ?_)
  · obtain ⟨p, l, ps, all, rfl, _⟩ := h; rfl
  · obtain ⟨p, l, ps, all, rfl, hp, hl, ne, l40, k⟩ := h
    refine ⟨_, (pss_cons (ps_set (i := 2) sc_hands_in_rings.nd rfl (Or.inr rfl) (cListOf K (TT.free 76) (pa_cons (pv 1) pa_nil)))
  (pss_one (ps_while PassesOwn.never (pt_val pe_bl) (pss_cons (ps_setLc (i := 3) (own := [("hand", 4)]) rfl sc_hands_in_rings.nd rfl rfl (sw_true rfl rfl rfl (by decide +kernel)) (wList K (pv 2)) (blkOk_by (N := N_hands_in_rings) (sc := defScope s_hands_in_rings) (by decide +kernel)) (fun _ _ _ _ _ => (pg_name (i := 4) sc_hands_in_rings.nd rfl (Or.inl rfl) (Or.inr rfl))) (fun _ _ _ _ _ => pts_one (pt_cmpR op_notN (pe_cl O_envied_among (hr.mono (by decide)) rfl (pa_cons (pv 0) (pa_cons (pv 4) (pa_cons (pv 2) pa_nil)))) pe_non (nomark _))) (fun _ _ _ _ _ => (pv 4)))
  (pss_cons (ps_if (pt_cmpR op_eq (cLen K (TT.free 70) (pa_cons (pv 3) pa_nil)) (cLen K (TT.free 70) (pa_cons (pv 2) pa_nil)) (nomark _)) (pss_one (ps_ret (pv 3))) pss_nil)
  (pss_one (ps_set (i := 2) sc_hands_in_rings.nd rfl (Or.inr rfl) (pv 3)))))))), ?_⟩
    refine q_asgL (el_list (ev_var rfl) hl) fun a0 H1 n0 e1 h0 => ?_
    refine s_while (fun m σ' H' => ∃ al left v3, σ' = [some p, some (.ref l), some (.ref al), v3, none] ∧ Ex H H' ∧ H' al = some (.lst (natsV left)) ∧ left.length = m ∧ left.length ≤ all.length ∧ Left ps all left) all.length
      ⟨a0, all, none, rfl, e1, h0, rfl, Nat.le_refl _, left_start ne⟩ ?_
    rintro m σ' H' ⟨al, left, v3, rfl, ex, hal, rfl, le, L⟩
    refine ⟨true, et_B ev_c, fun _ H2 e2 => ?_, fun z => nomatch z⟩
    refine ⟨fun σ2 H2 => ∃ m', m' < left.length ∧ ∃ al left' v3, σ2 = [some p, some (.ref l), some (.ref al), v3, none] ∧ Ex H H2 ∧ H2 al = some (.lst (natsV left')) ∧ left'.length = m' ∧ left'.length ≤ all.length ∧ Left ps all left', fun σ2 H2 N => N, ?_⟩
    have hal2 := e2 al _ hal
    refine q_asgL (xs := natsV (keptOf ps left)) ?_ fun ak H3 nk e3 hk => ?_
    · have hw := wk_list (K := K) (j := 4) (tl := tVar 2) (σ := [some p, some (.ref l), some (.ref al), v3, none]) (H := H2) (ev_var rfl) (sq_of hal2)
      rw [natsV_len] at hw
      have z := el_lc (tt := tTest (tOp (fun x y H Q => y = .non ∧ Q (.bl (!decide (x = .non))) H) (tCall (sp_envied_among K) [] E0 (tCons (tVar 0) (tCons (tVar 4) (tCons (tVar 2) tNil)))) (tC .non))) (te := tVar 4) (vs := [4]) (fun i => (among ps (left.getD i 0) left).isSome) (fun i => .int ((left.getD i 0 : Nat) : Int)) hw (by omega) (fun _ => rfl)
        (fun i H4 e4 hi => et_is (et_test (ev_op (c_among (prs_mono _ _ _ ((ex.trans e2).trans e4) hp) (ex_l e4 (sq_of hal2)) (ev_var rfl) (ev_is (ev_var rfl) (natsV_getD hi)) (ev_var rfl)) ev_c rv_noN)) (by rw [oV_non]; cases among ps (left.getD i 0) left <;> rfl))
        (fun i H4 e4 hi _ => ev_is (ev_var rfl) (natsV_getD hi))
      have e := kept_nats left fun x => (among ps x left).isSome
      rw [e] at z
      exact z
    refine q_when (et_test (ev_op (ev_lenA (ev_var rfl) hk) (ev_lenA (ev_var rfl) (e3 al _ hal2)) (rv_eq rfl))) (fun hb H4 e4 => ?_) (fun hb H4 e4 => ?_)
    · have hb := of_decide_eq_true hb
      rw [natsV_len, natsV_len] at hb
      have hb' : (keptOf ps left).length = left.length := by injection hb with hb; omega
      obtain ⟨q1, q2⟩ := left_end hb'
      refine s_ret (ev_var rfl) fun H5 e5 => k _ H5 ((((ex.trans e2).trans e3).trans e4).trans e5) ⟨ak, keptOf ps left, rfl, e5 ak _ (e4 ak _ hk), ?_⟩
      rw [q1]
      exact ⟨L, q2, le⟩
    · have hb := of_decide_eq_false hb
      rw [natsV_len, natsV_len] at hb
      have ll := left_less (ps := ps) (left := left) fun z => hb (by rw [z])
      exact s_asg (ev_var rfl) fun H5 e5 => ⟨_, ll, ak, keptOf ps left, some (.ref ak), rfl, (((ex.trans e2).trans e3).trans e4).trans e5, e5 ak _ (e4 ak _ hk), rfl, by omega, left_step L⟩
/-- a ring, or None when a hand is that nobody envies -/
def RingV (T : List (List Int)) (h : Nat) (os : List (Option Nat)) (v : V) (H : Hp) : Prop :=
  (v = .non ∧ ∃ x, x < h ∧ ∀ y, y < h → (y, x) ∉ enviesL T h os) ∨ ∃ p r, v = .ref p ∧ H p = some (.lst (natsV r)) ∧ Ring (wt T) os.length h (Dl os) r
def sp_ring_of (K : PySem.W.Frag) : Sp := fun vs H Q _ => ∃ a b T h n os, vs = [.ref a, .ref b] ∧ GT K H a T h n ∧ SqL K H b (optsV os) ∧ os.length = n ∧ RetP (RingV T h os) H Q
section
variable {K : PySem.W.Frag} {H : Hp} {a b : Addr} {T : List (List Int)} {h n : Nat} {os : List (Option Nat)} {σ : L2.St} {ta tb tc td te : TE} {E : XK}
theorem c_enviesOf (g : GT K H a T h n) (hb : SqL K H b (optsV os)) (hl : os.length = n) (e1 : Ev ta σ H (.ref a)) (e2 : Ev tb σ H (.ref b)) : EvP (tCall (sp_envies_of K) [] E (tCons ta (tCons tb tNil))) σ H (Prs K (enviesL T h os)) :=
  ep_callP (ea_cons e1 (ea_cons e2 ea_nil)) fun H1 e Q k => ⟨a, b, T, h, n, os, rfl, g.mono e, ex_l e hb, hl, k⟩
theorem envies_at {x y : Nat} (m : (x, y) ∈ enviesL T h os) : x < h ∧ y < h ∧ x ≠ y ∧ vl T os x x < vl T os x y := by
  obtain ⟨m1, m2⟩ := List.mem_filter.mp m
  obtain ⟨h1, h2, h3⟩ := pairs_mem.mp m1
  exact ⟨h1, h2, h3, of_decide_eq_true m2⟩
theorem envies_not {x y : Nat} (hx : x < h) (hy : y < h) (ne : x ≠ y) (m : (x, y) ∉ enviesL T h os) : vl T os x y ≤ vl T os x x := by
  have z : ¬ vl T os x x < vl T os x y := fun q => m (List.mem_filter.mpr ⟨pairs_mem.mpr ⟨hx, hy, ne⟩, decide_eq_true q⟩)
  omega
/-- f(x, xs) of a new list -/
theorem ep_call2L {sp : Sp} {x : V} {xs : List V} {R : V → Hp → Prop} (e1 : Ev ta σ H x) (e2 : EvL tb σ H xs) (hs : ∀ p H1, Ex H H1 → H1 p = some (.lst xs) → ∀ Q : VK, RetP R H1 Q → sp [x, .ref p] H1 Q E) : EvP (tCall sp [] E (tCons ta (tCons tb tNil))) σ H R := fun H1 e Q q =>
  e1 H1 e _ fun H2 e2' => e2 H2 (e.trans e2') _ fun p H3 _ e3 hp => hs p H3 ((e.trans e2').trans e3) hp Q fun v H4 e4 r => q v H4 ((e2'.trans e3).trans e4) r
end
abbrev N_ring_of : List Str := ["table", "deal", "pairs", "hands", "way", "further"]
theorem sc_ring_of : FnScope N_ring_of ["table", "deal"] (defScope s_ring_of) := ⟨rfl, rfl, rfl, by decide +kernel, rfl, by decide +kernel, by decide +kernel⟩
theorem ok_ring_of {P : Program} {w : World} {K : PySem.W.Frag} {mg : Str → Option Value} {base : Heap} (TT : Top K mg) (O_envies_of : Ok P w K mg base 6 "envies_of" ["table", "deal"] [] (sp_envies_of K)) (O_hands_in_rings : Ok P w K mg base 2 "hands_in_rings" ["pairs", "hands"] [] (sp_hands_in_rings K)) (O_envied_among : Ok P w K mg base 1 "envied_among" ["pairs", "hand", "hands"] [] (sp_envied_among K)) (O_hands_of : Ok P w K mg base 1 "hands_of" ["table"] [] (sp_hands_of K)) : Ok P w K mg base 7 "ring_of" ["table", "deal"] [] (sp_ring_of K) := by
  refine TT.ok (d := d_ring_of) 42 42 rfl rfl rfl rfl rfl sc_ring_of (fun _ _ _ _ _ _ us hl => match us, hl with | [_, _], _ => rfl) (fun vs H Q E h => ?_) (fun cdv A outer s H vs Q E hr h => ?_)
  · obtain ⟨a, b, T, h, n, os, rfl, _⟩ := h; rfl
  · obtain ⟨a, b, T, h, n, os, rfl, g, hb, hl, k⟩ := h
    refine ⟨_, (pss_cons (ps_set (i := 2) sc_ring_of.nd rfl (Or.inl rfl) (pe_cl O_envies_of (hr.mono (by decide)) rfl (pa_cons (pv 0) (pa_cons (pv 1) pa_nil))))
  (pss_cons (ps_set (i := 3) sc_ring_of.nd rfl (Or.inl rfl) (pe_cl O_hands_in_rings (hr.mono (by decide)) rfl (pa_cons (pv 2) (pa_cons (pe_listRg rfl rfl (TT.free 76) (prg_1 rfl (TT.free 71) (pe_cl O_hands_of (hr.mono (by decide)) rfl (pa_cons (pv 0) pa_nil)))) pa_nil))))
  (pss_cons (ps_if (pt_cmpR op_eq (cLen K (TT.free 70) (pa_cons (pv 3) pa_nil)) pe_int (nomark _)) (pss_one (ps_ret pe_non)) pss_nil)
  (pss_cons (ps_set (i := 4) sc_ring_of.nd rfl (Or.inl rfl) (pe_lst (pa_cons (pe_ix (ixL K) (pv 3) pe_int (fun _ _ => rfl)) pa_nil)))
  (pss_one (ps_while PassesOwn.never (pt_val pe_bl) (pss_cons (ps_set (i := 5) sc_ring_of.nd rfl (Or.inl rfl) (pe_cl O_envied_among (hr.mono (by decide)) rfl (pa_cons (pv 2) (pa_cons (pe_ix (ixL K) (pv 4) (pe_un un_neg pe_int) (fun _ _ => rfl)) (pa_cons (pv 3) pa_nil)))))
  (pss_cons (ps_if (pt_cmpR (inS K) (pv 5) (pv 4) rfl) (pss_one (ps_ret (pe_slice (slL K) (pv 4) (po_some (eBM K PySem.F.plainAttrs_list PySem.F.slot_list_index PySem.F.type_list_index (mIndex K) (pv 4) (pa_cons (pv 5) pa_nil))) po_none))) pss_nil)
  (pss_one (ps_expr (eBM K PySem.F.plainAttrs_list PySem.F.slot_list_append PySem.F.type_list_append mt_append (pv 4) (pa_cons (pv 5) pa_nil)))))))))))), ?_⟩
    have h4 := g.2.h4
    have h1 := g.2.h1
    refine q_asgP (c_enviesOf g hb hl (ev_var rfl) (ev_var rfl)) fun p H1 e1 hp => ?_
    refine q_asgP (R := NatsAt (Rest (enviesL T h os) (List.range h))) (ep_call2L (ev_var rfl) (el_range (c_hands (g.mono e1) (ev_var rfl)) (by omega)) fun l H2 e2 hl2 Q q => ⟨p, l, enviesL T h os, List.range h, rfl, prs_mono _ _ _ e2 hp, sq_of hl2, by rw [ne_eq, List.range_eq_nil]; omega, by rw [List.length_range]; omega, q⟩) fun v H2 e2 hv => ?_
    obtain ⟨ah, S, rfl, hS, R⟩ := hv
    have len : S.length ≤ 4 := by have := R.le; rw [List.length_range] at this; omega
    refine q_when (et_test (ev_op (ev_lenA (ev_var rfl) hS) ev_c (rv_eq rfl))) (fun hz H3 e3 => ?_) (fun hz H3 e3 => ?_)
    · have hz := of_decide_eq_true hz
      rw [natsV_len] at hz
      have s0 : S = [] := List.length_eq_zero_iff.mp (by injection hz with hz; omega)
      subst s0
      refine s_ret ev_c fun H4 e4 => k _ H4 (((e1.trans e2).trans e3).trans e4) (.inl ⟨rfl, ?_⟩)
      rcases R.left.free with z | ⟨x, m, f⟩
      · exact absurd rfl z
      · exact ⟨x, List.mem_range.mp m, fun y hy => f y (List.mem_range.mpr hy)⟩
    have hz := of_decide_eq_false hz
    rw [natsV_len] at hz
    have s0 : 0 < S.length := by
      rcases Nat.eq_zero_or_pos S.length with z | z
      · exact absurd (by rw [z]; rfl) hz
      · exact z
    have ix0 := getD_at (d := 0) s0
    have m0 := getD_mem (d := 0) s0
    have hS3 := e3 ah _ hS
    refine q_asgL (el_lst (ea_cons (ev_op (ev_var rfl) ev_c (rv_ixL (sq_of hS3) (atI_nat (j := 0) (natsV_get ix0)))) ea_nil) (by show 1 ≤ 100000; decide)) fun aw H4 nw e4 hw => ?_
    have ex4 : Ex H H4 := ((e1.trans e2).trans e3).trans e4
    refine s_while (fun m σ' H' => ∃ way v5, σ' = [some (.ref a), some (.ref b), some p, some (.ref ah), some (.ref aw), v5] ∧ Ex H H' ∧ Ex H3 H' ∧ H' aw = some (.lst (natsV way)) ∧ m + way.length = S.length + 1 ∧ Way (enviesL T h os) S way) S.length
      ⟨[S.getD 0 0], none, rfl, ex4, e4, hw, rfl, way_start m0⟩ ?_
    rintro m σ' H' ⟨way, v5, rfl, ex, exS, haw, hm, W⟩
    have wl := way_len W
    have w0 : 0 < way.length := List.length_pos_iff.mpr W.ne
    refine ⟨true, et_B ev_c, fun _ H5 e5 => ?_, fun z => nomatch z⟩
    refine ⟨fun σ2 H2 => ∃ m', m' < m ∧ ∃ way v5, σ2 = [some (.ref a), some (.ref b), some p, some (.ref ah), some (.ref aw), v5] ∧ Ex H H2 ∧ Ex H3 H2 ∧ H2 aw = some (.lst (natsV way)) ∧ m' + way.length = S.length + 1 ∧ Way (enviesL T h os) S way, fun σ2 H2 N => N, ?_⟩
    obtain ⟨f, ef⟩ := R.on (lastOf way) (W.sub _ (last_mem W.ne))
    have lw : (natsV way)[(natsV way).length - 1]? = some (.int ((lastOf way : Nat) : Int)) := by
      rw [natsV_len]
      exact natsV_get (getD_at (by omega))
    have haw5 := e5 aw _ haw
    refine q_asg (v := oV (among (enviesL T h os) (lastOf way) S)) (c_among (prs_mono _ _ _ (((e2.trans e3).trans exS).trans e5) hp) (sq_of (e5 ah _ (exS ah _ hS3))) (ev_var rfl) (ev_op (ev_var rfl) (ev_un ev_c ru_neg) (rv_ixL (sq_of haw5) (ix_last (by rw [natsV_len]; exact w0) lw))) (ev_var rfl)) fun H6 e6 => ?_
    rw [ef]
    have haw6 := e6 aw _ haw5
    refine q_when (et_test (ev_op (ev_var rfl) (ev_var rfl) (rv_inN (k := f) (sq_of haw6)))) (fun hf H7 e7 => ?_) (fun hf H7 e7 => ?_)
    · have mf : f ∈ way := List.contains_iff_mem.mp hf
      refine s_retL (el_drop (ev_var rfl) (sq_of (e7 aw _ haw6)) (ev_index (ev_var rfl) (sq_of (e7 aw _ haw6)) (ev_var rfl) mf)) fun q H8 nq e8 hq => k _ H8 ((((ex.trans e5).trans e6).trans e7).trans e8) (.inr ⟨q, way.drop (way.idxOf f), rfl, ?_, ?_⟩)
      · rw [hq]
        unfold natsV
        rw [List.map_drop]
      · exact way_ring W (fun x y m => (envies_at m).2.2.2) (fun x hx => List.mem_range.mp (R.left.sub x hx)) ef mf
    · have nf : f ∉ way := fun mf => by
        rw [List.contains_iff_mem.mpr mf] at hf
        cases hf
      have W2 := way_more W ef nf
      have wl2 := way_len W2
      rw [List.length_append, List.length_singleton] at wl2
      have naw : H3 aw = none := nw
      refine s_app (xs := natsV way) (e7 aw _ haw6) (ev_var rfl) (ev_var rfl) (by rw [natsV_len]; omega) fun H8 e8 => ⟨m - 1, by omega, way ++ [f], some (.int (f : Int)), rfl, ?_, ?_, ?_, ?_, W2⟩
      · exact Ex.mut (((((ex.trans e5).trans e6).trans e7).trans e8)) (fresh_back (((e1.trans e2).trans e3)) naw)
      · exact Ex.mut ((((exS.trans e5).trans e6).trans e7).trans e8) naw
      · rw [upd_same]
        unfold natsV
        rw [List.map_append]
        rfl
      · rw [List.length_append, List.length_singleton]
        omega
end Lk

namespace Lk
open PySem PySem.Spec PyProof.Rows L2 Evl LE
/-! ### rings, turned -/
section
variable {K : PySem.W.Frag} {H : Hp} {a b c d : Addr} {σ : L2.St} {ta tb tc td te tv ty tx : TE} {E : XK} {D : Ends} {tz : TS} {kvs : List (Key × V)} {v : V}
theorem q_asgD {i : Nat} (k : ∀ p, H p = none → tz D (σ.set i (some (.ref p))) (upd H p (.dK []))) : tSeq (tAsg tDNewK (gName i)) tz D σ H := k
theorem s_dput {i : Int} (hd : H d = some (.dK kvs)) (e1 : Ev tv σ H v) (e2 : Ev td σ H (.ref d)) (e3 : Ev ty σ H (.int i)) (hl : kvs.length < 100000) (k : ∀ H1, Ex H H1 → D.nx σ (upd H1 d (.dK (putK kvs (Sum.inl i) v)))) : sDPut td ty tv D σ H :=
  e1 H (Ex.refl H) _ fun H1 x1 => e2 H1 x1 _ fun H2 x2 => e3 H2 (x1.trans x2) _ fun H3 x3 => ⟨d, _, rfl, DPut.k (k := Sum.inl i) (((x1.trans x2).trans x3) d _ hd) (sz_lt hl), k H3 ((x1.trans x2).trans x3)⟩
theorem ev_dget {o : Option Nat} {f : Nat → Nat} (hd : H d = some (.dK kvs)) (e1 : Ev td σ H (.ref d)) (e2 : Ev ty σ H (oV o)) (e3 : Ev tx σ H (oV o)) (hv : ∀ x : Nat, (valV kvs (Sum.inl (x : Int))).getD (.int (x : Int)) = .int ((f x : Nat) : Int)) : Ev (tDGetN td ty tx) σ H (oV (o.map f)) := fun H1 x1 Q q =>
  e1 H1 x1 _ fun H2 x2 => ⟨d, kvs, rfl, (x1.trans x2) d _ hd, e2 H2 (x1.trans x2) _ fun H3 x3 => e3 H3 ((x1.trans x2).trans x3) _ fun H4 x4 => ⟨kvs, (((x1.trans x2).trans x3).trans x4) d _ hd, by
    have q' := q H4 ((x2.trans x3).trans x4)
    cases o with
    | none => exact .inr ⟨rfl, q'⟩
    | some x =>
      refine .inl ⟨(x : Int), rfl, ?_⟩
      show Q ((valV kvs (Sum.inl (x : Int))).getD (.int (x : Int))) H4
      rw [hv x]
      exact q'⟩⟩
theorem ev_lenSet {ts : List Nat} (h : Ev ta σ H (.ref a)) (hx : SqL K H a (natsV ts)) (nd : ts.Nodup) (hl : ts.length < 64) : Ev (tLenSetI K ta) σ H (.int (ts.length : Int)) := fun H1 e Q q => h H1 e _ fun H2 e2 =>
  ⟨a, ts.map fun (t : Nat) => (t : Int), rfl, by have z := ex_l (e.trans e2) hx; rw [nats_ints] at z; exact z, by rw [List.length_map]; exact hl, List.pairwise_map.mpr (nd.imp fun ne q => ne (by omega)), by rw [List.length_map]; exact q H2 e2⟩
end
theorem prev_ix {r : List Nat} (nd : r.Nodup) {m : Nat} (hm : m < r.length) : atI (natsV r) ((m : Int) - 1) = some (.int ((prevOf r (r.getD m 0) : Nat) : Int)) := by
  have mm := mem_at hm
  have e : prevOf r (r.getD m 0) = r.getD ((m + (r.length - 1)) % r.length) 0 := by
    unfold prevOf
    rw [if_pos mm, idx_at nd hm]
  rw [e]
  cases m with
  | zero =>
    rw [Nat.zero_add, Nat.mod_eq_of_lt (by omega)]
    refine ix_last (by rw [natsV_len]; exact hm) ?_
    rw [natsV_len]
    exact natsV_get (getD_at (by omega))
  | succ m =>
    rw [show m + 1 + (r.length - 1) = m + r.length by omega, Nat.add_mod_right, Nat.mod_eq_of_lt (by omega)]
    rw [show (((m + 1 : Nat) : Int) - 1) = (m : Int) by omega]
    exact atI_nat (natsV_get (getD_at (by omega)))
def sp_ring_turned (K : PySem.W.Frag) : Sp := fun vs H Q _ => ∃ a b c T h n os r, vs = [.ref a, .ref b, .ref c] ∧ GT K H a T h n ∧ SqL K H b (optsV os) ∧ os.length = n ∧ SqL K H c (natsV r) ∧ r.Nodup ∧ 2 ≤ r.length ∧ (∀ x, x ∈ r → x < h) ∧ RetL (optsV (os.map (Option.map (prevOf r)))) H Q
abbrev N_ring_turned : List Str := ["table", "deal", "ring", "heirs", "k", "hand"]
theorem sc_ring_turned : FnScope N_ring_turned ["table", "deal", "ring"] (defScope s_ring_turned) := ⟨rfl, rfl, rfl, by decide +kernel, rfl, by decide +kernel, by decide +kernel⟩
theorem ok_ring_turned {P : Program} {w : World} {K : PySem.W.Frag} {mg : Str → Option Value} {base : Heap} (TT : Top K mg) (O_hands_of : Ok P w K mg base 1 "hands_of" ["table"] [] (sp_hands_of K)) : Ok P w K mg base 2 "ring_turned" ["table", "deal", "ring"] [] (sp_ring_turned K) := by
  refine TT.ok (d := d_ring_turned) 43 43 rfl rfl rfl rfl rfl sc_ring_turned (fun _ _ _ _ _ _ us hl => match us, hl with | [_, _, _], _ => rfl) (fun vs H Q E h => ?_) (fun cdv A outer s H vs Q E hr h => ?_)
  · obtain ⟨a, b, c, T, h, n, os, r, rfl, _⟩ := h; rfl
  · obtain ⟨a, b, c, T, h, n, os, r, rfl, g, hb, hl, hc, nd, two, lt, k⟩ := h
    refine ⟨_, (pss_cons (ps_if (PW.pt (pw_or (pt_cmpR op_lt (cLen K (TT.free 70) (pa_cons (pv 2) pa_nil)) pe_int (nomark _)) (pw_or1 (pt_cmpR op_lt (cLenSet K (TT.free 70) (TT.free 80) (pv 2)) (cLen K (TT.free 70) (pa_cons (pv 2) pa_nil)) (nomark _))))) (pss_one ps_never) pss_nil)
  (pss_cons (ps_if (pt_not (pt_val (cAll K (TT.free 79) (pa_cons (pe_lc (own := [("hand", 5)]) rfl sc_ring_turned.nd (wList K (pv 2)) (blkOk_by (N := N_ring_turned) (sc := defScope s_ring_turned) (by decide +kernel)) (fun _ _ _ _ _ => (pg_name (i := 5) sc_ring_turned.nd rfl (Or.inl rfl) (Or.inr rfl))) (fun _ _ _ _ _ => pts_nil) (fun _ _ _ _ _ => (pe_chain op_le op_lt pe_int (pv 5) (pe_cl O_hands_of (hr.mono (by decide)) rfl (pa_cons (pv 0) pa_nil))))) pa_nil)))) (pss_one ps_never) pss_nil)
  (pss_cons (ps_set (i := 3) sc_ring_turned.nd rfl (Or.inr rfl) pe_dnewK)
  (pss_cons (ps_for PassesOwn.never rfl (wEnum K (TT.free 77) (pa_cons (pv 2) pa_nil)) (gT2 K (n := 2) (pgs_cons (pg_name (i := 4) sc_ring_turned.nd rfl (Or.inl rfl) (Or.inr rfl)) (pgs_cons (pg_name (i := 5) sc_ring_turned.nd rfl (Or.inl rfl) (Or.inr rfl)) pgs_nil))) (pss_one (ps_dput (hu_of hr) (pv 3) (pv 5) (pe_ix (ixL K) (pv 2) (pe_op op_sub (pv 4) pe_int) (fun _ _ => rfl)) rfl)))
  (pss_one (ps_ret (pe_lc (own := [("hand", 5)]) rfl sc_ring_turned.nd (wList K (pv 1)) (blkOk_by (N := N_ring_turned) (sc := defScope s_ring_turned) (by decide +kernel)) (fun _ _ _ _ _ => (pg_name (i := 5) sc_ring_turned.nd rfl (Or.inl rfl) (Or.inr rfl))) (fun _ _ _ _ _ => pts_nil) (fun _ _ _ _ _ => (pe_dgetN (hu_of hr) (pv 3) (pv 5) (pv 5) ⟨rfl, rfl, rfl, rfl⟩))))))))), ?_⟩
    have h4 := g.2.h4
    have n12 := g.2.n12
    have rl : r.length ≤ h := by
      have := nodup_sub_len (m := List.range h) nd fun x m => List.mem_range.mpr (lt x m)
      rwa [List.length_range] at this
    refine q_when (b := false) ?_ (fun z => nomatch z) fun _ H1 e1 => ?_
    · refine et_is (et_or (et_test (ev_op (ev_len (ev_var rfl) hc) ev_c rv_I0)) (fun _ => et_test (ev_op (ev_lenSet (ev_var rfl) hc nd (by omega)) (ev_len (ev_var rfl) hc) rv_I0))) ?_
      rw [natsV_len, decide_eq_false (by omega), decide_eq_false (by omega)]
      rfl
    refine q_when (b := false) ?_ (fun z => nomatch z) fun _ H2 e2 => ?_
    · have hw := wk_list (K := K) (j := 5) (tl := tVar 2) (σ := [some (.ref a), some (.ref b), some (.ref c), none, none, none]) (H := H1) (ev_var rfl) (ex_l e1 hc)
      rw [natsV_len] at hw
      refine et_is (et_not (et_B (ev_allT hw (by omega) (fun _ => rfl) (fun i H3 e3 hi => et_yes rfl) fun i H3 e3 hi => ?_))) rfl
      have li := lt _ (getD_mem (d := 0) hi)
      exact ev_is (ev_chain ev_c (ev_is (ev_var rfl) (natsV_getD hi)) (rv_t (decide_eq_true (by omega))) (fun _ => c_hands (g.mono (e1.trans e3)) (ev_var rfl)) fun _ => rv_t (decide_eq_true (by omega))) rfl
    have ex := e1.trans e2
    refine q_asgD fun d nd0 => ?_
    have ex3 : Ex H (upd H2 d (.dK [])) := ex.trans (Ex.new nd0)
    refine q_forEnum (j1 := 4) (j2 := 5) (a := c) (xs := natsV r) (ea_cons (ev_var rfl) ea_nil) (ex_l ex3 hc) (fun m σ' H' => ∃ kvs v4 v5, σ' = [some (.ref a), some (.ref b), some (.ref c), some (.ref d), v4, v5] ∧ Ex H H' ∧ H' d = some (.dK kvs) ∧ kvs.length ≤ m ∧ ∀ x : Nat, valV kvs (Sum.inl (x : Int)) = if x ∈ r.take m then some (.int ((prevOf r x : Nat) : Int)) else none)
      (fun H3 e3 => ⟨[], none, none, rfl, ex3.trans e3, e3 d _ upd_same, Nat.le_refl _, fun x => rfl⟩) (fun m σ' H' _ ⟨_, _, _, _, e, _⟩ => ex_l e hc) (fun m x σ' H' hx pr t nt => ?_) (fun σ' H' pr => ?_)
    · obtain ⟨kvs, v4, v5, rfl, ex', hd, le, val⟩ := pr
      have hm : m < r.length := by have := (List.getElem?_eq_some_iff.mp hx).1; rwa [natsV_len] at this
      rw [natsV_get (getD_at (d := 0) hm)] at hx
      cases hx
      have et : Ex H' (upd H' t (.tup [.int (m : Int), .int ((r.getD m 0 : Nat) : Int)])) := Ex.new nt
      refine s_dput (et d _ hd) (ev_op (ev_var rfl) (ev_sub (ev_var rfl) ev_c) (rv_ixL (ex_l (ex'.trans et) hc) (prev_ix nd hm))) (ev_var rfl) (ev_var rfl) (by omega) fun H4 e4 => ⟨_, _, _, rfl, Ex.mut ((ex'.trans et).trans e4) (fresh_back ex nd0), upd_same, Nat.le_trans (length_putK _ _ _) (by omega), fun x => ?_⟩
      rw [valV_put, val x]
      have tk : x ∈ r.take (m + 1) ↔ x ∈ r.take m ∨ x = r.getD m 0 := by
        rw [List.take_succ, getD_at (d := 0) hm, List.mem_append]
        show _ ∨ x ∈ [r.getD m 0] ↔ _
        rw [List.mem_singleton]
      by_cases e : x = r.getD m 0
      · rw [if_pos (by rw [e]), if_pos (tk.mpr (.inr e)), e]
      · rw [if_neg (fun z => e (by injection z with z; omega))]
        by_cases q : x ∈ r.take m
        · rw [if_pos q, if_pos (tk.mpr (.inl q))]
        · rw [if_neg q, if_neg (fun z => (tk.mp z).elim q e)]
    · obtain ⟨kvs, v4, v5, rfl, ex', hd, le, val⟩ := pr
      rw [natsV_len, List.take_length] at val
      have hw := wk_list (K := K) (j := 5) (tl := tVar 1) (σ := [some (.ref a), some (.ref b), some (.ref c), some (.ref d), v4, v5]) (H := H') (ev_var rfl) (ex_l ex' hb)
      rw [optsV_len, hl] at hw
      have z := el_lc (tt := tYes) (te := tDGetN (tVar 3) (tVar 5) (tVar 5)) (vs := [5]) (fun _ => true) (fun i => oV ((Dl os i).map (prevOf r))) hw (by omega) (fun _ => rfl) (fun i H3 e3 hi => et_yes rfl) (fun i H3 e3 hi _ => by
        have e5 : (optsV os).getD i .non = oV (Dl os i) := by rw [List.getD_eq_getElem?_getD, optsV_get (by omega)]; rfl
        refine ev_dget (e3 d _ hd) (ev_var rfl) (ev_is (ev_var rfl) e5) (ev_is (ev_var rfl) e5) fun x => ?_
        rw [val x]
        by_cases q : x ∈ r
        · rw [if_pos q]; rfl
        · rw [if_neg q]
          unfold prevOf
          rw [if_neg q]
          rfl)
      rw [kept_all] at z
      have e6 : (List.range n).map (fun i => oV ((Dl os i).map (prevOf r))) = optsV (os.map (Option.map (prevOf r))) := by
        unfold optsV Dl
        rw [List.map_map]
        refine List.ext_getElem (by rw [List.length_map, List.length_map, List.length_range, hl]) fun i h1 h2 => ?_
        rw [List.length_map] at h2
        rw [List.getElem_map, List.getElem_map, List.getElem_range, List.getD_eq_getElem?_getD, List.getElem?_eq_getElem h2]
        rfl
      rw [e6] at z
      exact s_retL z fun p H3 hp e3 h3 => k p H3 (fresh_back ex' hp) (ex'.trans e3) h3
/-- a hand that nobody envies -/
def Free (T : List (List Int)) (h : Nat) (os : List (Option Nat)) (v : V) (_ : Hp) : Prop := ∃ u : Nat, v = .int (u : Int) ∧ u < h ∧ ∀ i, i < h → i ≠ u → vl T os i u ≤ vl T os i i
def sp_unenvied_of (K : PySem.W.Frag) : Sp := fun vs H Q _ => ∃ a b T h n os, vs = [.ref a, .ref b] ∧ GT K H a T h n ∧ SqL K H b (optsV os) ∧ os.length = n ∧ (∃ x, x < h ∧ ∀ y, y < h → (y, x) ∉ enviesL T h os) ∧ RetP (Free T h os) H Q
theorem ep_minN {K : PySem.W.Frag} {H : Hp} {σ : L2.St} {te : TE} {ns : List Int} (h : EvL te σ H (intsV ns)) (ne : ns ≠ []) : EvP (tCB (rMin K) (tCons te tNil)) σ H (fun v _ => ∃ k, v = .int k ∧ k ∈ ns ∧ ∀ j, j ∈ ns → k ≤ j) := fun H1 e Q q =>
  h H1 e _ fun p H2 _ e2 hp => ⟨p, ns, rfl, sq_of hp, List.length_pos_iff.mpr ne, fun m h1 h2 => q _ H2 e2 ⟨m, rfl, h1, h2⟩⟩
theorem EvP.imp {te : TE} {σ : L2.St} {H : Hp} {R R' : V → Hp → Prop} (h : EvP te σ H R) (i : ∀ v H', R v H' → R' v H') : EvP te σ H R' := fun H1 e Q q => h H1 e Q fun v H2 e2 r => q v H2 e2 (i v H2 r)
abbrev N_unenvied_of : List Str := ["table", "deal", "envied", "one", "other", "hand"]
theorem sc_unenvied_of : FnScope N_unenvied_of ["table", "deal"] (defScope s_unenvied_of) := ⟨rfl, rfl, rfl, by decide +kernel, rfl, by decide +kernel, by decide +kernel⟩
theorem ok_unenvied_of {P : Program} {w : World} {K : PySem.W.Frag} {mg : Str → Option Value} {base : Heap} (TT : Top K mg) (O_envies_of : Ok P w K mg base 6 "envies_of" ["table", "deal"] [] (sp_envies_of K)) (O_hands_of : Ok P w K mg base 1 "hands_of" ["table"] [] (sp_hands_of K)) : Ok P w K mg base 7 "unenvied_of" ["table", "deal"] [] (sp_unenvied_of K) := by
  refine TT.ok (d := d_unenvied_of) 44 44 rfl rfl rfl rfl rfl sc_unenvied_of (fun _ _ _ _ _ _ us hl => match us, hl with | [_, _], _ => rfl) (fun vs H Q E h => ?_) (fun cdv A outer s H vs Q E hr h => ?_)
  · obtain ⟨a, b, T, h, n, os, rfl, _⟩ := h; rfl
  · obtain ⟨a, b, T, h, n, os, rfl, g, hb, hl, ⟨x, hx, fx⟩, k⟩ := h
    refine ⟨_, (pss_cons (ps_set (i := 2) sc_unenvied_of.nd rfl (Or.inr rfl) (pe_lc (own := [("one", 3), ("other", 4)]) rfl sc_unenvied_of.nd (wList K (pe_cl O_envies_of (hr.mono (by decide)) rfl (pa_cons (pv 0) (pa_cons (pv 1) pa_nil)))) (blkOk_by (N := N_unenvied_of) (sc := defScope s_unenvied_of) (by decide +kernel)) (fun _ _ _ _ _ => (gT2 K (n := 2) (pgs_cons (pg_name (i := 3) sc_unenvied_of.nd rfl (Or.inl rfl) (Or.inr rfl)) (pgs_cons (pg_name (i := 4) sc_unenvied_of.nd rfl (Or.inl rfl) (Or.inr rfl)) pgs_nil)))) (fun _ _ _ _ _ => pts_nil) (fun _ _ _ _ _ => (pv 4))))
  (pss_one (ps_ret (cMin K (TT.free 74) (pa_cons (pe_lc (own := [("hand", 5)]) rfl sc_unenvied_of.nd (pi_range1 rfl (TT.free 71) (pa_cons (pe_cl O_hands_of (hr.mono (by decide)) rfl (pa_cons (pv 0) pa_nil)) pa_nil)) (blkOk_by (N := N_unenvied_of) (sc := defScope s_unenvied_of) (by decide +kernel)) (fun _ _ _ _ _ => (pg_name (i := 5) sc_unenvied_of.nd rfl (Or.inl rfl) (Or.inr rfl))) (fun _ _ _ _ _ => pts_one (pt_cmpR (niS K) (pv 5) (pv 2) rfl)) (fun _ _ _ _ _ => (pv 5))) pa_nil))))), ?_⟩
    have h4 := g.2.h4
    have pl : (enviesL T h os).length ≤ 16 := Nat.le_trans (List.length_filter_le _ _) (pairs_len h4)
    have hw := wk_prs (j1 := 3) (j2 := 4) (σ := [some (.ref a), some (.ref b), none, none, none, none]) (c_enviesOf (E := E0) (ta := tVar 0) (tb := tVar 1) g hb hl (ev_var rfl) (ev_var rfl))
    have z := el_lc (tt := tYes) (te := tVar 4) (vs := [3, 4]) (fun _ => true) (fun i => .int ((((enviesL T h os).getD i (0, 0)).2 : Nat) : Int)) hw (by omega) (fun _ => rfl) (fun i H3 e3 hi => et_yes rfl) (fun i H3 e3 hi _ => ev_var rfl)
    have z1 := kept_map (enviesL T h os).length (fun _ => true) (fun i => (enviesL T h os).getD i (0, 0)) (fun (p : Nat × Nat) => V.int ((p.2 : Nat) : Int))
    have z2 := kept_filter (enviesL T h os) (0, 0) (fun _ => true)
    rw [List.filter_eq_self.mpr fun _ _ => rfl] at z2
    rw [z2] at z1
    rw [z1] at z
    have z3 : (enviesL T h os).map (fun (p : Nat × Nat) => V.int ((p.2 : Nat) : Int)) = natsV ((enviesL T h os).map (·.2)) := by
      unfold natsV
      rw [List.map_map]
      rfl
    rw [z3] at z
    refine q_asgL z fun ae H1 ne1 e1 hae => ?_
    have hw2 := wk_range1 (ta := tCons (tCall (sp_hands_of K) [] E0 (tCons (tVar 0) tNil)) tNil) (j := 5) (n := h) (σ := [some (.ref a), some (.ref b), some (.ref ae), none, none, none]) (ea_cons (c_hands (g.mono e1) (ev_var rfl)) ea_nil) (by omega)
    have y := el_lc (tt := tTest (tOp (rIn K true) (tVar 5) (tVar 2))) (te := tVar 5) (vs := [5]) (fun i => !((enviesL T h os).map (·.2)).contains i) (fun i => .int (i : Int)) hw2 (by omega) (fun _ => rfl)
      (fun i H3 e3 hi => et_test (ev_op (ev_var (v := .int (i : Int)) rfl) (ev_var rfl) (rv_niN (ex_l e3 (sq_of hae))))) (fun i H3 e3 hi _ => ev_var rfl)
    have y1 : kept h (fun i => !((enviesL T h os).map (·.2)).contains i) (fun (i : Nat) => V.int (i : Int)) = intsV (((List.range h).filter fun i => !((enviesL T h os).map (·.2)).contains i).map fun (i : Nat) => (i : Int)) := by
      unfold kept intsV
      rw [List.map_map]
      rfl
    rw [y1] at y
    refine s_retP (R := Free T h os) (EvP.imp (ep_minN y ?_) ?_) fun v H2 e2 r => k v H2 (e1.trans e2) r
    · have m : x ∈ (List.range h).filter fun i => !((enviesL T h os).map (·.2)).contains i := by
        refine List.mem_filter.mpr ⟨List.mem_range.mpr hx, ?_⟩
        cases q : ((enviesL T h os).map (·.2)).contains x with
        | false => rfl
        | true =>
          obtain ⟨p, m1, m2⟩ := List.mem_map.mp (List.contains_iff_mem.mp q)
          obtain ⟨y, x'⟩ := p
          cases m2
          exact absurd m1 (fx y (envies_at m1).1)
      intro e
      have := List.mem_map_of_mem (f := fun (i : Nat) => (i : Int)) m
      rw [e] at this
      cases this
    · rintro v _ ⟨u, rfl, m, _⟩
      obtain ⟨j, m1, rfl⟩ := List.mem_map.mp m
      obtain ⟨m2, m3⟩ := List.mem_filter.mp m1
      refine ⟨j, rfl, List.mem_range.mp m2, fun i hi ne => envies_not hi (List.mem_range.mp m2) ne fun q => ?_⟩
      have : j ∈ (enviesL T h os).map (·.2) := List.mem_map_of_mem (f := (·.2)) q
      rw [List.contains_iff_mem.mpr this] at m3
      cases m3
/-- before thing m is given -/
structure RiS (T : List (List Int)) (h n m : Nat) (os : List (Option Nat)) : Prop where
  len : os.length = n
  no : ∀ t, t < n → (Dl os t = none ↔ m ≤ t)
  lt : ∀ t k, t < n → Dl os t = some k → k < h
  ef : EF1 (wt T) n h (Dl os)
theorem dl_turned (os : List (Option Nat)) (r : List Nat) : Dl (os.map (Option.map (prevOf r))) = turned r (Dl os) := by
  funext t
  show (os.map (Option.map (prevOf r))).getD t none = Option.map (prevOf r) (os.getD t none)
  rw [List.getD_eq_getElem?_getD, List.getD_eq_getElem?_getD, List.getElem?_map]
  cases os[t]? <;> rfl
theorem ris_turned {T : List (List Int)} {h n m : Nat} {os : List (Option Nat)} {r : List Nat} (o : TabOk T h n) (S : RiS T h n m os) (R : Ring (wt T) n h (Dl os) r) : RiS T h n m (os.map (Option.map (prevOf r))) := by
  refine ⟨by rw [List.length_map, S.len], fun t ht => ?_, fun t k ht e => ?_, ?_⟩
  · rw [dl_turned]
    unfold turned
    rw [Option.map_eq_none_iff]
    exact S.no t ht
  · rw [dl_turned] at e
    unfold turned at e
    cases q : Dl os t with
    | none => rw [q] at e; cases e
    | some u =>
      rw [q] at e
      have e2 : prevOf r u = k := Option.some.inj e
      have lu := S.lt t u ht q
      rw [← e2]
      by_cases mu : u ∈ r
      · exact R.lt _ (prev_mem mu)
      · unfold prevOf
        rw [if_neg mu]
        exact lu
  · rw [dl_turned]
    exact ef1_turned (wt_pos o) R S.ef
theorem ris_give {T : List (List Int)} {h n m u : Nat} {os : List (Option Nat)} (o : TabOk T h n) (S : RiS T h n m os) (hm : m < n) (hu : u < h) (f : ∀ i, i < h → i ≠ u → vl T os i u ≤ vl T os i i) : RiS T h n (m + 1) (os.set m (some u)) := by
  have hml : m < os.length := by rw [S.len]; exact hm
  have e := dl_set (o := some u) hml
  refine ⟨by rw [List.length_set, S.len], fun t ht => ?_, fun t k ht q => ?_, ?_⟩
  · rw [e]
    unfold put
    by_cases q : t = m
    · rw [if_pos q]
      constructor
      · intro z; cases z
      · intro z; omega
    · rw [if_neg q, S.no t ht]
      omega
  · rw [e] at q
    unfold put at q
    by_cases z : t = m
    · rw [if_pos z] at q
      cases q
      exact hu
    · rw [if_neg z] at q
      exact S.lt t k ht q
  · rw [e]
    refine ef1_give (wt_pos o) S.ef hm ((S.no m hm).mpr (Nat.le_refl _)) fun i hi ne => ?_
    have := f i hi ne
    unfold vl at this
    rw [S.len] at this
    exact this
theorem ris_end {T : List (List Int)} {h n : Nat} {os : List (Option Nat)} (S : RiS T h n n os) : ∃ ds : List Nat, os = ds.map some ∧ ds.length = n ∧ (∀ k, k ∈ ds → k < h) ∧ Fair1 T h ds := by
  obtain ⟨ds, e, l⟩ := whole_list (os := os) (h := h) fun t ht => by
    rw [S.len] at ht
    cases q : Dl os t with
    | none => exact absurd ((S.no t ht).mp q) (by omega)
    | some k => exact ⟨k, S.lt t k ht q, rfl⟩
  have hl : ds.length = n := by rw [← S.len, e, List.length_map]
  refine ⟨ds, e, hl, l, ?_⟩
  have ef : Dl os = Dn ds := by
    funext t
    rw [e, dl_some]
  unfold Fair1
  rw [hl, ← ef]
  exact S.ef
section
variable {K : PySem.W.Frag} {H : Hp} {a b c : Addr} {T : List (List Int)} {h n : Nat} {os : List (Option Nat)} {r : List Nat} {σ : L2.St} {ta tb tc td te : TE} {E : XK}
theorem c_ring (g : GT K H a T h n) (hb : SqL K H b (optsV os)) (hl : os.length = n) (e1 : Ev ta σ H (.ref a)) (e2 : Ev tb σ H (.ref b)) : EvP (tCall (sp_ring_of K) [] E (tCons ta (tCons tb tNil))) σ H (RingV T h os) :=
  ep_callP (ea_cons e1 (ea_cons e2 ea_nil)) fun H1 e Q k => ⟨a, b, T, h, n, os, rfl, g.mono e, ex_l e hb, hl, k⟩
theorem c_free (g : GT K H a T h n) (hb : SqL K H b (optsV os)) (hl : os.length = n) (ex : ∃ x, x < h ∧ ∀ y, y < h → (y, x) ∉ enviesL T h os) (e1 : Ev ta σ H (.ref a)) (e2 : Ev tb σ H (.ref b)) : EvP (tCall (sp_unenvied_of K) [] E (tCons ta (tCons tb tNil))) σ H (Free T h os) :=
  ep_callP (ea_cons e1 (ea_cons e2 ea_nil)) fun H1 e Q k => ⟨a, b, T, h, n, os, rfl, g.mono e, ex_l e hb, hl, ex, k⟩
theorem c_turned (g : GT K H a T h n) (hb : SqL K H b (optsV os)) (hl : os.length = n) (hc : SqL K H c (natsV r)) (nd : r.Nodup) (two : 2 ≤ r.length) (lt : ∀ x, x ∈ r → x < h) (e1 : Ev ta σ H (.ref a)) (e2 : Ev tb σ H (.ref b)) (e3 : Ev tc σ H (.ref c)) :
    EvL (tCall (sp_ring_turned K) [] E (tCons ta (tCons tb (tCons tc tNil)))) σ H (optsV (os.map (Option.map (prevOf r)))) :=
  el_callL (ea_cons e1 (ea_cons e2 (ea_cons e3 ea_nil))) fun H1 e Q k => ⟨a, b, c, T, h, n, os, r, rfl, g.mono e, ex_l e hb, hl, ex_l e hc, nd, two, lt, k⟩
end
def sp_by_rings (K : PySem.W.Frag) : Sp := fun vs H Q _ => ∃ a T h n, vs = [.ref a, .non] ∧ GT K H a T h n ∧ RetP (DealT h n (Fair1 T h)) H Q
abbrev N_by_rings : List Str := ["table", "order", "deal", "rows", "thing", "ring", "hand"]
theorem sc_by_rings : FnScope N_by_rings ["table", "order"] (defScope s_by_rings) := ⟨rfl, rfl, rfl, by decide +kernel, rfl, by decide +kernel, by decide +kernel⟩
theorem ok_by_rings {P : Program} {w : World} {K : PySem.W.Frag} {mg : Str → Option Value} {base : Heap} (TT : Top K mg) (O_nothing_dealt : Ok P w K mg base 2 "nothing_dealt" ["table"] [] (sp_nothing_dealt K)) (O_is_order : Ok P w K mg base 1 "is_order" ["order", "many"] [] (sp_is_order K)) (O_ring_of : Ok P w K mg base 7 "ring_of" ["table", "deal"] [] (sp_ring_of K)) (O_unenvied_of : Ok P w K mg base 7 "unenvied_of" ["table", "deal"] [] (sp_unenvied_of K)) (O_thing_given : Ok P w K mg base 3 "thing_given" ["table", "deal", "thing", "hand"] [] (sp_thing_given K)) (O_things_of : Ok P w K mg base 1 "things_of" ["table"] [] (sp_things_of K)) (O_ring_turned : Ok P w K mg base 2 "ring_turned" ["table", "deal", "ring"] [] (sp_ring_turned K)) : Ok P w K mg base 8 "by_rings" ["table", "order"] [] (sp_by_rings K) := by
  refine TT.okD (d := d_by_rings) 45 45 rfl rfl rfl rfl (by intro z; cases z) sc_by_rings (fun _ _ _ _ _ _ _ us its hl hi => match us, hl, its, hi with | [_, _], _, [_], _ => ⟨_, rfl, rfl⟩) (fun vs H Q E h => ?_) (fun cdv A outer s H vs Q E hr h => ?_)
  · obtain ⟨a, T, h, n, rfl, _⟩ := h; rfl
  · obtain ⟨a, T, h, n, rfl, g, k⟩ := h
    refine ⟨_, (Evl.pss_cut (ps_if (pt_cmpR op_isN (pv 1) pe_non (nomark _)) (pss_one (ps_set (i := 1) sc_by_rings.nd rfl (Or.inl rfl) (pe_listRg rfl rfl (TT.free 76) (prg_1 rfl (TT.free 71) (pe_cl O_things_of (hr.mono (by decide)) rfl (pa_cons (pv 0) pa_nil)))))) pss_nil)
  (pss_cons (ps_if (pt_not (pt_val (pe_cl O_is_order (hr.mono (by decide)) rfl (pa_cons (pv 1) (pa_cons (pe_cl O_things_of (hr.mono (by decide)) rfl (pa_cons (pv 0) pa_nil)) pa_nil))))) (pss_one ps_never) pss_nil)
  (pss_cons (ps_set (i := 2) sc_by_rings.nd rfl (Or.inl rfl) (pe_cl O_nothing_dealt (hr.mono (by decide)) rfl (pa_cons (pv 0) pa_nil)))
  (pss_cons (ps_set (i := 3) sc_by_rings.nd rfl (Or.inl rfl) (pe_lst pa_nil))
  (pss_cons (ps_for PassesOwn.never rfl (wList K (pv 1)) (pg_name (i := 4) sc_by_rings.nd rfl (Or.inl rfl) (Or.inr rfl)) (pss_cons (ps_set (i := 5) sc_by_rings.nd rfl (Or.inl rfl) (pe_cl O_ring_of (hr.mono (by decide)) rfl (pa_cons (pv 0) (pa_cons (pv 2) pa_nil))))
  (pss_cons (ps_while PassesOwn.never (pt_cmpR op_notN (pv 5) pe_non (nomark _)) (pss_cons (ps_set (i := 2) sc_by_rings.nd rfl (Or.inl rfl) (pe_cl O_ring_turned (hr.mono (by decide)) rfl (pa_cons (pv 0) (pa_cons (pv 2) (pa_cons (pv 5) pa_nil)))))
  (pss_cons (ps_expr (eBM K PySem.F.plainAttrs_list PySem.F.slot_list_append PySem.F.type_list_append mt_append (pv 3) (pa_cons (pe_tup (pa_cons pe_str (pa_cons (pv 5) pa_nil))) pa_nil)))
  (pss_one (ps_set (i := 5) sc_by_rings.nd rfl (Or.inl rfl) (pe_cl O_ring_of (hr.mono (by decide)) rfl (pa_cons (pv 0) (pa_cons (pv 2) pa_nil))))))))
  (pss_cons (ps_set (i := 6) sc_by_rings.nd rfl (Or.inl rfl) (pe_cl O_unenvied_of (hr.mono (by decide)) rfl (pa_cons (pv 0) (pa_cons (pv 2) pa_nil))))
  (pss_cons (ps_set (i := 2) sc_by_rings.nd rfl (Or.inl rfl) (pe_cl O_thing_given (hr.mono (by decide)) rfl (pa_cons (pv 0) (pa_cons (pv 2) (pa_cons (pv 4) (pa_cons (pv 6) pa_nil))))))
  (pss_one (ps_expr (eBM K PySem.F.plainAttrs_list PySem.F.slot_list_append PySem.F.type_list_append mt_append (pv 3) (pa_cons (pe_tup (pa_cons pe_str (pa_cons (pv 4) (pa_cons (pv 6) pa_nil)))) pa_nil)))))))))
  (pss_one (ps_ret (pe_tup (pa_cons (pv 2) (pa_cons (pv 3) pa_nil)))))))))), ?_⟩
    have h4 := g.2.h4
    have n12 := g.2.n12
    refine q_cut (M := fun σ' H' => ∃ ao, σ' = [some (.ref a), some (.ref ao), none, none, none, none, none] ∧ Ex H H' ∧ H' ao = some (.lst (natsV (List.range n))) ∧ H ao = none) ?_ fun σ' H' p => ?_
    · refine s_when (b := true) (et_test (ev_op (ev_var rfl) ev_c rv_isN)) (fun _ H1 e1 => ?_) (fun z => nomatch z)
      exact s_asgL (el_range (c_things (g.mono e1) (ev_var rfl)) (by omega)) fun ao H2 nao e2 hao => ⟨ao, rfl, e1.trans e2, hao, fresh_back e1 nao⟩
    obtain ⟨ao, rfl, ex, hao, nao⟩ := p
    refine q_when (b := false) ?_ (fun z => nomatch z) fun _ H1 e1 => ?_
    · exact et_is (et_not (et_B (c_order (sq_of hao) (by omega) (ev_var rfl) (c_things (g.mono ex) (ev_var rfl))))) rfl
    refine q_asgL (c_nothing (g.mono (ex.trans e1)) (ev_var rfl)) fun ad H2 nad e2 had => ?_
    refine q_asgL (el_lst ea_nil (by decide)) fun ar H3 nar e3 har => ?_
    have e03 : Ex H H3 := ((ex.trans e1).trans e2).trans e3
    have nar0 : H ar = none := fresh_back ((ex.trans e1).trans e2) nar
    have hao3 := e3 ao _ (e2 ao _ (e1 ao _ hao))
    have d1 : ao ≠ ar := ne_of_none (e2 ao _ (e1 ao _ hao)) nar
    have d2 : ad ≠ ar := ne_of_none had nar
    refine q_forLn (xs := natsV (List.range n)) (ev_var rfl) (sq_of hao3) (fun m σ' H' => ∃ ad os rs v4 v5 v6, σ' = [some (.ref a), some (.ref ao), some (.ref ad), some (.ref ar), v4, v5, v6] ∧ Ex H H' ∧ H' ao = some (.lst (natsV (List.range n))) ∧ H' ad = some (.lst (optsV os)) ∧ H' ar = some (.lst rs) ∧ ad ≠ ar ∧ rs.length ≤ 17 * m ∧ RiS T h n m os)
      (fun H4 e4 => ⟨ad, List.replicate n none, [], none, none, none, rfl, e03.trans e4, e4 ao _ hao3, by rw [e4 ad _ (e3 ad _ had)]; unfold optsV; rw [List.map_replicate]; rfl, e4 ar _ har, d2, Nat.zero_le _, ?_⟩) (fun m σ' H' _ ⟨_, _, _, _, _, _, _, _, h, _⟩ => sq_of h) (fun m x σ' H' hx pr => ?_) (fun σ' H' pr => ?_)
    · have z : Dl (List.replicate n none) = fun _ => none := by
        funext t
        unfold Dl
        rw [List.getD_eq_getElem?_getD, List.getElem?_replicate]
        split <;> rfl
      refine ⟨List.length_replicate .., fun t ht => ?_, fun t k ht e => ?_, ?_⟩
      · rw [z]; simp
      · rw [z] at e; cases e
      · rw [z]; exact ef1_none
    · obtain ⟨ad, os, rs, v4, v5, v6, rfl, ex', hao', had', har', dne, rl, S⟩ := pr
      have hm : m < n := by have := (List.getElem?_eq_some_iff.mp hx).1; rwa [natsV_len, List.length_range] at this
      rw [natsV_get (List.getElem?_range hm)] at hx
      cases hx
      refine q_asgP (c_ring (g.mono ex') (sq_of had') S.len (ev_var rfl) (ev_var rfl)) fun vr H4 e4 hr => ?_
      have rk := rankN_top (w := wt T) (n := n) (h := h) (D0 := Dl os) (D := Dl os)
      have hh : h * h ≤ 16 := Nat.mul_le_mul h4 h4
      obtain ⟨os0, eo⟩ : ∃ os0, os0 = os := ⟨os, rfl⟩
      refine q_while (fun m' σ' H' => ∃ ad os rs vr v6, σ' = [some (.ref a), some (.ref ao), some (.ref ad), some (.ref ar), some (.int (m : Int)), some vr, v6] ∧ Ex H H' ∧ H' ao = some (.lst (natsV (List.range n))) ∧ H' ad = some (.lst (optsV os)) ∧ H' ar = some (.lst rs) ∧ ad ≠ ar ∧ RingV T h os vr H' ∧ RiS T h n m os ∧
        Moved (wt T) n h (Dl os0) (Dl os) ∧ m' = rankN (wt T) n h (Dl os0) (Dl os) ∧ rs.length + m' ≤ 17 * m + 16) (rankN (wt T) n h (Dl os0) (Dl os)) ⟨ad, os, rs, vr, v6, rfl, ex'.trans e4, e4 ao _ hao', e4 ad _ had', e4 ar _ har', dne, hr, S, by rw [eo]; exact moved_refl, rfl, by rw [eo]; omega⟩ ?_
      clear rk
      rintro m' σ' H' ⟨ad, os, rs, vr, v6, rfl, ex', hao', had', har', dne, hr, S, M, rfl, rl⟩
      rcases hr with ⟨rfl, fr⟩ | ⟨c, r, rfl, hc, R⟩
      · refine ⟨false, et_test (ev_op (ev_var rfl) ev_c rv_noN), fun z => (nomatch z), fun _ H5 e5 => ?_⟩
        refine q_asgP (c_free (g.mono (ex'.trans e5)) (sq_of (e5 ad _ had')) S.len fr (ev_var rfl) (ev_var rfl)) fun vu H6 e6 ⟨u, eu, hu, fu⟩ => ?_
        subst eu
        refine q_asgL (c_given (t := m) (g.mono ((ex'.trans e5).trans e6)) (sq_of (e6 ad _ (e5 ad _ had'))) S.len hm hu ((S.no m hm).mpr (Nat.le_refl _)) (ev_var rfl) (ev_var rfl) (ev_var rfl) (ev_var rfl)) fun ad2 H7 nad2 e7 had2 => ?_
        have har7 := e7 ar _ (e6 ar _ (e5 ar _ har'))
        have d3 : ad2 ≠ ar := (ne_of_none (e6 ar _ (e5 ar _ har')) nad2).symm
        refine s_appU (xs := rs) har7 (ev_var rfl) (eu_tup (ea_cons ev_c (ea_cons (ev_var rfl) (ea_cons (ev_var rfl) ea_nil))) (by show 3 ≤ 100000; decide)) (by omega) fun tp H8 _ e8 _ => ⟨ad2, os.set m (some u), _, _, _, _, rfl, ?_, ?_, ?_, upd_same, d3, ?_, ris_give g.2 S hm hu fu⟩
        · exact Ex.mut ((((ex'.trans e5).trans e6).trans e7).trans e8) nar0
        · rw [upd_ne d1]; exact e8 ao _ (e7 ao _ (e6 ao _ (e5 ao _ hao')))
        · rw [upd_ne d3]; exact e8 ad2 _ had2
        · rw [List.length_append, List.length_singleton]; omega
      · refine ⟨true, et_test (ev_op (ev_var rfl) ev_c rv_noN), fun _ H5 e5 => ?_, fun z => (nomatch z)⟩
        have hl := S.len
        have R' : Ring (wt T) n h (Dl os) r := by rw [← hl]; exact R
        refine ⟨_, fun σ2 H2 N => N, ?_⟩
        refine q_asgL (c_turned (g.mono (ex'.trans e5)) (sq_of (e5 ad _ had')) S.len (sq_of (e5 c _ hc)) R.nd R.two R.lt (ev_var rfl) (ev_var rfl) (ev_var rfl)) fun ad2 H6 nad2 e6 had2 => ?_
        have har6 := e6 ar _ (e5 ar _ har')
        have d3 : ad2 ≠ ar := (ne_of_none (e5 ar _ har') nad2).symm
        refine q_appU (xs := rs) har6 (ev_var rfl) (eu_tup (ea_cons ev_c (ea_cons (ev_var rfl) ea_nil)) (by show 2 ≤ 100000; decide)) (by omega) fun tp H7 _ e7 _ => ?_
        have ex7 : Ex H (upd H7 ar (.lst (rs ++ [.ref tp]))) := Ex.mut (((ex'.trans e5).trans e6).trans e7) nar0
        have had7 : upd H7 ar (.lst (rs ++ [.ref tp])) ad2 = some (.lst (optsV (os.map (Option.map (prevOf r))))) := by rw [upd_ne d3]; exact e7 ad2 _ had2
        have S2 := ris_turned g.2 S R'
        have mt := rank_turned M R'
        have M2 := moved_turned M R'
        rw [← dl_turned] at mt M2
        refine s_asgP (c_ring (g.mono ex7) (sq_of had7) S2.len (ev_var rfl) (ev_var rfl)) fun v2 H8 e8 hr2 => ⟨_, mt, ad2, _, _, v2, v6, rfl, ex7.trans e8, ?_, e8 ad2 _ had7, e8 ar _ upd_same, d3, hr2, S2, M2, rfl, ?_⟩
        · refine e8 ao _ ?_
          rw [upd_ne d1]
          exact e7 ao _ (e6 ao _ (e5 ao _ hao'))
        · rw [List.length_append, List.length_singleton]; omega
    · obtain ⟨ad, os, rs, v4, v5, v6, rfl, ex', hao', had', har', dne, rl, S⟩ := pr
      rw [natsV_len, List.length_range] at S
      obtain ⟨ds, e1', l1, l2, fr⟩ := ris_end S
      refine s_retU (eu_tup (ea_cons (ev_var rfl) (ea_cons (ev_var rfl) ea_nil)) (by show 2 ≤ 100000; decide)) fun p H7 _ e7 hp => k _ H7 (ex'.trans e7) ⟨p, _, _, rfl, hp, ad, ds, rfl, ?_, l1, l2, fr⟩
      rw [e7 ad _ had', e1', opts_some]
end Lk

namespace Lk
open PySem PySem.Spec PyProof.Rows L2 Evl LE
/-! ### weights (all of them 1) -/
def sp_check_weights (K : PySem.W.Frag) : Sp := fun vs H Q _ => ∃ a b T h n, vs = [.ref a, .ref b] ∧ GT K H a T h n ∧ SqL K H b (List.replicate h (.int 1)) ∧ RetV .non H Q
theorem one_at {h i : Nat} (hi : i < h) : (List.replicate h (V.int 1))[i]? = some (.int 1) := by rw [List.getElem?_replicate, if_pos hi]
abbrev N_check_weights : List Str := ["table", "weights", "weight"]
theorem sc_check_weights : FnScope N_check_weights ["table", "weights"] (defScope s_check_weights) := ⟨rfl, rfl, rfl, by decide +kernel, rfl, by decide +kernel, by decide +kernel⟩
theorem ok_check_weights {P : Program} {w : World} {K : PySem.W.Frag} {mg : Str → Option Value} {base : Heap} (TT : Top K mg) (O_hands_of : Ok P w K mg base 1 "hands_of" ["table"] [] (sp_hands_of K)) : Ok P w K mg base 2 "check_weights" ["table", "weights"] [] (sp_check_weights K) := by
  obtain ⟨t_MOST_WEIGHT, h_MOST_WEIGHT⟩ := TT.int 84 (x := "MOST_WEIGHT")
  refine TT.ok (d := d_check_weights) 28 28 rfl rfl rfl rfl rfl sc_check_weights (fun _ _ _ _ _ _ us hl => match us, hl with | [_, _], _ => rfl) (fun vs H Q E h => ?_) (fun cdv A outer s H vs Q E hr h => ?_)
  · obtain ⟨a, b, T, h, n, rfl, _⟩ := h; rfl
  · obtain ⟨a, b, T, h, n, rfl, g, hb, k⟩ := h
    refine ⟨_, (pss_one (ps_if (PW.pt (pw_or (pt_cmpR op_ne (cLen K (TT.free 70) (pa_cons (pv 1) pa_nil)) (pe_cl O_hands_of (hr.mono (by decide)) rfl (pa_cons (pv 0) pa_nil)) (nomark _)) (pw_or1 (pt_not (pt_val (cAll K (TT.free 79) (pa_cons (pe_lc (own := [("weight", 2)]) rfl sc_check_weights.nd (wList K (pv 1)) (blkOk_by (N := N_check_weights) (sc := defScope s_check_weights) (by decide +kernel)) (fun _ _ _ _ _ => (pg_name (i := 2) sc_check_weights.nd rfl (Or.inl rfl) (Or.inr rfl))) (fun _ _ _ _ _ => pts_nil) (fun _ _ _ _ _ => (pe_chain op_le op_le pe_int (pv 2) (pe_glob (v := .int (10 ^ 120)) rfl h_MOST_WEIGHT ⟨_, rfl⟩)))) pa_nil))))))) (pss_one ps_never) pss_nil)), ?_⟩
    have h4 := g.2.h4
    refine s_when (b := false) ?_ (fun z => nomatch z) fun _ H1 e1 => k H1 e1
    have hw := wk_list (K := K) (j := 2) (tl := tVar 1) (σ := [some (.ref a), some (.ref b), none]) (H := H) (ev_var rfl) hb
    rw [List.length_replicate] at hw
    refine et_is (et_or (et_test (ev_op (ev_len (ev_var rfl) hb) (c_hands g (ev_var rfl)) (rv_ne rfl))) (fun _ => et_not (et_B (ev_allT hw (by omega) (fun _ => rfl) (fun i H3 e3 hi => et_yes rfl) fun i H3 e3 hi => ?_)))) ?_
    · have e5 : (List.replicate h (V.int 1)).getD i .non = .int 1 := by rw [List.getD_eq_getElem?_getD, one_at hi]; rfl
      exact ev_is (ev_chain ev_c (ev_is (ev_var rfl) e5) (rv_t (by decide)) (fun _ => ev_c) fun _ => rv_t (by decide)) rfl
    · rw [List.length_replicate]
      simp
def BestD (T : List (List Int)) (h : Nat) (ds : List Nat) : Prop := Best (wt T) ds.length h (Dn ds)
def sp_by_weights (K : PySem.W.Frag) : Sp := fun vs H Q _ => ∃ a b T h n, vs = [.ref a, .ref b] ∧ GT K H a T h n ∧ SqL K H b (List.replicate h (.int 1)) ∧ RetP (DealV h n (BestD T h)) H Q
theorem natsV_app (ts : List Nat) (k : Nat) : natsV ts ++ [V.int (k : Int)] = natsV (ts ++ [k]) := by
  unfold natsV
  rw [List.map_append]
  rfl
abbrev N_by_weights : List Str := ["table", "weights", "deal", "thing", "owner", "hand"]
theorem sc_by_weights : FnScope N_by_weights ["table", "weights"] (defScope s_by_weights) := ⟨rfl, rfl, rfl, by decide +kernel, rfl, by decide +kernel, by decide +kernel⟩
theorem ok_by_weights {P : Program} {w : World} {K : PySem.W.Frag} {mg : Str → Option Value} {base : Heap} (TT : Top K mg) (O_check_weights : Ok P w K mg base 2 "check_weights" ["table", "weights"] [] (sp_check_weights K)) (O_things_of : Ok P w K mg base 1 "things_of" ["table"] [] (sp_things_of K)) (O_hands_of : Ok P w K mg base 1 "hands_of" ["table"] [] (sp_hands_of K)) : Ok P w K mg base 3 "by_weights" ["table", "weights"] [] (sp_by_weights K) := by
  refine TT.ok (d := d_by_weights) 29 29 rfl rfl rfl rfl rfl sc_by_weights (fun _ _ _ _ _ _ us hl => match us, hl with | [_, _], _ => rfl) (fun vs H Q E h => ?_) (fun cdv A outer s H vs Q E hr h => ?_)
  · obtain ⟨a, b, T, h, n, rfl, _⟩ := h; rfl
  · obtain ⟨a, b, T, h, n, rfl, g, hb, k⟩ := h
    refine ⟨_, (pss_cons (ps_expr (pe_cl O_check_weights (hr.mono (by decide)) rfl (pa_cons (pv 0) (pa_cons (pv 1) pa_nil))))
  (pss_cons (ps_set (i := 2) sc_by_weights.nd rfl (Or.inl rfl) (pe_lst pa_nil))
  (pss_cons (ps_for PassesOwn.never rfl (pi_range1 rfl (TT.free 71) (pa_cons (pe_cl O_things_of (hr.mono (by decide)) rfl (pa_cons (pv 0) pa_nil)) pa_nil)) (pg_name (i := 3) sc_by_weights.nd rfl (Or.inl rfl) (Or.inr rfl)) (pss_cons (ps_set (i := 4) sc_by_weights.nd rfl (Or.inl rfl) pe_int)
  (pss_cons (ps_for PassesOwn.never rfl (pi_range1 rfl (TT.free 71) (pa_cons (pe_cl O_hands_of (hr.mono (by decide)) rfl (pa_cons (pv 0) pa_nil)) pa_nil)) (pg_name (i := 5) sc_by_weights.nd rfl (Or.inl rfl) (Or.inr rfl)) (pss_one (ps_if (pt_cmpR op_gt (pe_op op_mul (pe_ix (ixL K) (pv 1) (pv 5) (fun _ _ => rfl)) (pe_ix (ixL K) (pe_ix (ixL K) (pv 0) (pv 5) (fun _ _ => rfl)) (pv 3) (fun _ _ => rfl))) (pe_op op_mul (pe_ix (ixL K) (pv 1) (pv 4) (fun _ _ => rfl)) (pe_ix (ixL K) (pe_ix (ixL K) (pv 0) (pv 4) (fun _ _ => rfl)) (pv 3) (fun _ _ => rfl))) (nomark _)) (pss_one (ps_set (i := 4) sc_by_weights.nd rfl (Or.inl rfl) (pv 5))) pss_nil)))
  (pss_one (ps_expr (eBM K PySem.F.plainAttrs_list PySem.F.slot_list_append PySem.F.type_list_append mt_append (pv 2) (pa_cons (pv 4) pa_nil)))))))
  (pss_one (ps_ret (pv 2)))))), ?_⟩
    have h4 := g.2.h4
    have h1 := g.2.h1
    have n12 := g.2.n12
    refine q_drop (v := .non) (ev_callV (ea_cons (ev_var rfl) (ea_cons (ev_var rfl) ea_nil)) fun H1 e Q k => ⟨a, b, T, h, n, rfl, g.mono e, ex_l e hb, k⟩) fun H1 e1 => ?_
    refine q_asgL (el_lst ea_nil (by decide)) fun ad H2 nad e2 had => ?_
    have nad0 : H ad = none := fresh_back e1 nad
    refine q_forR1 (n := (n : Int)) (ea_cons (c_things (g.mono (e1.trans e2)) (ev_var rfl)) ea_nil) (by omega) (fun m σ' H' => ∃ ds v3 v4 v5, σ' = [some (.ref a), some (.ref b), some (.ref ad), v3, v4, v5] ∧ Ex H H' ∧ H' ad = some (.lst (natsV ds)) ∧ ds.length = m ∧ ∀ (t k : Nat), ds[t]? = some k → k < h ∧ ∀ j, j < h → wt T j t ≤ wt T k t)
      (fun H3 e3 => ⟨[], none, none, none, rfl, (e1.trans e2).trans e3, e3 ad _ had, rfl, fun t k e => by simp at e⟩) (fun m σ' H' hm pr => ?_) (fun σ' H' pr => ?_)
    · obtain ⟨ds, v3, v4, v5, rfl, ex, hd, len, top⟩ := pr
      have hm' : m < n := by omega
      refine q_asg ev_c fun H3 e3 => ?_
      refine q_forR1 (n := (h : Int)) (ea_cons (c_hands (g.mono (ex.trans e3)) (ev_var rfl)) ea_nil) (by omega) (fun i σ' H' => ∃ (o : Nat) (v5 : Option V), σ' = [some (.ref a), some (.ref b), some (.ref ad), some (.int (m : Int)), some (.int (o : Int)), v5] ∧ Ex H H' ∧ H' ad = some (.lst (natsV ds)) ∧ o < h ∧ ∀ j, j < i → wt T j m ≤ wt T o m)
        (fun H4 e4 => ⟨0, v5, rfl, (ex.trans e3).trans e4, e4 ad _ (e3 ad _ hd), h1, fun j hj => absurd hj (Nat.not_lt_zero j)⟩) (fun i σ' H' hi pr => ?_) (fun σ' H' pr => ?_)
      · obtain ⟨o, v5, rfl, ex, hd, ho, top'⟩ := pr
        have hi' : i < h := by omega
        have c1 : CMul 1 (wt T i m) := Or.inl ⟨by omega, by omega⟩
        have c2 : CMul 1 (wt T o m) := Or.inl ⟨by omega, by omega⟩
        refine s_when (et_test (ev_op (ev_op (ev_op (ev_var rfl) (ev_var rfl) (rv_ixL (ex_l ex hb) (atI_nat (one_at hi')))) (ev_cell (g.mono ex) hi' hm' (ev_var rfl) (ev_var rfl) (ev_var rfl)) (rv_I c1)) (ev_op (ev_op (ev_var rfl) (ev_var rfl) (rv_ixL (ex_l ex hb) (atI_nat (one_at ho)))) (ev_cell (g.mono ex) ho hm' (ev_var rfl) (ev_var rfl) (ev_var rfl)) (rv_I c2)) rv_I0)) (fun z H2 e2 => ?_) (fun z H2 e2 => ?_)
        · have z := of_decide_eq_true z
          refine s_asg (ev_var rfl) fun H5 e5 => ⟨i, some (.int (i : Int)), rfl, (ex.trans e2).trans e5, e5 ad _ (e2 ad _ hd), hi', fun j hj => ?_⟩
          by_cases q : j = i
          · rw [q]; exact Int.le_refl _
          · have := top' j (by omega); omega
        · have z := of_decide_eq_false z
          refine ⟨o, some (.int (i : Int)), rfl, ex.trans e2, e2 ad _ hd, ho, fun j hj => ?_⟩
          by_cases q : j = i
          · rw [q]; omega
          · exact top' j (by omega)
      · obtain ⟨o, v5, rfl, ex, hd, ho, top'⟩ := pr
        refine s_app (xs := natsV ds) hd (ev_var rfl) (ev_var rfl) (by rw [natsV_len]; omega) fun H5 e5 => ⟨ds ++ [o], _, _, _, rfl, Ex.mut (ex.trans e5) nad0, by rw [upd_same, natsV_app], by rw [List.length_append, List.length_singleton, len], fun t k e => ?_⟩
        by_cases q : t < ds.length
        · rw [List.getElem?_append_left q] at e
          exact top t k e
        · have q2 := (List.getElem?_eq_some_iff.mp e).1
          rw [List.length_append, List.length_singleton] at q2
          have q3 : t = m := by omega
          subst q3
          rw [List.getElem?_append_right (by omega), len, Nat.sub_self] at e
          cases e
          exact ⟨ho, fun j hj => top' j (by omega)⟩
    · obtain ⟨ds, v3, v4, v5, rfl, ex, hd, len, top⟩ := pr
      rw [Int.toNat_natCast] at len
      refine s_ret (ev_var rfl) fun H5 e5 => k _ H5 (ex.trans e5) ⟨ad, ds, rfl, e5 ad _ hd, len, fun k m => ?_, ?_⟩
      · obtain ⟨t, ht⟩ := List.mem_iff_getElem?.mp m
        exact (top t k ht).1
      · unfold BestD
        refine best_of_weights (c := fun _ => 1) (fun _ _ => by omega) (fun t ht => ?_) fun t ht k e j hj => ?_
        · exact ⟨ds[t], (top t _ (List.getElem?_eq_getElem ht)).1, List.getElem?_eq_getElem ht⟩
        · have := (top t k e).2 j hj
          show 1 * wt T j t ≤ 1 * wt T k t
          omega
end Lk

namespace Lk
open PySem PySem.Spec PyProof.Rows L2 Evl LE
/-! ### what a call leaves that is new -/
def RetN (E : V → Hp → Prop) (H : Hp) (Q : VK) : Prop := ∀ v H2, Ex H H2 → E v (newp H H2) → Q v H2
section
variable {te ta tb tc : TE} {σ : L2.St} {H H' : Hp} {R : V → Hp → Prop} {D : Ends} {tz : TS}
theorem en_callN {sp : Sp} {dvs vs : List V} {E : XK} {ta : TA} (m : Mono R) (h : EvA ta σ H vs) (hs : ∀ H1, Ex H H1 → ∀ Q : VK, RetN R H1 Q → sp (vs ++ dvs) H1 Q E) : EvN (tCall sp dvs E ta) σ H R := fun H1 e Q q =>
  h H1 e _ fun H2 e2 => hs H2 (e.trans e2) Q (fun v H3 e3 r => q v H3 (e2.trans e3) (m v _ _ (newp_mono e2) r))
theorem s_asgN {i : Nat} (h : EvN te σ H R) (k : ∀ v H1, Ex H H1 → R v (newp H H1) → D.nx (σ.set i (some v)) H1) : tAsg te (gName i) D σ H := h H (Ex.refl H) _ k
theorem q_asgN {i : Nat} (h : EvN te σ H R) (k : ∀ v H1, Ex H H1 → R v (newp H H1) → tz D (σ.set i (some v)) H1) : tSeq (tAsg te (gName i)) tz D σ H := s_asgN (D := { D with nx := tz D }) h k
theorem s_retN {H0 : Hp} {Q : VK} (m : Mono R) (e : Ex H0 H) (h : EvN te σ H R) (k : RetN R H0 Q) (hd : D.rt = Q) : tRet te D σ H := h H (Ex.refl H) _ fun v H1 e1 r => by
  show D.rt v H1
  rw [hd]
  exact k v H1 (e.trans e1) (m v _ _ (newp_mono e) r)
/-- a tuple of two values and a new list -/
theorem en_tup3L {x y : V} {xs : List V} (h1 : Ev ta σ H x) (h2 : Ev tb σ H y) (h3 : EvL tc σ H xs) : EvN (tTup (tCons ta (tCons tb (tCons tc tNil)))) σ H (fun v N => ∃ t p, v = .ref t ∧ N t = some (.tup [x, y, .ref p]) ∧ N p = some (.lst xs)) := fun H1 e Q q =>
  h1 H1 e _ fun H2 e2 => h2 H2 (e.trans e2) _ fun H3 e3 => h3 H3 ((e.trans e2).trans e3) _ fun p H4 np e4 hp => ⟨by show 3 ≤ sizeLine; decide, fun t nt => by
    have e14 : Ex H1 H4 := (e2.trans e3).trans e4
    refine q _ _ (e14.trans (Ex.new nt)) ⟨t, p, rfl, ?_, ?_⟩
    · rw [newp_at (fresh_back e14 nt), upd_same]
    · rw [newp_at (fresh_back (e2.trans e3) np), upd_ne (ne_of_none hp nt)]
      exact hp⟩
end
/-! ### halves -/
def halfB (T : List (List Int)) (i k : Nat) (L B : List Nat) : Bool := decide (lsum (wt T i) L ≤ 2 * (k : Int) * lsum (wt T i) B)
def sp_is_half_enough (K : PySem.W.Frag) : Sp := fun vs H Q _ => ∃ a l s T h n L B, ∃ i k : Nat, vs = [.ref a, .int (i : Int), .int (k : Int), .ref l, .ref s] ∧ GT K H a T h n ∧ SqL K H l (natsV L) ∧ SqL K H s (natsV B) ∧ (∀ t, t ∈ L → t < n) ∧ (∀ t, t ∈ B → t < n) ∧ i < h ∧ k ≤ 4 ∧ RetV (.bl (halfB T i k L B)) H Q
theorem ev_mulS {i j : Int} {ta tb : TE} {σ : L2.St} {H : Hp} (h1 : Ev ta σ H (.int i)) (h2 : Ev tb σ H (.int j)) (a : -1000 ≤ i) (b : i ≤ 1000) : Ev (tOp (rI CMul fun i j => .int (i * j)) ta tb) σ H (.int (i * j)) := ev_op h1 h2 (rv_I (C := CMul) (g := fun i j => .int (i * j)) (.inl ⟨by omega, by omega⟩))
abbrev N_is_half_enough : List Str := ["table", "hand", "many", "left", "some"]
theorem sc_is_half_enough : FnScope N_is_half_enough ["table", "hand", "many", "left", "some"] (defScope s_is_half_enough) := ⟨rfl, rfl, rfl, by decide +kernel, rfl, by decide +kernel, by decide +kernel⟩
theorem ok_is_half_enough {P : Program} {w : World} {K : PySem.W.Frag} {mg : Str → Option Value} {base : Heap} (TT : Top K mg) (O_worth_of : Ok P w K mg base 3 "worth_of" ["table", "hand", "things"] [] (sp_worth_of K)) : Ok P w K mg base 4 "is_half_enough" ["table", "hand", "many", "left", "some"] [] (sp_is_half_enough K) := by
  refine TT.ok (d := d_is_half_enough) 18 18 rfl rfl rfl rfl rfl sc_is_half_enough (fun _ _ _ _ _ _ us hl => match us, hl with | [_, _, _, _, _], _ => rfl) (fun vs H Q E h => ?_) (fun cdv A outer s H vs Q E hr h => ?_)
  · obtain ⟨a, l, s, T, h, n, L, B, i, k, rfl, _⟩ := h; rfl
  · obtain ⟨a, l, s, T, h, n, L, B, i, m, rfl, g, hl, hs, lL, lB, hi, m4, k⟩ := h
    refine ⟨_, (pss_one (ps_ret (pe_cmpR op_ge (pe_op op_mul (pe_op op_mul pe_int (pv 2)) (pe_cl O_worth_of (hr.mono (by decide)) rfl (pa_cons (pv 0) (pa_cons (pv 1) (pa_cons (pv 4) pa_nil))))) (pe_cl O_worth_of (hr.mono (by decide)) rfl (pa_cons (pv 0) (pa_cons (pv 1) (pa_cons (pv 3) pa_nil)))) (nomark _)))), ?_⟩
    exact s_ret (ev_op (ev_mulS (ev_mulS ev_c (ev_var rfl) (by omega) (by omega)) (c_worth g hi hs lB (ev_var rfl) (ev_var rfl) (ev_var rfl)) (by omega) (by omega)) (c_worth g hi hl lL (ev_var rfl) (ev_var rfl) (ev_var rfl)) rv_I0) k
section
variable {K : PySem.W.Frag} {H : Hp} {a l s hl : Addr} {T : List (List Int)} {h n : Nat} {L B hs : List Nat} {i k : Nat} {σ : L2.St} {ta tb tc td te : TE} {E : XK}
theorem c_halfN (g : GT K H a T h n) (hl : SqL K H l (natsV L)) (lL : ∀ t, t ∈ L → t < n) (lB : ∀ t, t ∈ B → t < n) (hi : i < h) (k4 : k ≤ 4) (e1 : Ev ta σ H (.ref a)) (e2 : Ev tb σ H (.int (i : Int))) (e3 : Ev tc σ H (.int (k : Int))) (e4 : Ev td σ H (.ref l)) (e5 : EvL te σ H (natsV B)) :
    Ev (tCall (sp_is_half_enough K) [] E (tCons ta (tCons tb (tCons tc (tCons td (tCons te tNil)))))) σ H (.bl (halfB T i k L B)) := fun H1 x Q q =>
  e1 H1 x _ fun H2 x2 => e2 H2 (x.trans x2) _ fun H3 x3 => e3 H3 ((x.trans x2).trans x3) _ fun H4 x4 => e4 H4 (((x.trans x2).trans x3).trans x4) _ fun H5 x5 => e5 H5 ((((x.trans x2).trans x3).trans x4).trans x5) _ fun p H6 _ x6 hp => by
    have z := ((((x.trans x2).trans x3).trans x4).trans x5).trans x6
    exact ⟨a, l, p, T, h, n, L, B, i, k, rfl, g.mono z, ex_l z hl, sq_of hp, lL, lB, hi, k4, fun H7 x7 => q H7 (((((x2.trans x3).trans x4).trans x5).trans x6).trans x7)⟩
end
/-- None when nobody finds a thing half enough, or who finds which one so -/
def OneV (T : List (List Int)) (hs L : List Nat) (v : V) (H : Hp) : Prop :=
  (v = .non ∧ ∀ i, i ∈ hs → NoBig (wt T) i hs.length L) ∨ ∃ t, ∃ i g : Nat, v = .ref t ∧ H t = some (.tup [.str "one", .int (i : Int), .int (g : Int)]) ∧ i ∈ hs ∧ g ∈ L ∧ lsum (wt T i) L ≤ 2 * (hs.length : Int) * wt T i g
def sp_one_for (K : PySem.W.Frag) : Sp := fun vs H Q _ => ∃ a b l T h n hs L, vs = [.ref a, .ref b, .ref l] ∧ GT K H a T h n ∧ SqL K H b (natsV hs) ∧ SqL K H l (natsV L) ∧ (∀ i, i ∈ hs → i < h) ∧ hs.length ≤ 4 ∧ (∀ t, t ∈ L → t < n) ∧ RetP (OneV T hs L) H Q
theorem mem_take_succ {ts : List Nat} {m t x : Nat} (e : ts[m]? = some t) (mx : x ∈ ts.take (m + 1)) : x ∈ ts.take m ∨ x = t := by
  rw [List.take_add_one, e] at mx
  rcases List.mem_append.mp mx with z | z
  · exact .inl z
  · exact .inr (by simpa using z)
abbrev N_one_for : List Str := ["table", "hands", "left", "hand", "whole", "thing"]
theorem sc_one_for : FnScope N_one_for ["table", "hands", "left"] (defScope s_one_for) := ⟨rfl, rfl, rfl, by decide +kernel, rfl, by decide +kernel, by decide +kernel⟩
theorem ok_one_for {P : Program} {w : World} {K : PySem.W.Frag} {mg : Str → Option Value} {base : Heap} (TT : Top K mg) (O_worth_of : Ok P w K mg base 3 "worth_of" ["table", "hand", "things"] [] (sp_worth_of K)) : Ok P w K mg base 4 "one_for" ["table", "hands", "left"] [] (sp_one_for K) := by
  refine TT.ok (d := d_one_for) 19 19 rfl rfl rfl rfl rfl sc_one_for (fun _ _ _ _ _ _ us hl => match us, hl with | [_, _, _], _ => rfl) (fun vs H Q E h => ?_) (fun cdv A outer s H vs Q E hr h => ?_)
  · obtain ⟨a, b, l, T, h, n, hs, L, rfl, _⟩ := h; rfl
  · obtain ⟨a, b, l, T, h, n, hs, L, rfl, g, hb, hl, lh, h4, lL, k⟩ := h
    refine ⟨_, (pss_cons (ps_for PassesOwn.never rfl (wList K (pv 1)) (pg_name (i := 3) sc_one_for.nd rfl (Or.inl rfl) (Or.inr rfl)) (pss_cons (ps_set (i := 4) sc_one_for.nd rfl (Or.inl rfl) (pe_cl O_worth_of (hr.mono (by decide)) rfl (pa_cons (pv 0) (pa_cons (pv 3) (pa_cons (pv 2) pa_nil)))))
  (pss_one (ps_for PassesOwn.never rfl (wList K (pv 2)) (pg_name (i := 5) sc_one_for.nd rfl (Or.inl rfl) (Or.inr rfl)) (pss_one (ps_if (pt_cmpR op_ge (pe_op op_mul (pe_op op_mul pe_int (cLen K (TT.free 70) (pa_cons (pv 1) pa_nil))) (pe_ix (ixL K) (pe_ix (ixL K) (pv 0) (pv 3) (fun _ _ => rfl)) (pv 5) (fun _ _ => rfl))) (pv 4) (nomark _)) (pss_one (ps_ret (pe_tup (pa_cons pe_str (pa_cons (pv 3) (pa_cons (pv 5) pa_nil)))))) pss_nil))))))
  (pss_one (ps_ret pe_non))), ?_⟩
    refine q_forLn (xs := natsV hs) (ev_var rfl) hb (fun m σ' H' => ∃ v3 v4 v5, σ' = [some (.ref a), some (.ref b), some (.ref l), v3, v4, v5] ∧ Ex H H' ∧ ∀ i, i ∈ hs.take m → NoBig (wt T) i hs.length L)
      (fun H1 e1 => ⟨none, none, none, rfl, e1, fun i m => by simp at m⟩) (fun m σ' H' _ ⟨_, _, _, _, e, _⟩ => ex_l e hb) (fun m x σ' H' hx pr => ?_) (fun σ' H' pr => ?_)
    · obtain ⟨v3, v4, v5, rfl, ex, no⟩ := pr
      obtain ⟨i, hi, rfl⟩ := natsV_at hx
      have mi := List.mem_of_getElem? hi
      refine q_asg (c_worth (g.mono ex) (lh i mi) (ex_l ex hl) lL (ev_var rfl) (ev_var rfl) (ev_var rfl)) fun H2 e2 => ?_
      refine s_forLn (xs := natsV L) (ev_var rfl) (ex_l (ex.trans e2) hl) (fun m2 σ' H' => ∃ v5, σ' = [some (.ref a), some (.ref b), some (.ref l), some (.int (i : Int)), some (.int (worth T i L)), v5] ∧ Ex H H' ∧ ∀ t, t ∈ L.take m2 → 2 * (hs.length : Int) * wt T i t < lsum (wt T i) L)
        (fun H3 e3 => ⟨v5, rfl, (ex.trans e2).trans e3, fun t m => by simp at m⟩) (fun m σ' H' _ ⟨_, _, e, _⟩ => ex_l e hl) (fun m2 x σ' H' hx pr => ?_) (fun σ' H' pr => ?_)
      · obtain ⟨v5, rfl, ex2, no2⟩ := pr
        obtain ⟨t, ht, rfl⟩ := natsV_at hx
        have mt := List.mem_of_getElem? ht
        have l1 := ev_len (σ := [some (.ref a), some (.ref b), some (.ref l), some (.int (i : Int)), some (.int (worth T i L)), some (V.int (t : Int))]) (ta := tVar 1) (ev_var rfl) (ex_l ex2 hb)
        rw [natsV_len] at l1
        refine s_when (et_test (ev_op (ev_mulS (ev_mulS ev_c l1 (by omega) (by omega)) (ev_cell (g.mono ex2) (lh i mi) (lL t mt) (ev_var rfl) (ev_var rfl) (ev_var rfl)) (by omega) (by omega)) (ev_var rfl) rv_I0)) (fun z H3 e3 => ?_) (fun z H3 e3 => ?_)
        · have z := of_decide_eq_true z
          exact s_retU (eu_tup (ea_cons ev_c (ea_cons (ev_var rfl) (ea_cons (ev_var rfl) ea_nil))) (by show 3 ≤ 100000; decide)) fun p H4 _ e4 hp => k _ H4 ((ex2.trans e3).trans e4) (.inr ⟨p, i, t, rfl, hp, mi, mt, z⟩)
        · have z := of_decide_eq_false z
          refine ⟨_, rfl, ex2.trans e3, fun s ms => ?_⟩
          rcases mem_take_succ ht ms with q | q
          · exact no2 s q
          · rw [q]
            have y : ¬ lsum (wt T i) L ≤ 2 * (hs.length : Int) * wt T i t := z
            omega
      · obtain ⟨v5, rfl, ex2, no2⟩ := pr
        rw [natsV_len, List.take_length] at no2
        refine ⟨_, _, _, rfl, ex2, fun j mj => ?_⟩
        rcases mem_take_succ hi mj with q | q
        · exact no j q
        · rw [q]; exact no2
    · obtain ⟨v3, v4, v5, rfl, ex, no⟩ := pr
      rw [natsV_len, List.take_length] at no
      exact s_ret ev_c fun H2 e2 => k _ H2 (ex.trans e2) (.inl ⟨rfl, no⟩)
/-- a bag, and who gets it -/
def BagV (T : List (List Int)) (hs L : List Nat) (v : V) (H : Hp) : Prop := ∃ t p, ∃ i : Nat, ∃ B, v = .ref t ∧ H t = some (.tup [.str "bag", .int (i : Int), .ref p]) ∧ H p = some (.lst (natsV B)) ∧ i ∈ hs ∧
  ((∃ b, b < L.length ∧ B = L.take b ∧ (∀ a, a < b → ∀ i, i ∈ hs → 2 * (hs.length : Int) * lsum (wt T i) (L.take a) < lsum (wt T i) L) ∧ lsum (wt T i) L ≤ 2 * (hs.length : Int) * lsum (wt T i) (L.take b)) ∨
    (B = L ∧ ∀ a, a < L.length → ∀ i, i ∈ hs → 2 * (hs.length : Int) * lsum (wt T i) (L.take a) < lsum (wt T i) L))
theorem bagV_mono {T : List (List Int)} {hs L : List Nat} : Mono (BagV T hs L) := fun v H H' e ⟨t, p, i, B, h1, h2, h3, h4⟩ => ⟨t, p, i, B, h1, e t _ h2, e p _ h3, h4⟩
def sp_bag_for (K : PySem.W.Frag) : Sp := fun vs H Q _ => ∃ a b l T h n hs L, vs = [.ref a, .ref b, .ref l] ∧ GT K H a T h n ∧ SqL K H b (natsV hs) ∧ SqL K H l (natsV L) ∧ (∀ i, i ∈ hs → i < h) ∧ hs ≠ [] ∧ hs.length ≤ 4 ∧ (∀ t, t ∈ L → t < n) ∧ L.length ≤ 40 ∧ RetN (BagV T hs L) H Q
theorem natsV_take (ts : List Nat) (m : Nat) : (natsV ts).take m = natsV (ts.take m) := by
  unfold natsV
  rw [List.map_take]
abbrev N_bag_for : List Str := ["table", "hands", "left", "many", "hand"]
theorem sc_bag_for : FnScope N_bag_for ["table", "hands", "left"] (defScope s_bag_for) := ⟨rfl, rfl, rfl, by decide +kernel, rfl, by decide +kernel, by decide +kernel⟩
theorem ok_bag_for {P : Program} {w : World} {K : PySem.W.Frag} {mg : Str → Option Value} {base : Heap} (TT : Top K mg) (O_is_half_enough : Ok P w K mg base 4 "is_half_enough" ["table", "hand", "many", "left", "some"] [] (sp_is_half_enough K)) : Ok P w K mg base 5 "bag_for" ["table", "hands", "left"] [] (sp_bag_for K) := by
  refine TT.ok (d := d_bag_for) 20 20 rfl rfl rfl rfl rfl sc_bag_for (fun _ _ _ _ _ _ us hl => match us, hl with | [_, _, _], _ => rfl) (fun vs H Q E h => ?_) (fun cdv A outer s H vs Q E hr h => ?_)
  · obtain ⟨a, b, l, T, h, n, hs, L, rfl, _⟩ := h; rfl
  · obtain ⟨a, b, l, T, h, n, hs, L, rfl, g, hb, hl, lh, ne, h4, lL, l40, k⟩ := h
    refine ⟨_, (pss_cons (ps_for PassesOwn.never rfl (pi_range1 rfl (TT.free 71) (pa_cons (cLen K (TT.free 70) (pa_cons (pv 2) pa_nil)) pa_nil)) (pg_name (i := 3) sc_bag_for.nd rfl (Or.inl rfl) (Or.inr rfl)) (pss_one (ps_for PassesOwn.never rfl (wList K (pv 1)) (pg_name (i := 4) sc_bag_for.nd rfl (Or.inl rfl) (Or.inr rfl)) (pss_one (ps_if (pt_val (pe_cl O_is_half_enough (hr.mono (by decide)) rfl (pa_cons (pv 0) (pa_cons (pv 4) (pa_cons (cLen K (TT.free 70) (pa_cons (pv 1) pa_nil)) (pa_cons (pv 2) (pa_cons (pe_slice (slL K) (pv 2) po_none (po_some (pv 3))) pa_nil))))))) (pss_one (ps_ret (pe_tup (pa_cons pe_str (pa_cons (pv 4) (pa_cons (pe_slice (slL K) (pv 2) po_none (po_some (pv 3))) pa_nil)))))) pss_nil)))))
  (pss_one (ps_ret (pe_tup (pa_cons pe_str (pa_cons (pe_ix (ixL K) (pv 1) pe_int (fun _ _ => rfl)) (pa_cons (cListOf K (TT.free 76) (pa_cons (pv 2) pa_nil)) pa_nil))))))), ?_⟩
    have l0 := ev_len (σ := [some (.ref a), some (.ref b), some (.ref l), none, none]) (ta := tVar 2) (ev_var rfl) hl
    rw [natsV_len] at l0
    refine q_forR1 (n := (L.length : Int)) (ea_cons l0 ea_nil) (by omega) (fun m σ' H' => ∃ v3 v4, σ' = [some (.ref a), some (.ref b), some (.ref l), v3, v4] ∧ Ex H H' ∧ ∀ c, c < m → ∀ i, i ∈ hs → 2 * (hs.length : Int) * lsum (wt T i) (L.take c) < lsum (wt T i) L)
      (fun H1 e1 => ⟨none, none, rfl, e1, fun c hc => absurd hc (Nat.not_lt_zero c)⟩) (fun m σ' H' hm pr => ?_) (fun σ' H' pr => ?_)
    · obtain ⟨v3, v4, rfl, ex, no⟩ := pr
      have hm' : m < L.length := by omega
      refine s_forLn (xs := natsV hs) (ev_var rfl) (ex_l ex hb) (fun m2 σ' H' => ∃ v4, σ' = [some (.ref a), some (.ref b), some (.ref l), some (.int (m : Int)), v4] ∧ Ex H H' ∧ ∀ i, i ∈ hs.take m2 → 2 * (hs.length : Int) * lsum (wt T i) (L.take m) < lsum (wt T i) L)
        (fun H3 e3 => ⟨v4, rfl, ex.trans e3, fun t m => by simp at m⟩) (fun m σ' H' _ ⟨_, _, e, _⟩ => ex_l e hb) (fun m2 x σ' H' hx pr => ?_) (fun σ' H' pr => ?_)
      · obtain ⟨v4, rfl, ex2, no2⟩ := pr
        obtain ⟨i, hi, rfl⟩ := natsV_at hx
        have mi := List.mem_of_getElem? hi
        have l1 := ev_len (σ := [some (.ref a), some (.ref b), some (.ref l), some (.int (m : Int)), some (V.int (i : Int))]) (ta := tVar 1) (ev_var rfl) (ex_l ex2 hb)
        rw [natsV_len] at l1
        have tk : ∀ H3, Ex H' H3 → EvL (tSl (rSlL K) (tVar 2) tNoPart (tPart (tVar 3))) [some (.ref a), some (.ref b), some (.ref l), some (.int (m : Int)), some (V.int (i : Int))] H3 (natsV (L.take m)) := fun H3 e3 => by
          have z := el_take (K := K) (i := m) (ta := tVar 2) (tb := tVar 3) (σ := [some (.ref a), some (.ref b), some (.ref l), some (.int (m : Int)), some (V.int (i : Int))]) (ev_var rfl) (ex_l (ex2.trans e3) hl) (ev_var rfl)
          rw [natsV_take] at z
          exact z
        refine s_when (et_B (c_halfN (g.mono ex2) (ex_l ex2 hl) lL (fun t mt => lL t (List.mem_of_mem_take mt)) (lh i mi) h4 (ev_var rfl) (ev_var rfl) l1 (ev_var rfl) (tk _ (Ex.refl _)))) (fun z H3 e3 => ?_) (fun z H3 e3 => ?_)
        · have z := of_decide_eq_true z
          exact s_retN bagV_mono (ex2.trans e3) ((en_tup3L ev_c (ev_var rfl) (tk H3 e3)).imp fun v N ⟨t, p, h1, h2, h3⟩ => ⟨t, p, i, _, h1, h2, h3, mi, .inl ⟨m, hm', rfl, no, z⟩⟩) k rfl
        · have z := of_decide_eq_false z
          refine ⟨_, rfl, ex2.trans e3, fun s ms => ?_⟩
          rcases mem_take_succ hi ms with q | q
          · exact no2 s q
          · rw [q]
            omega
      · obtain ⟨v4, rfl, ex2, no2⟩ := pr
        rw [natsV_len, List.take_length] at no2
        refine ⟨_, _, rfl, ex2, fun c hc => ?_⟩
        by_cases q : c < m
        · exact no c q
        · rw [show c = m by omega]; exact no2
    · obtain ⟨v3, v4, rfl, ex, no⟩ := pr
      rw [Int.toNat_natCast] at no
      have p0 : 0 < hs.length := List.length_pos_iff.mpr ne
      exact s_retN bagV_mono ex ((en_tup3L ev_c (ev_op (ev_var rfl) ev_c (rv_ixL (ex_l ex hb) (atI_nat (j := 0) (natsV_get (getD_at (d := 0) p0))))) (el_list (ev_var rfl) (ex_l ex hl))).imp fun v N ⟨t, p, h1, h2, h3⟩ => ⟨t, p, hs.getD 0 0, L, h1, h2, h3, getD_mem p0, .inr ⟨rfl, no⟩⟩) k rfl
end Lk

namespace Lk
open PySem PySem.Spec PyProof.Rows L2 Evl LE
/-! ### by halves -/
section
variable {K : PySem.W.Frag} {H : Hp} {a b l : Addr} {T : List (List Int)} {h n : Nat} {hs L : List Nat} {σ : L2.St} {ta tb tc td : TE} {E : XK}
theorem c_one (g : GT K H a T h n) (hb : SqL K H b (natsV hs)) (hl : SqL K H l (natsV L)) (lh : ∀ i, i ∈ hs → i < h) (h4 : hs.length ≤ 4) (lL : ∀ t, t ∈ L → t < n) (e1 : Ev ta σ H (.ref a)) (e2 : Ev tb σ H (.ref b)) (e3 : Ev tc σ H (.ref l)) :
    EvP (tCall (sp_one_for K) [] E (tCons ta (tCons tb (tCons tc tNil)))) σ H (OneV T hs L) :=
  ep_callP (ea_cons e1 (ea_cons e2 (ea_cons e3 ea_nil))) fun H1 e Q k => ⟨a, b, l, T, h, n, hs, L, rfl, g.mono e, ex_l e hb, ex_l e hl, lh, h4, lL, k⟩
theorem c_bag (g : GT K H a T h n) (hb : SqL K H b (natsV hs)) (hl : SqL K H l (natsV L)) (lh : ∀ i, i ∈ hs → i < h) (ne : hs ≠ []) (h4 : hs.length ≤ 4) (lL : ∀ t, t ∈ L → t < n) (l40 : L.length ≤ 40) (e1 : Ev ta σ H (.ref a)) (e2 : Ev tb σ H (.ref b)) (e3 : Ev tc σ H (.ref l)) :
    EvN (tCall (sp_bag_for K) [] E (tCons ta (tCons tb (tCons tc tNil)))) σ H (BagV T hs L) :=
  en_callN bagV_mono (ea_cons e1 (ea_cons e2 (ea_cons e3 ea_nil))) fun H1 e Q k => ⟨a, b, l, T, h, n, hs, L, rfl, g.mono e, ex_l e hb, ex_l e hl, lh, ne, h4, lL, l40, k⟩
end
def HalfD (T : List (List Int)) (h : Nat) (ds : List Nat) : Prop := Half (wt T) ds.length h (Dn ds)
/-- that j takes B is a step -/
def StepB (T : List (List Int)) (h n : Nat) (hs L : List Nat) (D : Nat → Option Nat) (j : Nat) (B : List Nat) : Prop :=
  j ∈ hs ∧ (∀ t, t ∈ B → t ∈ L) ∧ B.Nodup ∧ HSt (wt T) n h (hs.erase j) (L.filter fun t => !B.contains t) (giveAll D j B)
theorem step_bag {T : List (List Int)} {h n : Nat} {hs L B : List Nat} {D : Nat → Option Nat} {j : Nat} (o : TabOk T h n) (S : HSt (wt T) n h hs L D) (k2 : 2 ≤ hs.length) (no : ∀ i, i ∈ hs → NoBig (wt T) i hs.length L) (m : j ∈ hs)
    (c : (∃ b, b < L.length ∧ B = L.take b ∧ (∀ a, a < b → ∀ i, i ∈ hs → 2 * (hs.length : Int) * lsum (wt T i) (L.take a) < lsum (wt T i) L) ∧ lsum (wt T j) L ≤ 2 * (hs.length : Int) * lsum (wt T j) (L.take b)) ∨
      (B = L ∧ ∀ a, a < L.length → ∀ i, i ∈ hs → 2 * (hs.length : Int) * lsum (wt T i) (L.take a) < lsum (wt T i) L)) : StepB T h n hs L D j B := by
  rcases c with ⟨b, hb, rfl, sm, big⟩ | ⟨rfl, sm⟩
  · exact ⟨m, fun t mt => List.mem_of_mem_take mt, S.ndL.sublist (List.take_sublist _ _), hst_bag (wt_pos o) o.h4 S k2 m no hb sm big⟩
  · have e := bag_all (wt_pos o) k2 (no j m) fun a ha => sm a ha j m
    subst e
    exact ⟨m, fun t mt => mt, by simp, hst_empty o.h4 S m⟩
theorem give_take {os : List (Option Nat)} {D : Nat → Option Nat} {B : List Nat} {j m t : Nat} (e : Dl os = giveAll D j (B.take m)) (ht : B[m]? = some t) (lt : t < os.length) : Dl (os.set t (some j)) = giveAll D j (B.take (m + 1)) := by
  rw [dl_set lt, e]
  funext s
  unfold put giveAll
  have q : s ∈ B.take (m + 1) ↔ s ∈ B.take m ∨ s = t := by
    rw [List.take_add_one, ht, List.mem_append]
    show _ ∨ s ∈ [t] ↔ _
    rw [List.mem_singleton]
  by_cases e1 : s = t
  · rw [if_pos e1, if_pos (q.mpr (.inr e1))]
  · rw [if_neg e1]
    by_cases e2 : s ∈ B.take m
    · rw [if_pos e2, if_pos (q.mpr (.inl e2))]
    · rw [if_neg e2, if_neg fun z => (q.mp z).elim e2 e1]
theorem h_end {T : List (List Int)} {h n : Nat} {L : List Nat} {os : List (Option Nat)} (hl : os.length = n) (S : HSt (wt T) n h [] L (Dl os)) : ∃ ds : List Nat, os = ds.map some ∧ ds.length = n ∧ (∀ k, k ∈ ds → k < h) ∧ HalfD T h ds := by
  obtain ⟨hf, W⟩ := hst_end S
  obtain ⟨ds, e, l⟩ := whole_list (os := os) (h := h) fun t ht => W t (by omega)
  have hl2 : ds.length = n := by rw [← hl, e, List.length_map]
  refine ⟨ds, e, hl2, l, ?_⟩
  have ef : Dl os = Dn ds := by
    funext t
    rw [e, dl_some]
  unfold HalfD
  rw [hl2, ← ef]
  exact hf
def sp_by_halves (K : PySem.W.Frag) : Sp := fun vs H Q _ => ∃ a T h n, vs = [.ref a] ∧ GT K H a T h n ∧ RetP (DealT h n (HalfD T h)) H Q
abbrev N_by_halves : List Str := ["table", "deal", "hands", "left", "rows", "row", "things", "thing"]
theorem sc_by_halves : FnScope N_by_halves ["table"] (defScope s_by_halves) := ⟨rfl, rfl, rfl, by decide +kernel, rfl, by decide +kernel, by decide +kernel⟩
theorem ok_by_halves {P : Program} {w : World} {K : PySem.W.Frag} {mg : Str → Option Value} {base : Heap} (TT : Top K mg) (O_nothing_dealt : Ok P w K mg base 2 "nothing_dealt" ["table"] [] (sp_nothing_dealt K)) (O_hands_of : Ok P w K mg base 1 "hands_of" ["table"] [] (sp_hands_of K)) (O_things_of : Ok P w K mg base 1 "things_of" ["table"] [] (sp_things_of K)) (O_one_for : Ok P w K mg base 4 "one_for" ["table", "hands", "left"] [] (sp_one_for K)) (O_bag_for : Ok P w K mg base 5 "bag_for" ["table", "hands", "left"] [] (sp_bag_for K)) : Ok P w K mg base 6 "by_halves" ["table"] [] (sp_by_halves K) := by
  refine TT.ok (d := d_by_halves) 21 21 rfl rfl rfl rfl rfl sc_by_halves (fun _ _ _ _ _ _ us hl => match us, hl with | [_], _ => rfl) (fun vs H Q E h => ?_) (fun cdv A outer s H vs Q E hr h => ?_)
  · obtain ⟨a, T, h, n, rfl, _⟩ := h; rfl
  · obtain ⟨a, T, h, n, rfl, g, k⟩ := h
    refine ⟨_, (pss_cons (ps_set (i := 1) sc_by_halves.nd rfl (Or.inl rfl) (pe_cl O_nothing_dealt (hr.mono (by decide)) rfl (pa_cons (pv 0) pa_nil)))
  (pss_cons (ps_set (i := 2) sc_by_halves.nd rfl (Or.inl rfl) (pe_listRg rfl rfl (TT.free 76) (prg_1 rfl (TT.free 71) (pe_cl O_hands_of (hr.mono (by decide)) rfl (pa_cons (pv 0) pa_nil)))))
  (pss_cons (ps_set (i := 3) sc_by_halves.nd rfl (Or.inl rfl) (pe_listRg rfl rfl (TT.free 76) (prg_1 rfl (TT.free 71) (pe_cl O_things_of (hr.mono (by decide)) rfl (pa_cons (pv 0) pa_nil)))))
  (pss_cons (ps_set (i := 4) sc_by_halves.nd rfl (Or.inl rfl) (pe_lst pa_nil))
  (pss_cons (ps_while PassesOwn.never (pt_cmpR op_gt (cLen K (TT.free 70) (pa_cons (pv 2) pa_nil)) pe_int (nomark _)) (pss_cons (ps_set (i := 5) sc_by_halves.nd rfl (Or.inl rfl) (pe_tup (pa_cons pe_str (pa_cons (pe_ix (ixL K) (pv 2) pe_int (fun _ _ => rfl)) (pa_cons (cListOf K (TT.free 76) (pa_cons (pv 3) pa_nil)) pa_nil)))))
  (Evl.pss_cut (ps_if (pt_cmpR op_gt (cLen K (TT.free 70) (pa_cons (pv 2) pa_nil)) pe_int (nomark _)) (pss_cons (ps_set (i := 5) sc_by_halves.nd rfl (Or.inl rfl) (pe_cl O_one_for (hr.mono (by decide)) rfl (pa_cons (pv 0) (pa_cons (pv 2) (pa_cons (pv 3) pa_nil)))))
  (pss_one (ps_if (pt_cmpR op_isN (pv 5) pe_non (nomark _)) (pss_one (ps_set (i := 5) sc_by_halves.nd rfl (Or.inl rfl) (pe_cl O_bag_for (hr.mono (by decide)) rfl (pa_cons (pv 0) (pa_cons (pv 2) (pa_cons (pv 3) pa_nil)))))) pss_nil))) pss_nil)
  (pss_cons (ps_expr (eBM K PySem.F.plainAttrs_list PySem.F.slot_list_append PySem.F.type_list_append mt_append (pv 4) (pa_cons (pv 5) pa_nil)))
  (pss_cons (ps_set (i := 6) sc_by_halves.nd rfl (Or.inr rfl) (pe_ix (ixT K) (pv 5) pe_int (fun _ _ => rfl)))
  (Evl.pss_cut (ps_if (pt_cmpR op_eq (pe_ix (ixT K) (pv 5) pe_int (fun _ _ => rfl)) pe_str (nomark _)) (pss_one (ps_set (i := 6) sc_by_halves.nd rfl (Or.inr rfl) (pe_lst (pa_cons (pe_ix (ixT K) (pv 5) pe_int (fun _ _ => rfl)) pa_nil)))) pss_nil)
  (pss_cons (ps_for PassesOwn.never rfl (wList K (pv 6)) (pg_name (i := 7) sc_by_halves.nd rfl (Or.inl rfl) (Or.inr rfl)) (pss_one (ps_asg (pe_ix (ixT K) (pv 5) pe_int (fun _ _ => rfl)) (pg_sub (pv 1) (pv 7) set_list))))
  (pss_cons (ps_expr (eBM K PySem.F.plainAttrs_list PySem.F.slot_list_remove PySem.F.type_list_remove mt_remove (pv 2) (pa_cons (pe_ix (ixT K) (pv 5) pe_int (fun _ _ => rfl)) pa_nil)))
  (pss_one (ps_setLc (i := 3) (own := [("thing", 7)]) rfl sc_by_halves.nd rfl rfl (sw_true rfl rfl rfl (by decide +kernel)) (wList K (pv 3)) (blkOk_by (N := N_by_halves) (sc := defScope s_by_halves) (by decide +kernel)) (fun _ _ _ _ _ => (pg_name (i := 7) sc_by_halves.nd rfl (Or.inl rfl) (Or.inr rfl))) (fun _ _ _ _ _ => pts_one (pt_cmpR (niS K) (pv 7) (pv 6) rfl)) (fun _ _ _ _ _ => (pv 7))))))))))))
  (pss_one (ps_ret (pe_tup (pa_cons (pv 1) (pa_cons (pv 4) pa_nil)))))))))), ?_⟩
    have h4 := g.2.h4
    have n12 := g.2.n12
    refine q_asgL (c_nothing g (ev_var rfl)) fun ad H1 nad e1 had => ?_
    refine q_asgL (el_range (c_hands (g.mono e1) (ev_var rfl)) (by omega)) fun ah H2 nah e2 hah => ?_
    refine q_asgL (el_range (c_things (g.mono (e1.trans e2)) (ev_var rfl)) (by omega)) fun al H3 nal e3 hal => ?_
    refine q_asgL (el_lst ea_nil (by decide)) fun ar H4 nar e4 har => ?_
    have e04 : Ex H H4 := ((e1.trans e2).trans e3).trans e4
    have nad0 : H ad = none := nad
    have nah0 : H ah = none := fresh_back e1 nah
    have nar0 : H ar = none := fresh_back ((e1.trans e2).trans e3) nar
    have d1 : ad ≠ ah := ne_of_none had nah
    have d2 : ad ≠ ar := ne_of_none (e3 ad _ (e2 ad _ had)) nar
    have d3 : ah ≠ ar := ne_of_none (e3 ah _ hah) nar
    have c1 : al ≠ ad := (ne_of_none (e2 ad _ had) nal).symm
    have c2 : al ≠ ah := (ne_of_none hah nal).symm
    have c3 : al ≠ ar := ne_of_none hal nar
    refine q_while (fun m σ' H' => ∃ (os : List (Option Nat)) (hs L : List Nat) (rs : List V) (al : Addr) (v5 v6 v7 : Option V), σ' = [some (.ref a), some (.ref ad), some (.ref ah), some (.ref al), some (.ref ar), v5, v6, v7] ∧ Ex H H' ∧
      H' ad = some (.lst (optsV os)) ∧ H' ah = some (.lst (natsV hs)) ∧ H' al = some (.lst (natsV L)) ∧ H' ar = some (.lst rs) ∧ al ≠ ad ∧ al ≠ ah ∧ al ≠ ar ∧ os.length = n ∧ HSt (wt T) n h hs L (Dl os) ∧ m = hs.length ∧ rs.length + hs.length = h) h
      ⟨List.replicate n none, List.range h, List.range n, [], al, none, none, none, rfl, e04, by rw [e4 ad _ (e3 ad _ (e2 ad _ had))]; unfold optsV; rw [List.map_replicate]; rfl, e4 ah _ (e3 ah _ hah), e4 al _ hal, har, c1, c2, c3, by simp, ?_, by simp, by simp⟩ ?_
    · have z : Dl (List.replicate n none) = fun _ => none := by
        funext t
        unfold Dl
        rw [List.getD_eq_getElem?_getD, List.getElem?_replicate]
        split <;> rfl
      rw [z]
      exact hst_start g.2.h1
    clear c1 c2 c3 hal nal
    rintro m σ' H5 ⟨os, hs, L, rs, al, v5, v6, v7, rfl, ex5, had5, hah5, hal5, har5, c1, c2, c3, ol, S, rfl, rl⟩
    have hsl := hst_len S
    have lL : ∀ t, t ∈ L → t < n := fun t mt => ((S.left t).mp mt).1
    have Ll : L.length ≤ 40 := by
      have := nodup_sub_len (m := List.range n) S.ndL fun x m => List.mem_range.mpr (lL x m)
      rw [List.length_range] at this
      omega
    refine ⟨decide ((0 : Int) < (hs.length : Int)), ?_, fun hb H6 e6 => ?_, fun hb H6 e6 => ?_⟩
    · refine et_is (et_test (ev_op (ev_lenA (ev_var rfl) hah5) ev_c rv_I0)) ?_
      rw [natsV_len]
    · have hp : 0 < hs.length := by have := of_decide_eq_true hb; omega
      have ne : hs ≠ [] := List.length_pos_iff.mp hp
      refine ⟨_, fun σ2 H2' N => N, ?_⟩
      have ex6 := ex5.trans e6
      have hah6 := e6 ah _ hah5
      have hal6 := e6 al _ hal5
      -- row = ('all', hands[0], list(left))
      refine q_asgN (en_tup3L ev_c (ev_op (ev_var rfl) ev_c (rv_ixL (sq_of hah6) (atI_nat (j := 0) (natsV_get (getD_at (d := 0) hp))))) (el_list (ev_var rfl) (sq_of hal6))) fun vt H7 e7 ⟨t0, p0, et0, ht0, hp0⟩ => ?_
      subst et0
      have ex7 := ex6.trans e7
      have hah7 := e7 ah _ hah6
      have hal7 := e7 al _ hal6
      have m0 : hs.getD 0 0 ∈ hs := getD_mem hp
      refine q_cut (M := fun σ2 H2 => ∃ (t : Addr) (j : Nat) (s : Str) (x : V), σ2 = [some (.ref a), some (.ref ad), some (.ref ah), some (.ref al), some (.ref ar), some (.ref t), v6, v7] ∧ Ex H6 H2 ∧ H2 t = some (.tup [.str s, .int (j : Int), x]) ∧
        ((s = "one" ∧ ∃ g : Nat, x = .int (g : Int) ∧ StepB T h n hs L (Dl os) j [g]) ∨ (s ≠ "one" ∧ ∃ p B, x = .ref p ∧ H6 p = none ∧ H2 p = some (.lst (natsV B)) ∧ StepB T h n hs L (Dl os) j B))) ?_ fun σ2 H8 pr => ?_
      · refine s_when (b := decide ((1 : Int) < (hs.length : Int))) ?_ (fun hb H8 e8 => ?_) (fun hb H8 e8 => ?_)
        · refine et_is (et_test (ev_op (ev_lenA (ev_var rfl) hah7) ev_c rv_I0)) ?_
          rw [natsV_len]
        · have k2 : 2 ≤ hs.length := by have := of_decide_eq_true hb; omega
          refine q_asgP (c_one (g.mono (ex7.trans e8)) (sq_of (e8 ah _ hah7)) (sq_of (e8 al _ hal7)) S.lt (by omega) lL (ev_var rfl) (ev_var rfl) (ev_var rfl)) fun v H9 e9 r => ?_
          rcases r with ⟨rfl, no⟩ | ⟨t, i, x, rfl, ht, mi, mx, big⟩
          · refine s_when (b := true) (et_test (ev_op (ev_var rfl) ev_c rv_isN)) (fun _ H10 e10 => ?_) (fun z => nomatch z)
            have e810 := (e8.trans e9).trans e10
            refine s_asgN (c_bag (g.mono (ex7.trans e810)) (sq_of (e810 ah _ hah7)) (sq_of (e810 al _ hal7)) S.lt ne (by omega) lL Ll (ev_var rfl) (ev_var rfl) (ev_var rfl)) fun v H11 e11 ⟨t, p, i, B, ev, ht, hp, mi, c⟩ => ?_
            subst ev
            exact ⟨t, i, "bag", .ref p, rfl, ((e7.trans e810).trans e11), newp_ex t _ ht, .inr ⟨by decide, p, B, rfl, fresh_back (e7.trans e810) (newp_none hp), newp_ex p _ hp, step_bag g.2 S k2 no mi c⟩⟩
          · refine s_when (b := false) (et_test (ev_op (ev_var rfl) ev_c rv_isN)) (fun z => nomatch z) (fun _ H10 e10 => ?_)
            exact ⟨t, i, "one", .int (x : Int), rfl, ((e7.trans e8).trans e9).trans e10, e10 t _ ht, .inl ⟨rfl, x, rfl, mi, fun t mt => by rw [List.mem_singleton.mp mt]; exact mx, by simp, hst_one (wt_pos g.2) h4 S k2 mi mx big⟩⟩
        · have k1 : hs.length = 1 := by have := of_decide_eq_false hb; omega
          refine ⟨t0, hs.getD 0 0, "all", .ref p0, rfl, e7.trans e8, e8 t0 _ (newp_ex t0 _ ht0), .inr ⟨by decide, p0, L, rfl, newp_none hp0, e8 p0 _ (newp_ex p0 _ hp0), m0, fun t mt => mt, S.ndL, hst_last (wt_pos g.2) S m0 k1⟩⟩
      · obtain ⟨t, j, s, x, rfl, e68, ht, pr⟩ := pr
        have ex8 := ex6.trans e68
        have had8 := e68 ad _ (e6 ad _ had5)
        have hah8 := e68 ah _ hah6
        have hal8 := e68 al _ hal6
        have har8 := e68 ar _ (e6 ar _ har5)
        -- rows.append(row)
        refine Evl.q_app har8 (ev_var rfl) (ev_var rfl) (by omega) fun H9 e9 => ?_
        generalize hH : upd H9 ar (.lst (rs ++ [V.ref t])) = H10
        have keep : ∀ b o, H8 b = some o → b ≠ ar → H10 b = some o := fun b o hb ne => by rw [← hH, upd_ne ne]; exact e9 b _ hb
        have ex10 : Ex H H10 := by rw [← hH]; exact Ex.mut (ex8.trans e9) nar0
        have had10 := keep ad _ had8 d2
        have hah10 := keep ah _ hah8 d3
        have hal10 := keep al _ hal8 c3
        have har10 : H10 ar = some (.lst (rs ++ [V.ref t])) := by rw [← hH]; exact upd_same
        have ht10 := keep t _ ht (ne_of ht har8 (by intro q; cases q))
        clear hH
        -- things
        refine q_asg (v := x) (ev_op (ev_var rfl) ev_c (rv_ixT (st_of ht10) (atI_nat (j := 2) rfl))) fun H11 e11 => ?_
        refine q_cut (M := fun σ2 H2 => ∃ (p : Addr) (B : List Nat), σ2 = [some (.ref a), some (.ref ad), some (.ref ah), some (.ref al), some (.ref ar), some (.ref t), some (.ref p), v7] ∧ Ex H11 H2 ∧ H2 p = some (.lst (natsV B)) ∧ p ≠ ad ∧ p ≠ ah ∧ p ≠ ar ∧ StepB T h n hs L (Dl os) j B) ?_ fun σ2 H12 pr => ?_
        · rcases pr with ⟨rfl, gg, rfl, st⟩ | ⟨ns, p, B, rfl, np, hp8, st⟩
          · refine s_when (b := true) (et_is (et_test (ev_op (ev_op (ev_var rfl) ev_c (rv_ixT (st_of (e11 t _ ht10)) (atI_nat (j := 0) rfl))) ev_c (rv_eq rfl))) (decide_eq_true rfl)) (fun _ H12 e12 => ?_) (fun z => nomatch z)
            refine s_asgL (el_lst (ea_cons (ev_op (ev_var rfl) ev_c (rv_ixT (st_of (e12 t _ (e11 t _ ht10))) (atI_nat (j := 2) rfl))) ea_nil) (by show 1 ≤ 100000; decide)) fun p H13 np e13 hp => ⟨p, [gg], rfl, e12.trans e13, hp, ?_, ?_, ?_, st⟩
            · exact (ne_of_none (e12 ad _ (e11 ad _ had10)) np).symm
            · exact (ne_of_none (e12 ah _ (e11 ah _ hah10)) np).symm
            · exact (ne_of_none (e12 ar _ (e11 ar _ har10)) np).symm
          · have q3 : p ≠ ar := (ne_of_none (e6 ar _ har5) np).symm
            refine s_when (b := false) (et_is (et_test (ev_op (ev_op (ev_var rfl) ev_c (rv_ixT (st_of (e11 t _ ht10)) (atI_nat (j := 0) rfl))) ev_c (rv_eq rfl))) (decide_eq_false fun z => ns (by injection z))) (fun z => nomatch z) (fun _ H12 e12 => ?_)
            exact ⟨p, B, rfl, e12, e12 p _ (e11 p _ (keep p _ hp8 q3)), (ne_of_none (e6 ad _ had5) np).symm, (ne_of_none hah6 np).symm, q3, st⟩
        · obtain ⟨p, B, rfl, e12, hp12, q1, q2, q3, mj, sub, ndB, S2⟩ := pr
          have e112 := e11.trans e12
          -- for thing in things: deal[thing] = row[1]
          refine q_forLn (xs := natsV B) (ev_var rfl) (sq_of hp12) (fun m σ' H' => ∃ (os' : List (Option Nat)) (v7 : Option V), σ' = [some (.ref a), some (.ref ad), some (.ref ah), some (.ref al), some (.ref ar), some (.ref t), some (.ref p), v7] ∧ Ex H H' ∧ H' ad = some (.lst (optsV os')) ∧ H' ah = some (.lst (natsV hs)) ∧ H' al = some (.lst (natsV L)) ∧
            H' ar = some (.lst (rs ++ [V.ref t])) ∧ H' p = some (.lst (natsV B)) ∧ H' t = some (.tup [.str s, .int (j : Int), x]) ∧ os'.length = n ∧ Dl os' = giveAll (Dl os) j (B.take m))
            (fun H13 e13 => ⟨os, v7, rfl, (ex10.trans e112).trans e13, e13 ad _ (e112 ad _ had10), e13 ah _ (e112 ah _ hah10), e13 al _ (e112 al _ hal10), e13 ar _ (e112 ar _ har10), e13 p _ hp12, e13 t _ (e112 t _ ht10), ol, by funext s; unfold giveAll; simp⟩)
            (fun m σ' H' _ ⟨_, _, _, _, _, _, _, _, h, _⟩ => sq_of h) (fun m y σ' H' hy pr => ?_) (fun σ' H' pr => ?_)
          · obtain ⟨os', v7, rfl, ex', had', hah', hal', har', hp', ht', ol', ed⟩ := pr
            obtain ⟨u, hu, rfl⟩ := natsV_at hy
            have lu : u < os'.length := by rw [ol']; exact lL u (sub u (List.mem_of_getElem? hu))
            refine s_setL (xs := optsV os') (j := u) (v := .int (j : Int)) had' (ev_op (ev_var rfl) ev_c (rv_ixT (st_of ht') (atI_nat (j := 1) rfl))) (ev_var rfl) (ev_var rfl) (by rw [optsV_len]; exact lu) fun H13 e13 => ⟨os'.set u (some j), _, rfl, ?_, ?_, ?_, ?_, ?_, ?_, ?_, ?_, give_take ed hu lu⟩
            · exact Ex.mut (ex'.trans e13) nad0
            · rw [upd_same]
              unfold optsV
              rw [List.map_set]
              rfl
            · rw [upd_ne d1.symm]; exact e13 ah _ hah'
            · rw [upd_ne c1]; exact e13 al _ hal'
            · rw [upd_ne d2.symm]; exact e13 ar _ har'
            · rw [upd_ne q1]; exact e13 p _ hp'
            · rw [upd_ne (ne_of ht' had' (by intro q; cases q))]; exact e13 t _ ht'
            · rw [List.length_set]; exact ol'
          · obtain ⟨os', v7, rfl, ex', had', hah', hal', har', hp', ht', ol', ed⟩ := pr
            rw [natsV_len, List.take_length] at ed
            obtain ⟨f1, f2⟩ := idx_first mj
            -- hands.remove(row[1])
            refine s_rem (D := { nx := _, rt := _, bk := _, ct := _ }) hah' (ev_var rfl) (ev_op (ev_var rfl) ev_c (rv_ixT (st_of ht') (atI_nat (j := 1) rfl))) f1 f2 fun H13 e13 => ?_
            rw [erase_idx]
            generalize hH : upd H13 ah (.lst (natsV (hs.erase j))) = H14
            have keep2 : ∀ b o, H' b = some o → b ≠ ah → H14 b = some o := fun b o hb ne => by rw [← hH, upd_ne ne]; exact e13 b _ hb
            have ex14 : Ex H H14 := by rw [← hH]; exact Ex.mut (ex'.trans e13) nah0
            have hah14 : H14 ah = some (.lst (natsV (hs.erase j))) := by rw [← hH]; exact upd_same
            have had14 := keep2 ad _ had' d1
            have hal14 := keep2 al _ hal' c2
            have har14 := keep2 ar _ har' d3.symm
            have hp14 := keep2 p _ hp' q2
            clear hH
            have hw := wk_list (K := K) (j := 7) (tl := tVar 3) (σ := [some (.ref a), some (.ref ad), some (.ref ah), some (.ref al), some (.ref ar), some (.ref t), some (.ref p), v7]) (H := H14) (ev_var rfl) (sq_of hal14)
            rw [natsV_len] at hw
            have z := el_lc (tt := tTest (tOp (rIn K true) (tVar 7) (tVar 6))) (te := tVar 7) (vs := [7]) (fun i => !B.contains (L.getD i 0)) (fun i => .int ((L.getD i 0 : Nat) : Int)) hw (by omega) (fun _ => rfl)
              (fun i H4 e4 hi => et_test (ev_op (ev_is (ev_var rfl) (natsV_getD hi)) (ev_var rfl) (rv_niN (sq_of (e4 p _ hp14)))))
              (fun i H4 e4 hi _ => ev_is (ev_var rfl) (natsV_getD hi))
            have e := kept_nats L fun t => !B.contains t
            rw [e] at z
            have le : (hs.erase j).length = hs.length - 1 := List.length_erase_of_mem mj
            refine s_asgL z fun al2 H15 nal2 e15 hal2 => ⟨(hs.erase j).length, by omega, os', hs.erase j, L.filter fun t => !B.contains t, rs ++ [V.ref t], al2, _, _, _, rfl, ex14.trans e15, e15 ad _ had14, e15 ah _ hah14, hal2, e15 ar _ har14, ?_, ?_, ?_, ol', ?_, rfl, ?_⟩
            · exact (ne_of_none had14 nal2).symm
            · exact (ne_of_none hah14 nal2).symm
            · exact (ne_of_none har14 nal2).symm
            · rw [ed]; exact S2
            · rw [List.length_append, List.length_singleton]; omega
    · have h0 : hs = [] := List.length_eq_zero_iff.mp (by have := of_decide_eq_false hb; omega)
      subst h0
      obtain ⟨ds, e1', l1, l2, fr⟩ := h_end ol S
      refine s_retU (eu_tup (ea_cons (ev_var rfl) (ea_cons (ev_var rfl) ea_nil)) (by show 2 ≤ 100000; decide)) fun p H7 _ e7 hp => k _ H7 ((ex5.trans e6).trans e7) ⟨p, _, _, rfl, hp, ad, ds, rfl, ?_, l1, l2, fr⟩
      rw [e7 ad _ (e6 ad _ had5), e1', opts_some]
end Lk

namespace Lk
open PySem PySem.Spec PyProof.Rows L2 Evl LE
/-! ### leasts -/
section
variable {K : PySem.W.Frag} {H : Hp} {σ : L2.St} {ta tb tc te : TE} {a b : Addr} {D : Ends} {tz : TS} {ns ms : List Int} {E : XK}
theorem q_asg2 {x y : V} {j1 j2 : Nat} (h : EvU te σ H [x, y]) (k : ∀ H1, Ex H H1 → tz D ((σ.set j1 (some x)).set j2 (some y)) H1) : tSeq (tAsg te (g2 K j1 j2)) tz D σ H :=
  h H (Ex.refl _) _ fun p H1 np e hp => g2_ok (st_of hp) (k H1 e)
theorem eu_divmod {i j : Int} (h1 : Ev ta σ H (.int i)) (h2 : Ev tb σ H (.int j)) (c : CDiv i j) : EvU (tCB rDivmod (tCons ta (tCons tb tNil))) σ H [.int (i / j), .int (i % j)] := fun H1 e Q q =>
  h1 H1 e _ fun H2 e2 => h2 H2 (e.trans e2) _ fun H3 e3 => ⟨i, j, rfl, c, fun p hp => q p _ (fresh_back (e2.trans e3) hp) ((e2.trans e3).trans (Ex.new hp)) upd_same⟩
theorem s_augC {i : Nat} {C : Int → Int → Prop} {f : Int → Int → Int} {x y : Int} (hx : σ[i]? = some (some (.int x))) (h : Ev te σ H (.int y)) (c : C x y) (k : ∀ H1, Ex H H1 → D.nx (σ.set i (some (.int (f x y)))) H1) : tAug i te (rI C fun i j => .int (f i j)) D σ H :=
  ⟨.int x, hx, h H (Ex.refl H) _ fun H1 e => ⟨x, y, rfl, rfl, c, k H1 e⟩⟩
theorem q_augC {i : Nat} {C : Int → Int → Prop} {f : Int → Int → Int} {x y : Int} (hx : σ[i]? = some (some (.int x))) (h : Ev te σ H (.int y)) (c : C x y) (k : ∀ H1, Ex H H1 → tz D (σ.set i (some (.int (f x y)))) H1) : tSeq (tAug i te (rI C fun i j => .int (f i j))) tz D σ H :=
  s_augC (D := { D with nx := tz D }) hx h c k
theorem el_sorted (h : EvL te σ H (intsV ns)) (hl : ns.length < 64) : EvL (tCB (rSorted K) (tCons te tNil)) σ H (intsV (srt ns)) := fun H1 e Q q => h H1 e _ fun p H2 np e2 hp =>
  ⟨p, ns, rfl, sq_of hp, hl, fun ns' p2 pm pw hp2 => q p2 _ (fresh_back e2 hp2) (e2.trans (Ex.new hp2)) (by rw [upd_same, srt_only pm pw]; rfl)⟩
theorem ints_lex : ∀ a b : List Int, intsLt a b = lexLt a b
  | [], [] => rfl
  | [], _ :: _ => rfl
  | _ :: _, [] => rfl
  | x :: xs, y :: ys => by
    show (if x = y then intsLt xs ys else decide (x < y)) = if x = y then lexLt xs ys else decide (x < y)
    rw [ints_lex xs ys]
theorem rv_gtI {p q : Addr} (h1 : SqL K H p (intsV ns)) (h2 : SqL K H q (intsV ms)) : RV (rGtI K) (.ref p) (.ref q) H (.bl (lexLt ms ns)) := fun H1 e Q k =>
  ⟨p, q, ns, ms, rfl, rfl, ex_l e h1, ex_l e h2, by rw [ints_lex]; exact k H1 (Ex.refl _)⟩
end
def sp_many_deals (K : PySem.W.Frag) : Sp := fun vs H Q _ => ∃ h n : Nat, vs = [.int (h : Int), .int (n : Int)] ∧ h ≤ 4 ∧ n ≤ 12 ∧ RetV (.int ((h ^ n : Nat) : Int)) H Q
abbrev N_many_deals : List Str := ["hands", "things", "many", "thing"]
theorem sc_many_deals : FnScope N_many_deals ["hands", "things"] (defScope s_many_deals) := ⟨rfl, rfl, rfl, by decide +kernel, rfl, by decide +kernel, by decide +kernel⟩
theorem ok_many_deals {P : Program} {w : World} {K : PySem.W.Frag} {mg : Str → Option Value} {base : Heap} (TT : Top K mg)  : Ok P w K mg base 1 "many_deals" ["hands", "things"] [] (sp_many_deals K) := by
  refine TT.ok (d := d_many_deals) 22 22 rfl rfl rfl rfl rfl sc_many_deals (fun _ _ _ _ _ _ us hl => match us, hl with | [_, _], _ => rfl) (fun vs H Q E h => ?_) (fun cdv A outer s H vs Q E hr h => ?_)
  · obtain ⟨h, n, rfl, _⟩ := h; rfl
  · obtain ⟨h, n, rfl, h4, n12, k⟩ := h
    refine ⟨_, (pss_cons (ps_set (i := 2) sc_many_deals.nd rfl (Or.inl rfl) pe_int)
  (pss_cons (ps_for PassesOwn.never rfl (pi_range1 rfl (TT.free 71) (pa_cons (pv 1) pa_nil)) (pg_name (i := 3) sc_many_deals.nd rfl (Or.inl rfl) (Or.inr rfl)) (pss_one (ps_aug (i := 2) sc_many_deals.nd rfl (Or.inl rfl) (pv 0) ip_mul)))
  (pss_one (ps_ret (pv 2))))), ?_⟩
    refine q_asg ev_c fun H1 e1 => ?_
    refine q_forR1 (n := (n : Int)) (ea_cons (ev_var rfl) ea_nil) (by omega) (fun m σ' H' => ∃ v, σ' = [some (.int (h : Int)), some (.int (n : Int)), some (.int ((h ^ m : Nat) : Int)), v] ∧ Ex H H') (fun H2 e2 => ⟨none, rfl, e1.trans e2⟩) (fun m σ' H' hm pr => ?_) (fun σ' H' pr => ?_)
    · obtain ⟨v, rfl, ex⟩ := pr
      have cm : CMul ((h ^ m : Nat) : Int) (h : Int) := .inr ⟨by omega, by omega⟩
      refine s_augC (C := CMul) (f := fun i j => i * j) (x := ((h ^ m : Nat) : Int)) (y := (h : Int)) rfl (ev_var rfl) cm fun H3 e3 => ⟨some (.int (m : Int)), ?_, ex.trans e3⟩
      rw [Nat.pow_succ, Int.natCast_mul]
      rfl
    · obtain ⟨v, rfl, ex⟩ := pr
      rw [Int.toNat_natCast]
      exact s_ret (ev_var rfl) fun H3 e3 => k H3 (ex.trans e3)
section
variable {K : PySem.W.Frag} {H : Hp} {σ : L2.St} {ta tb tc te : TE} {a b : Addr} {E : XK} {h n m : Nat} {T : List (List Int)} {ds : List Nat}
theorem c_many (h4 : h ≤ 4) (n12 : n ≤ 12) (e1 : Ev ta σ H (.int (h : Int))) (e2 : Ev tb σ H (.int (n : Int))) : Ev (tCall (sp_many_deals K) [] E (tCons ta (tCons tb tNil))) σ H (.int ((h ^ n : Nat) : Int)) :=
  ev_callV (ea_cons e1 (ea_cons e2 ea_nil)) fun H1 e Q k => ⟨h, n, rfl, h4, n12, k⟩
end
def sp_check_few (K : PySem.W.Frag) : Sp := fun vs H Q _ => ∃ h n : Nat, vs = [.int (h : Int), .int (n : Int)] ∧ h ≤ 4 ∧ n ≤ 12 ∧ h ^ n ≤ 4096 ∧ RetV .non H Q
abbrev N_check_few : List Str := ["hands", "things"]
theorem sc_check_few : FnScope N_check_few ["hands", "things"] (defScope s_check_few) := ⟨rfl, rfl, rfl, by decide +kernel, rfl, by decide +kernel, by decide +kernel⟩
theorem ok_check_few {P : Program} {w : World} {K : PySem.W.Frag} {mg : Str → Option Value} {base : Heap} (TT : Top K mg) (O_many_deals : Ok P w K mg base 1 "many_deals" ["hands", "things"] [] (sp_many_deals K)) : Ok P w K mg base 2 "check_few" ["hands", "things"] [] (sp_check_few K) := by
  obtain ⟨t_MOST_CASES, h_MOST_CASES⟩ := TT.int 83 (x := "MOST_CASES")
  refine TT.ok (d := d_check_few) 23 23 rfl rfl rfl rfl rfl sc_check_few (fun _ _ _ _ _ _ us hl => match us, hl with | [_, _], _ => rfl) (fun vs H Q E h => ?_) (fun cdv A outer s H vs Q E hr h => ?_)
  · obtain ⟨h, n, rfl, _⟩ := h; rfl
  · obtain ⟨h, n, rfl, h4, n12, few, k⟩ := h
    refine ⟨_, (pss_one (ps_if (pt_cmpR op_gt (pe_cl O_many_deals (hr.mono (by decide)) rfl (pa_cons (pv 0) (pa_cons (pv 1) pa_nil))) (pe_glob (v := .int 4096) rfl h_MOST_CASES ⟨_, rfl⟩) (nomark _)) (pss_one ps_never) pss_nil)), ?_⟩
    exact s_when (b := false) (et_is (et_test (ev_op (c_many h4 n12 (ev_var rfl) (ev_var rfl)) ev_c rv_I0)) (decide_eq_false (by omega))) (fun z => nomatch z) fun _ H1 e1 => k H1 e1
def sp_deal_numbered (K : PySem.W.Frag) : Sp := fun vs H Q _ => ∃ m h n : Nat, vs = [.int (m : Int), .int (h : Int), .int (n : Int)] ∧ 1 ≤ h ∧ h ≤ 4 ∧ n ≤ 12 ∧ RetL (natsV (dig h n m)) H Q
abbrev N_deal_numbered : List Str := ["number", "hands", "things", "deal", "thing", "hand"]
theorem sc_deal_numbered : FnScope N_deal_numbered ["number", "hands", "things"] (defScope s_deal_numbered) := ⟨rfl, rfl, rfl, by decide +kernel, rfl, by decide +kernel, by decide +kernel⟩
theorem ok_deal_numbered {P : Program} {w : World} {K : PySem.W.Frag} {mg : Str → Option Value} {base : Heap} (TT : Top K mg)  : Ok P w K mg base 1 "deal_numbered" ["number", "hands", "things"] [] (sp_deal_numbered K) := by
  refine TT.ok (d := d_deal_numbered) 24 24 rfl rfl rfl rfl rfl sc_deal_numbered (fun _ _ _ _ _ _ us hl => match us, hl with | [_, _, _], _ => rfl) (fun vs H Q E h => ?_) (fun cdv A outer s H vs Q E hr h => ?_)
  · obtain ⟨m, h, n, rfl, _⟩ := h; rfl
  · obtain ⟨m, h, n, rfl, h1, h4, n12, k⟩ := h
    refine ⟨_, (pss_cons (ps_set (i := 3) sc_deal_numbered.nd rfl (Or.inl rfl) (pe_lst pa_nil))
  (pss_cons (ps_for PassesOwn.never rfl (pi_range1 rfl (TT.free 71) (pa_cons (pv 2) pa_nil)) (pg_name (i := 4) sc_deal_numbered.nd rfl (Or.inl rfl) (Or.inr rfl)) (pss_cons (ps_asg (cDivmod (TT.free 81) (pa_cons (pv 0) (pa_cons (pv 1) pa_nil))) (gT2 K (n := 2) (pgs_cons (pg_name (i := 0) sc_deal_numbered.nd rfl (Or.inl rfl) (Or.inr rfl)) (pgs_cons (pg_name (i := 5) sc_deal_numbered.nd rfl (Or.inl rfl) (Or.inr rfl)) pgs_nil))))
  (pss_one (ps_expr (eBM K PySem.F.plainAttrs_list PySem.F.slot_list_append PySem.F.type_list_append mt_append (pv 3) (pa_cons (pv 5) pa_nil))))))
  (pss_one (ps_ret (pv 3))))), ?_⟩
    refine q_asgL (el_lst ea_nil (by decide)) fun ad H1 nad e1 had => ?_
    refine q_forR1 (n := (n : Int)) (ea_cons (ev_var rfl) ea_nil) (by omega) (fun i σ' H' => ∃ v4 v5, σ' = [some (.int ((m / h ^ i : Nat) : Int)), some (.int (h : Int)), some (.int (n : Int)), some (.ref ad), v4, v5] ∧ Ex H H' ∧ H' ad = some (.lst (natsV (dig h i m))))
      (fun H2 e2 => ⟨none, none, by rw [Nat.pow_zero, Nat.div_one]; rfl, e1.trans e2, e2 ad _ had⟩) (fun i σ' H' hi pr => ?_) (fun σ' H' pr => ?_)
    · obtain ⟨v4, v5, rfl, ex, hd⟩ := pr
      refine q_asg2 (eu_divmod (i := ((m / h ^ i : Nat) : Int)) (j := (h : Int)) (ev_var rfl) (ev_var rfl) ⟨by omega, by omega⟩) fun H2 e2 => ?_
      refine s_app (xs := natsV (dig h i m)) (v := .int ((m / h ^ i % h : Nat) : Int)) (e2 ad _ hd) (ev_var rfl) (ev_is (ev_var rfl) (by rw [Int.natCast_emod])) (by rw [natsV_len, dig_len]; omega) fun H3 e3 => ⟨some (.int (i : Int)), some (.int (((m / h ^ i : Nat) : Int) % (h : Int))), ?_, Ex.mut ((ex.trans e2).trans e3) nad, ?_⟩
      · show [some (V.int (((m / h ^ i : Nat) : Int) / (h : Int))), some (V.int (h : Int)), some (V.int (n : Int)), some (V.ref ad), some (V.int (i : Int)), some (V.int (((m / h ^ i : Nat) : Int) % (h : Int)))] = _
        rw [← Int.natCast_ediv, Nat.div_div_eq_div_mul, ← Nat.pow_succ]
      · rw [upd_same, natsV_app, dig_more]
    · obtain ⟨v4, v5, rfl, ex, hd⟩ := pr
      rw [Int.toNat_natCast] at hd
      exact s_ret (ev_var rfl) fun H3 e3 => k ad H3 nad (ex.trans e3) (e3 ad _ hd)
theorem shares_dn (T : List (List Int)) (h : Nat) (ds : List Nat) : sharesL T h (ds.map some) = shs (wt T) ds.length h (Dn ds) := by
  unfold sharesL shs
  refine List.map_congr_left fun i _ => ?_
  exact vl_dn T ds i i
section
variable {K : PySem.W.Frag} {H : Hp} {σ : L2.St} {ta tb tc te : TE} {a b : Addr} {E : XK} {h n m : Nat} {T : List (List Int)} {ds : List Nat}
theorem c_few (h4 : h ≤ 4) (n12 : n ≤ 12) (few : h ^ n ≤ 4096) (e1 : Ev ta σ H (.int (h : Int))) (e2 : Ev tb σ H (.int (n : Int))) : Ev (tCall (sp_check_few K) [] E (tCons ta (tCons tb tNil))) σ H .non :=
  ev_callV (ea_cons e1 (ea_cons e2 ea_nil)) fun H1 e Q k => ⟨h, n, rfl, h4, n12, few, k⟩
theorem c_numbered (h1 : 1 ≤ h) (h4 : h ≤ 4) (n12 : n ≤ 12) (e1 : Ev ta σ H (.int (m : Int))) (e2 : Ev tb σ H (.int (h : Int))) (e3 : Ev tc σ H (.int (n : Int))) : EvL (tCall (sp_deal_numbered K) [] E (tCons ta (tCons tb (tCons tc tNil)))) σ H (natsV (dig h n m)) :=
  el_callL (ea_cons e1 (ea_cons e2 (ea_cons e3 ea_nil))) fun H1 e Q k => ⟨m, h, n, rfl, h1, h4, n12, k⟩
theorem c_sharesD (g : GT K H a T h n) (hb : SqL K H b (natsV ds)) (hl : ds.length = n) (e1 : Ev ta σ H (.ref a)) (e2 : Ev tb σ H (.ref b)) : EvL (tCall (sp_shares_of K) [] E (tCons ta (tCons tb tNil))) σ H (intsV (shs (wt T) n h (Dn ds))) := by
  have z := c_shares (E := E) (os := ds.map some) g (by rw [opts_some]; exact hb) (by rw [List.length_map]; exact hl) e1 e2
  rw [shares_dn, hl] at z
  exact z
end
theorem shs_len {w : Nat → Nat → Int} {n h : Nat} {D : Nat → Option Nat} : (shs w n h D).length = h := by
  unfold shs
  rw [List.length_map, List.length_range]
/-- a whole deal as a list -/
theorem whole_ds {n h : Nat} {E : Nat → Option Nat} (W : Whole n h E) : ∃ ds : List Nat, ds.length = n ∧ (∀ x, x ∈ ds → x < h) ∧ ∀ t, t < n → Dn ds t = E t := by
  refine ⟨(List.range n).map fun t => (E t).getD 0, by rw [List.length_map, List.length_range], fun x m => ?_, fun t ht => ?_⟩
  · obtain ⟨t, m1, rfl⟩ := List.mem_map.mp m
    obtain ⟨k, hk, e⟩ := W t (List.mem_range.mp m1)
    rw [e]
    exact hk
  · obtain ⟨k, hk, e⟩ := W t ht
    unfold Dn
    rw [List.getElem?_map, List.getElem?_range ht, e]
    show some ((E t).getD 0) = some k
    rw [e]
    rfl
theorem shs_congr {w : Nat → Nat → Int} {n h : Nat} {D E : Nat → Option Nat} (e : ∀ t, t < n → D t = E t) : shs w n h D = shs w n h E := by
  unfold shs
  exact List.map_congr_left fun i _ => val_congr e
def LeastD (T : List (List Int)) (h : Nat) (ds : List Nat) : Prop := LeastTop (wt T) ds.length h (Dn ds)
def sp_by_leasts (K : PySem.W.Frag) : Sp := fun vs H Q _ => ∃ a T h n, vs = [.ref a] ∧ GT K H a T h n ∧ h ^ n ≤ 4096 ∧ RetP (DealV h n (LeastD T h)) H Q
abbrev N_by_leasts : List Str := ["table", "hands", "things", "best", "least", "number", "deal", "some"]
theorem sc_by_leasts : FnScope N_by_leasts ["table"] (defScope s_by_leasts) := ⟨rfl, rfl, rfl, by decide +kernel, rfl, by decide +kernel, by decide +kernel⟩
theorem ok_by_leasts {P : Program} {w : World} {K : PySem.W.Frag} {mg : Str → Option Value} {base : Heap} (TT : Top K mg) (O_check_few : Ok P w K mg base 2 "check_few" ["hands", "things"] [] (sp_check_few K)) (O_deal_numbered : Ok P w K mg base 1 "deal_numbered" ["number", "hands", "things"] [] (sp_deal_numbered K)) (O_shares_of : Ok P w K mg base 5 "shares_of" ["table", "deal"] [] (sp_shares_of K)) (O_many_deals : Ok P w K mg base 1 "many_deals" ["hands", "things"] [] (sp_many_deals K)) : Ok P w K mg base 6 "by_leasts" ["table"] [] (sp_by_leasts K) := by
  refine TT.ok (d := d_by_leasts) 27 27 rfl rfl rfl rfl rfl sc_by_leasts (fun _ _ _ _ _ _ us hl => match us, hl with | [_], _ => rfl) (fun vs H Q E h => ?_) (fun cdv A outer s H vs Q E hr h => ?_)
  · obtain ⟨a, T, h, n, rfl, _⟩ := h; rfl
  · obtain ⟨a, T, h, n, rfl, g, few, k⟩ := h
    refine ⟨_, (pss_cons (ps_set (i := 1) sc_by_leasts.nd rfl (Or.inl rfl) (cLen K (TT.free 70) (pa_cons (pv 0) pa_nil)))
  (pss_cons (ps_set (i := 2) sc_by_leasts.nd rfl (Or.inl rfl) (cLen K (TT.free 70) (pa_cons (pe_ix (ixL K) (pv 0) pe_int (fun _ _ => rfl)) pa_nil)))
  (pss_cons (ps_expr (pe_cl O_check_few (hr.mono (by decide)) rfl (pa_cons (pv 1) (pa_cons (pv 2) pa_nil))))
  (pss_cons (ps_set (i := 3) sc_by_leasts.nd rfl (Or.inl rfl) (pe_cl O_deal_numbered (hr.mono (by decide)) rfl (pa_cons pe_int (pa_cons (pv 1) (pa_cons (pv 2) pa_nil)))))
  (pss_cons (ps_set (i := 4) sc_by_leasts.nd rfl (Or.inl rfl) (cSorted K (TT.free 73) (pa_cons (pe_cl O_shares_of (hr.mono (by decide)) rfl (pa_cons (pv 0) (pa_cons (pv 3) pa_nil))) pa_nil)))
  (pss_cons (ps_for PassesOwn.never rfl (pi_range2 rfl (TT.free 71) (pa_cons pe_int (pa_cons (pe_cl O_many_deals (hr.mono (by decide)) rfl (pa_cons (pv 1) (pa_cons (pv 2) pa_nil))) pa_nil))) (pg_name (i := 5) sc_by_leasts.nd rfl (Or.inl rfl) (Or.inr rfl)) (pss_cons (ps_set (i := 6) sc_by_leasts.nd rfl (Or.inl rfl) (pe_cl O_deal_numbered (hr.mono (by decide)) rfl (pa_cons (pv 5) (pa_cons (pv 1) (pa_cons (pv 2) pa_nil)))))
  (pss_cons (ps_set (i := 7) sc_by_leasts.nd rfl (Or.inl rfl) (cSorted K (TT.free 73) (pa_cons (pe_cl O_shares_of (hr.mono (by decide)) rfl (pa_cons (pv 0) (pa_cons (pv 6) pa_nil))) pa_nil)))
  (pss_one (ps_if (pt_cmpR (gtI K hr.units) (pv 7) (pv 4) (nomark _)) (pss_cons (ps_set (i := 3) sc_by_leasts.nd rfl (Or.inl rfl) (pv 6))
  (pss_one (ps_set (i := 4) sc_by_leasts.nd rfl (Or.inl rfl) (pv 7)))) pss_nil)))))
  (pss_one (ps_ret (pv 3))))))))), ?_⟩
    have h4 := g.2.h4
    have h1 := g.2.h1
    have n12 := g.2.n12
    have pw : 1 ≤ h ^ n := Nat.pow_pos h1
    obtain ⟨rs, g1, g2⟩ := g.len
    refine q_asg (v := .int (h : Int)) (ev_is (ev_len (ev_var rfl) g1) (by rw [List.length_map, g2])) fun H1 e1 => ?_
    obtain ⟨rs', r, row, r1, r2, r3, r4, r5⟩ := (g.mono e1).row (i := 0) g.2.h1
    refine q_asg (v := .int (n : Int)) (ev_is (ev_len (ev_op (ev_var rfl) ev_c (rv_ixL r1 (atI_nat (j := 0) r2))) r5) (by rw [intsV_len, g.2.rows row r4])) fun H2 e2 => ?_
    refine q_drop (c_few h4 n12 few (ev_var rfl) (ev_var rfl)) fun H3 e3 => ?_
    refine q_asgL (c_numbered (m := 0) h1 h4 n12 ev_c (ev_var rfl) (ev_var rfl)) fun p H4 np e4 hp => ?_
    have ex4 := ((e1.trans e2).trans e3).trans e4
    refine q_asgL (el_sorted (c_sharesD (g.mono ex4) (sq_of hp) (dig_len h n 0) (ev_var rfl) (ev_var rfl)) (by rw [shs_len]; omega)) fun q H5 nq e5 hq => ?_
    refine q_forR2 (lo := 1) (n := ((h ^ n : Nat) : Int)) (ea_cons ev_c (ea_cons (c_many h4 n12 (ev_var rfl) (ev_var rfl)) ea_nil)) ⟨by omega, by omega, by omega, by omega⟩ (fun i σ' H' => ∃ p q ds v5 v6 v7, σ' = [some (.ref a), some (.int (h : Int)), some (.int (n : Int)), some (.ref p), some (.ref q), v5, v6, v7] ∧ Ex H H' ∧ H' p = some (.lst (natsV ds)) ∧ H' q = some (.lst (intsV (srt (shs (wt T) n h (Dn ds))))) ∧ ds.length = n ∧ (∀ x, x ∈ ds → x < h) ∧
        ∀ m, m < 1 + i → lexLt (srt (shs (wt T) n h (Dn ds))) (srt (shs (wt T) n h (Dn (dig h n m)))) = false)
      (fun H6 e6 => ⟨p, q, dig h n 0, none, none, none, rfl, (ex4.trans e5).trans e6, e6 p _ (e5 p _ hp), e6 q _ hq, dig_len h n 0, fun x m => dig_lt h1 m, fun m hm => by rw [show m = 0 by omega]; exact lex_irr _⟩) (fun i σ' H' hi pr => ?_) (fun σ' H' pr => ?_)
    · obtain ⟨p, q, ds, v5, v6, v7, rfl, ex, hp, hq, hl, lt, top⟩ := pr
      refine q_asgL (c_numbered (m := 1 + i) h1 h4 n12 (ev_is (ev_var rfl) (by rw [Int.natCast_add]; rfl)) (ev_var rfl) (ev_var rfl)) fun p2 H6 np2 e6 hp2 => ?_
      refine q_asgL (el_sorted (c_sharesD (g.mono (ex.trans e6)) (sq_of hp2) (dig_len h n (1 + i)) (ev_var rfl) (ev_var rfl)) (by rw [shs_len]; omega)) fun q2 H7 nq2 e7 hq2 => ?_
      refine s_when (et_test (ev_op (ev_var rfl) (ev_var rfl) (rv_gtI (sq_of hq2) (sq_of (e7 q _ (e6 q _ hq)))))) (fun z H8 e8 => ?_) (fun z H8 e8 => ?_)
      · refine q_asg (ev_var rfl) fun H9 e9 => s_asg (ev_var rfl) fun H10 e10 => ⟨p2, q2, dig h n (1 + i), _, _, _, rfl, (((((ex.trans e6).trans e7).trans e8).trans e9).trans e10), e10 p2 _ (e9 p2 _ (e8 p2 _ (e7 p2 _ hp2))), e10 q2 _ (e9 q2 _ (e8 q2 _ hq2)), dig_len h n (1 + i), fun x m => dig_lt h1 m, fun m hm => ?_⟩
        by_cases e : m = 1 + i
        · rw [e]; exact lex_irr _
        · exact lex_over z (top m (by omega))
      · refine ⟨p, q, ds, _, _, _, rfl, ((ex.trans e6).trans e7).trans e8, e8 p _ (e7 p _ (e6 p _ hp)), e8 q _ (e7 q _ (e6 q _ hq)), hl, lt, fun m hm => ?_⟩
        by_cases e : m = 1 + i
        · rw [e]; exact z
        · exact top m (by omega)
    · obtain ⟨p, q, ds, v5, v6, v7, rfl, ex, hp, hq, hl, lt, top⟩ := pr
      refine s_ret (ev_var rfl) fun H6 e6 => k _ H6 (ex.trans e6) ⟨p, ds, rfl, e6 p _ hp, hl, lt, fun E W => ?_⟩
      rw [hl] at W ⊢
      obtain ⟨es, l1, l2, l3⟩ := whole_ds W
      obtain ⟨m, m1, m2⟩ := dig_all l2
      rw [l1] at m1 m2
      rw [← shs_congr l3, ← m2]
      exact top m (by omega)
end Lk

namespace Lk
open PySem PySem.Spec PyProof.Rows L2 Evl LE
/-! ### scores -/
def RetU (xs : List V) (H : Hp) (Q : VK) : Prop := ∀ p H2, H p = none → Ex H H2 → H2 p = some (.tup xs) → Q (.ref p) H2
section
variable {K : PySem.W.Frag} {H : Hp} {σ : L2.St} {ta tb tc te to ti : TE} {a b l : Addr} {D : Ends} {tz : TS} {xs : List V} {E : XK} {x y z : V} {r : R2}
theorem eu_callU {sp : Sp} {dvs vs : List V} {ta : TA} (h : EvA ta σ H vs) (hs : ∀ H1, Ex H H1 → ∀ Q : VK, RetU xs H1 Q → sp (vs ++ dvs) H1 Q E) : EvU (tCall sp dvs E ta) σ H xs := fun H1 e Q q =>
  h H1 e _ fun H2 e2 => hs H2 (e.trans e2) Q (fun p H3 hp e3 h3 => q p H3 (fresh_back e2 hp) (e2.trans e3) h3)
theorem ev_opU1 (ha : EvU ta σ H xs) (hb : ∀ H1, Ex H H1 → Ev tb σ H1 y) (hr : ∀ p H1, H1 p = some (.tup xs) → Ex H H1 → RV r (.ref p) y H1 z) : Ev (tOp r ta tb) σ H z := fun H1 e Q q =>
  ha H1 e _ fun p H2 _ e2 hp => hb H2 (e.trans e2) H2 (Ex.refl _) _ fun H3 e3 => hr p H3 (e3 p _ hp) ((e.trans e2).trans e3) H3 (Ex.refl _) _ fun H4 e4 => q H4 ((e2.trans e3).trans e4)
theorem ev_lenT (ha : Ev ta σ H (.ref a)) (hx : SqT K H a xs) : Ev (tCB (rLenS K) (tCons ta tNil)) σ H (.int (xs.length : Int)) := fun H1 e Q q =>
  ha H1 e _ fun H2 e2 => ⟨a, xs, rfl, .inr (ex_t (e.trans e2) hx), q H2 e2⟩
theorem el_listT (ha : Ev ta σ H (.ref a)) (hx : SqT K H a xs) : EvL (tCB (rListS K) (tCons ta tNil)) σ H xs := fun H1 e Q q =>
  ha H1 e _ fun H2 e2 => ⟨a, xs, rfl, .inr (ex_t (e.trans e2) hx), fun p hp => q p _ (fresh_back e2 hp) (e2.trans (Ex.new hp)) upd_same⟩
theorem q_asgPop {i : Nat} (hl : H l = some (.lst (xs ++ [y]))) (ha : Ev ta σ H (.ref l)) (k : ∀ H1, Ex H H1 → tz D (σ.set i (some y)) (upd H1 l (.lst xs))) : tSeq (tAsg (tBM0 K "list" rPop ta) (gName i)) tz D σ H :=
  ha H (Ex.refl H) _ fun H1 e1 => ⟨Or.inl ⟨rfl, _, sq_of (e1 l _ hl)⟩, l, xs ++ [y], y, rfl, rfl, e1 l _ hl, by rw [List.length_append, List.length_singleton, Nat.add_sub_cancel, List.getElem?_append_right (Nat.le_refl _), Nat.sub_self]; rfl, by
    show tz D (σ.set i (some y)) (upd H1 l (.lst (xs ++ [y]).dropLast))
    rw [List.dropLast_concat]
    exact k H1 e1⟩
theorem s_augS {f : Int → Int → Int} {j : Nat} {m v : Int} (hl : H l = some (.lst xs)) (ho : Ev to σ H (.ref l)) (hi : Ev ti σ H (.int (j : Int))) (hx : xs[j]? = some (.int m)) (hv : Ev te σ H (.int v)) (k : ∀ H1, Ex H H1 → D.nx σ (upd H1 l (.lst (xs.set j (.int (f m v)))))) :
    tAugS to ti te (rGetL K) (ipI f) rSetL D σ H := ho H (Ex.refl H) _ fun H1 e1 => hi H1 e1 _ fun H2 e2 => ⟨l, xs, j, .int m, rfl, rfl, sq_of (e2 l _ (e1 l _ hl)), hx, hv H2 (e1.trans e2) _ fun H3 e3 => ⟨m, v, rfl, rfl, l, xs, (j : Int), j, rfl, rfl, e3 l _ (e2 l _ (e1 l _ hl)), ixN_nat (List.getElem?_eq_some_iff.mp hx).1, k H3 ((e1.trans e2).trans e3)⟩⟩
theorem wk_down {j n : Nat} {tas : TA} (h : EvA tas σ H [.int ((n : Int) - 1), .int (-1), .int (-1)]) (hn : n ≤ 100000) : Wk (iRng3 tas) (gName j) σ H n (fun i σ' => σ'.set j (some (.int ((n - 1 - i : Nat) : Int)))) := fun H0 e R k => h H0 e _ fun H1 e1 =>
  ⟨(n : Int) - 1, -1, -1, n, rfl, by have z := RgC.neg (i := (n : Int) - 1) (j := -1) (by omega) (by omega) (by omega) (by omega); rw [show ((n : Int) - 1 - -1).toNat = n by omega] at z; exact z, k _ H1 e1 (fun i H' e2 hi => ⟨hi, fun x H'' y σ' Q2 q => by
    obtain ⟨e3, ex⟩ := y
    subst e3 ex
    have e0 : (n : Int) - 1 + (i : Nat) * -1 = ((n - 1 - i : Nat) : Int) := by omega
    show Q2 (σ'.set j (some (.int ((n : Int) - 1 + (i : Nat) * -1)))) _
    rw [e0]
    exact q _ (Ex.refl _)⟩) fun H' e2 => Nat.le_refl _⟩
/-- [t] of a new tuple into a name -/
theorem s_asg1U {i : Nat} (h : EvU te σ H xs) (k : ∀ ao ar H1, H ao = none → H ar = none → Ex H H1 → H1 ao = some (.lst [.ref ar]) → H1 ar = some (.tup xs) → D.nx (σ.set i (some (.ref ao))) H1) : tAsg (tLst (tCons te tNil)) (gName i) D σ H :=
  h H (Ex.refl H) _ fun ar H2 nar e2 har => ⟨by show 1 ≤ sizeLine; decide, fun ao nao => k ao ar _ (fresh_back e2 nao) nar (e2.trans (Ex.new nao)) upd_same (by rw [upd_ne (ne_of_none har nao)]; exact har)⟩
theorem q_asg1U {i : Nat} (h : EvU te σ H xs) (k : ∀ ao ar H1, H ao = none → H ar = none → Ex H H1 → H1 ao = some (.lst [.ref ar]) → H1 ar = some (.tup xs) → tz D (σ.set i (some (.ref ao))) H1) : tSeq (tAsg (tLst (tCons te tNil)) (gName i)) tz D σ H := s_asg1U (D := { D with nx := tz D }) h k
/-- t + (x,) -/
theorem en_catA {p : Addr} {x : V} (h1 : Ev ta σ H (.ref p)) (hp : SqT K H p xs) (h2 : EvU tb σ H [x]) (hl : xs.length + 1 ≤ 100000) : EvN (tOp (rCatA K) ta tb) σ H (fun v N => ∃ u, v = .ref u ∧ N u = some (.tup (xs ++ [x]))) := fun H1 e Q k =>
  h1 H1 e _ fun H2 e2 => h2 H2 (e.trans e2) _ fun q H3 nq e3 hq => ⟨p, q, xs, [x], rfl, rfl, ex_t ((e.trans e2).trans e3) hp, st_of hq, sz_of hl, fun n => k _ H3 (e2.trans e3) ⟨q, rfl, by rw [newp_at (fresh_back e2 nq), n]; exact hq⟩, fun _ n => (nomatch n), fun _ _ u hu => k _ _ ((e2.trans e3).trans (Ex.new hu)) ⟨u, rfl, by rw [newp_at (fresh_back (e2.trans e3) hu)]; exact upd_same⟩⟩
end
/-- of a list of shares -/
def cntL (ns : List Int) : Int := (ns.map c1).sum
def prdL (ns : List Int) : Int := (ns.map q1).foldl (· * ·) 1
theorem cntL_app (ns : List Int) (x : Int) : cntL (ns ++ [x]) = cntL ns + c1 x := by
  unfold cntL
  rw [List.map_append, List.sum_append]
  simp
theorem prdL_app (ns : List Int) (x : Int) : prdL (ns ++ [x]) = prdL ns * q1 x := by
  unfold prdL
  rw [List.map_append, List.foldl_append]
  rfl
theorem cntL_F (h : Nat) (f : Nat → Int) : cntL ((List.range h).map f) = cntF h f := by
  induction h with
  | zero => rfl
  | succ h ih =>
    rw [List.range_succ, List.map_append, List.map_singleton, cntL_app, ih]
    rfl
theorem prdL_F (h : Nat) (f : Nat → Int) : prdL ((List.range h).map f) = prdF h f := by
  induction h with
  | zero => rfl
  | succ h ih =>
    rw [List.range_succ, List.map_append, List.map_singleton, prdL_app, ih]
    rfl
theorem take_at {α : Type} {ns : List α} {m : Nat} {x : α} (e : ns[m]? = some x) : ns.take (m + 1) = ns.take m ++ [x] := by
  rw [List.take_add_one, e]
  rfl
def sp_score_of (K : PySem.W.Frag) : Sp := fun vs H Q _ => ∃ p ns, vs = [.ref p] ∧ SqL K H p (intsV ns) ∧ (∀ x, x ∈ ns → 0 ≤ x ∧ x ≤ 100000000000000) ∧ RetU [.int (cntL ns), .int (prdL ns)] H Q
abbrev N_score_of : List Str := ["shares", "many", "product", "share"]
theorem sc_score_of : FnScope N_score_of ["shares"] (defScope s_score_of) := ⟨rfl, rfl, rfl, by decide +kernel, rfl, by decide +kernel, by decide +kernel⟩
theorem ok_score_of {P : Program} {w : World} {K : PySem.W.Frag} {mg : Str → Option Value} {base : Heap} (TT : Top K mg)  : Ok P w K mg base 1 "score_of" ["shares"] [] (sp_score_of K) := by
  refine TT.ok (d := d_score_of) 25 25 rfl rfl rfl rfl rfl sc_score_of (fun _ _ _ _ _ _ us hl => match us, hl with | [_], _ => rfl) (fun vs H Q E h => ?_) (fun cdv A outer s H vs Q E hr h => ?_)
  · obtain ⟨p, ns, rfl, _⟩ := h; rfl
  · obtain ⟨p, ns, rfl, hp, lim, k⟩ := h
    refine ⟨_, (pss_cons (ps_set (i := 1) sc_score_of.nd rfl (Or.inl rfl) pe_int)
  (pss_cons (ps_set (i := 2) sc_score_of.nd rfl (Or.inl rfl) pe_int)
  (pss_cons (ps_for PassesOwn.never rfl (wList K (pv 0)) (pg_name (i := 3) sc_score_of.nd rfl (Or.inl rfl) (Or.inr rfl)) (pss_one (ps_if (pt_cmpR op_gt (pv 3) pe_int (nomark _)) (pss_cons (ps_aug (i := 1) sc_score_of.nd rfl (Or.inl rfl) pe_int ip_add)
  (pss_one (ps_aug (i := 2) sc_score_of.nd rfl (Or.inl rfl) (pv 3) ip_mul))) pss_nil)))
  (pss_one (ps_ret (pe_tup (pa_cons (pv 1) (pa_cons (pv 2) pa_nil)))))))), ?_⟩
    refine q_asg ev_c fun H1 e1 => q_asg ev_c fun H2 e2 => ?_
    refine q_forLn (xs := intsV ns) (ev_var rfl) (ex_l (e1.trans e2) hp) (fun m σ' H' => ∃ v, σ' = [some (.ref p), some (.int (cntL (ns.take m))), some (.int (prdL (ns.take m))), v] ∧ Ex H H') (fun H3 e3 => ⟨none, rfl, (e1.trans e2).trans e3⟩) (fun m σ' H' _ ⟨_, _, e⟩ => ex_l e hp) (fun m x σ' H' hx pr => ?_) (fun σ' H' pr => ?_)
    · obtain ⟨v, rfl, ex⟩ := pr
      obtain ⟨x, hy, rfl⟩ := intsV_at hx
      clear hx
      have hx := hy
      obtain ⟨x0, x1⟩ := lim x (List.mem_of_getElem? hx)
      refine s_when (et_test (ev_op (ev_var rfl) ev_c rv_I0)) (fun z H3 e3 => ?_) (fun z H3 e3 => ?_)
      · have z := of_decide_eq_true z
        refine q_aug rfl ev_c fun H4 e4 => s_augC (C := CMul) (f := fun i j => i * j) (x := prdL (ns.take m)) (y := x) rfl (ev_var rfl) (.inr ⟨by omega, by omega⟩) fun H5 e5 => ⟨some (.int x), ?_, ((ex.trans e3).trans e4).trans e5⟩
        rw [take_at hx, cntL_app, prdL_app]
        unfold c1 q1
        rw [if_pos z, if_pos z]
        rfl
      · have z := of_decide_eq_false z
        refine ⟨some (.int x), ?_, ex.trans e3⟩
        rw [take_at hx, cntL_app, prdL_app]
        unfold c1 q1
        rw [if_neg z, if_neg z, Int.add_zero, Int.mul_one]
        rfl
    · obtain ⟨v, rfl, ex⟩ := pr
      rw [intsV_len, List.take_length]
      exact s_retU (eu_tup (ea_cons (ev_var rfl) (ea_cons (ev_var rfl) ea_nil)) (by show 2 ≤ 100000; decide)) fun p H3 hp e3 h3 => k p H3 (fresh_back ex hp) (ex.trans e3) h3
theorem drop_sum : ∀ (row : List Int) (k : Nat), (row.drop k).sum = S row.length fun t => if t < k then 0 else row.getD t 0 := fun row k => by
  have gen : ∀ m, m ≤ row.length → ((row.take m).drop k).sum = S m fun t => if t < k then 0 else row.getD t 0 := fun m => by
    induction m with
    | zero => intro _; simp [S]
    | succ m ih =>
      intro hm
      rw [take_at (getD_at (d := 0) (by omega)), List.drop_append, List.sum_append, ih (by omega), S_succ, List.length_take, Nat.min_eq_left (by omega)]
      by_cases q : m < k
      · rw [if_pos q, List.drop_eq_nil_of_le (by rw [List.length_singleton]; omega)]
        rfl
      · rw [if_neg q, show k - m = 0 by omega]
        simp
  have z := gen row.length (Nat.le_refl _)
  rwa [List.take_length] at z
theorem hope_zero {T : List (List Int)} {n i : Nat} {row : List Int} (c : List Nat) (e : T[i]? = some row) (hl : row.length = n) : (row.drop c.length).sum = hopeM (wt T) n c 0 i := by
  rw [drop_sum, hl]
  refine S_congr fun t ht => ?_
  have w : wt T i t = row.getD t 0 := by
    unfold wt
    rw [List.getD_eq_getElem?_getD (l := T), e]
    rfl
  by_cases q : t < c.length
  · rw [if_pos q, if_pos q, if_neg (Nat.not_lt_zero _)]
  · rw [if_neg q, if_neg q, w]
theorem hope_lim {T : List (List Int)} {h n : Nat} (o : TabOk T h n) (c : List Nat) (m i : Nat) : 0 ≤ hopeM (wt T) n c m i ∧ hopeM (wt T) n c m i ≤ 100000000000000 := by
  have p := wt_pos o
  refine ⟨S_nonneg fun t _ => ?_, ?_⟩
  · have := p i t
    split
    · split
      · split <;> omega
      · omega
    · omega
  · have z : hopeM (wt T) n c m i ≤ S n fun _ => 1000000000000 := S_le fun t _ => by
      have a := p i t
      have b := wt_big o i t
      split
      · split
        · split <;> omega
        · omega
      · omega
    rw [S_const] at z
    have := o.n12
    omega
def sp_hope_of (K : PySem.W.Frag) : Sp := fun vs H Q _ => ∃ a t T h n c, vs = [.ref a, .ref t] ∧ GT K H a T h n ∧ SqT K H t (natsV c) ∧ c.length ≤ n ∧ (∀ x, x ∈ c → x < h) ∧ RetU [.int (hopeSc (wt T) n h c).1, .int (hopeSc (wt T) n h c).2] H Q
abbrev N_hope_of : List Str := ["table", "case", "shares", "thing", "hand", "row"]
theorem sc_hope_of : FnScope N_hope_of ["table", "case"] (defScope s_hope_of) := ⟨rfl, rfl, rfl, by decide +kernel, rfl, by decide +kernel, by decide +kernel⟩
theorem ok_hope_of {P : Program} {w : World} {K : PySem.W.Frag} {mg : Str → Option Value} {base : Heap} (TT : Top K mg) (O_score_of : Ok P w K mg base 1 "score_of" ["shares"] [] (sp_score_of K)) : Ok P w K mg base 2 "hope_of" ["table", "case"] [] (sp_hope_of K) := by
  refine TT.ok (d := d_hope_of) 26 26 rfl rfl rfl rfl rfl sc_hope_of (fun _ _ _ _ _ _ us hl => match us, hl with | [_, _], _ => rfl) (fun vs H Q E h => ?_) (fun cdv A outer s H vs Q E hr h => ?_)
  · obtain ⟨a, t, T, h, n, c, rfl, _⟩ := h; rfl
  · obtain ⟨a, t, T, h, n, c, rfl, g, ht, cl, lt, k⟩ := h
    refine ⟨_, (pss_cons (ps_setLc (i := 2) (own := [("row", 5)]) rfl sc_hope_of.nd rfl rfl (sw_true rfl rfl rfl (by decide +kernel)) (wList K (pv 0)) (blkOk_by (N := N_hope_of) (sc := defScope s_hope_of) (by decide +kernel)) (fun _ _ _ _ _ => (pg_name (i := 5) sc_hope_of.nd rfl (Or.inl rfl) (Or.inr rfl))) (fun _ _ _ _ _ => pts_nil) (fun _ _ _ _ _ => (cSum K (TT.free 72) (pa_cons (pe_slice (slL K) (pv 5) (po_some (cLen K (TT.free 70) (pa_cons (pv 1) pa_nil))) po_none) pa_nil))))
  (pss_cons (ps_for PassesOwn.never rfl (wEnumT K (TT.free 77) (pa_cons (pv 1) pa_nil)) (gT2 K (n := 2) (pgs_cons (pg_name (i := 3) sc_hope_of.nd rfl (Or.inl rfl) (Or.inr rfl)) (pgs_cons (pg_name (i := 4) sc_hope_of.nd rfl (Or.inl rfl) (Or.inr rfl)) pgs_nil))) (pss_one (ps_augS (pv 2) (pv 4) (getL K) (pe_ix (ixL K) (pe_ix (ixL K) (pv 0) (pv 4) (fun _ _ => rfl)) (pv 3) (fun _ _ => rfl)) ip_add set_list)))
  (pss_one (ps_ret (pe_cl O_score_of (hr.mono (by decide)) rfl (pa_cons (pv 2) pa_nil)))))), ?_⟩
    have h4 := g.2.h4
    have n12 := g.2.n12
    obtain ⟨⟨rs, g1, g2, g3⟩, o⟩ := id g
    have rl : rs.length = h := by rw [g2, o.len]
    have hw := wk_list (K := K) (j := 5) (tl := tVar 0) (σ := [some (.ref a), some (.ref t), none, none, none, none]) (H := H) (ev_var rfl) g1
    rw [List.length_map, rl] at hw
    have z := el_lc (tt := tYes) (te := tCB (rSum K) (tCons (tSl (rSlL K) (tVar 5) (tPart (tCB (rLenS K) (tCons (tVar 1) tNil))) tNoPart) tNil)) (vs := [5]) (fun _ => true) (fun i => .int (hopeM (wt T) n c 0 i)) hw (by omega) (fun _ => rfl) (fun i H3 e3 hi => et_yes rfl) (fun i H3 e3 hi _ => by
      have hi1 : i < rs.length := by omega
      have hi2 : i < T.length := by rw [← g2]; exact hi1
      have r1 := g3 i rs[i] T[i] (List.getElem?_eq_getElem hi1) (List.getElem?_eq_getElem hi2)
      have er : (rs.map V.ref).getD i .non = .ref rs[i] := by
        rw [List.getD_eq_getElem?_getD, List.getElem?_map, List.getElem?_eq_getElem hi1]
        rfl
      have rowl := o.rows T[i] (List.getElem_mem hi2)
      have lc := ev_lenT (σ := [some (.ref a), some (.ref t), none, none, none, some ((rs.map V.ref).getD i .non)]) (ta := tVar 1) (ev_var rfl) (ex_t e3 ht)
      rw [natsV_len] at lc
      have dr := el_drop (K := K) (ta := tVar 5) (σ := [some (.ref a), some (.ref t), none, none, none, some ((rs.map V.ref).getD i .non)]) (ev_is (ev_var rfl) er) (ex_l e3 r1) lc
      have ed : (intsV T[i]).drop c.length = intsV (T[i].drop c.length) := by unfold intsV; rw [List.map_drop]
      rw [ed] at dr
      exact ev_is (ev_sumN dr) (by rw [hope_zero c (List.getElem?_eq_getElem hi2) rowl]))
    rw [kept_all] at z
    have e0 : (List.range h).map (fun i => V.int (hopeM (wt T) n c 0 i)) = intsV ((List.range h).map (hopeM (wt T) n c 0)) := by
      unfold intsV
      rw [List.map_map]
      rfl
    rw [e0] at z
    refine q_asgL z fun ps H1 np e1 hps => ?_
    refine q_forEnumT (j1 := 3) (j2 := 4) (a := t) (xs := natsV c) (ea_cons (ev_var rfl) ea_nil) (ex_t e1 ht) (fun m σ' H' => ∃ v3 v4, σ' = [some (.ref a), some (.ref t), some (.ref ps), v3, v4, none] ∧ Ex H H' ∧ H' ps = some (.lst (intsV ((List.range h).map (hopeM (wt T) n c m)))))
      (fun H2 e2 => ⟨none, none, rfl, e1.trans e2, e2 ps _ hps⟩) (fun m σ' H' _ ⟨_, _, _, e, _⟩ => ex_t e ht) (fun m x σ' H' hx pr t' nt => ?_) (fun σ' H' pr => ?_)
    · obtain ⟨v3, v4, rfl, ex, hps⟩ := pr
      obtain ⟨x, hy, rfl⟩ := natsV_at hx
      clear hx
      have hx := hy
      have mx := lt x (List.mem_of_getElem? hx)
      have lm := (List.getElem?_eq_some_iff.mp hx).1
      have et : Ex H' (upd H' t' (.tup [.int (m : Int), .int (x : Int)])) := Ex.new nt
      have at0 : (intsV ((List.range h).map (hopeM (wt T) n c m)))[x]? = some (.int (hopeM (wt T) n c m x)) := intsV_get (by rw [List.getElem?_map, List.getElem?_range mx]; rfl)
      refine s_augS (f := fun i j => i + j) (et ps _ hps) (ev_var rfl) (ev_var rfl) at0 (ev_cell (g.mono (ex.trans et)) mx (show m < n by omega) (ev_var rfl) (ev_var rfl) (ev_var rfl)) fun H2 e2 => ⟨_, _, rfl, Ex.mut ((ex.trans et).trans e2) np, ?_⟩
      rw [upd_same]
      have es : (intsV ((List.range h).map (hopeM (wt T) n c m))).set x (.int (hopeM (wt T) n c m x + wt T x m)) = intsV ((List.range h).map (hopeM (wt T) n c (m + 1))) := by
        unfold intsV
        rw [List.map_map, List.map_map]
        refine List.ext_getElem? fun i => ?_
        rw [List.getElem?_set, List.length_map, List.length_range]
        by_cases q : x = i
        · subst q
          rw [if_pos rfl, if_pos mx, List.getElem?_map, List.getElem?_range mx]
          show some (V.int _) = some (V.int (hopeM (wt T) n c (m + 1) x))
          rw [hopeM_step hx cl, if_pos rfl]
        · rw [if_neg q, List.getElem?_map, List.getElem?_map]
          by_cases hi : i < h
          · rw [List.getElem?_range hi]
            show some (V.int (hopeM (wt T) n c m i)) = some (V.int (hopeM (wt T) n c (m + 1) i))
            rw [hopeM_step hx cl, if_neg q, Int.add_zero]
          · rw [List.getElem?_eq_none (by rw [List.length_range]; omega)]
            rfl
      rw [es]
    · obtain ⟨v3, v4, rfl, ex, hps⟩ := pr
      rw [natsV_len] at hps
      have lim : ∀ x, x ∈ (List.range h).map (hopeM (wt T) n c c.length) → 0 ≤ x ∧ x ≤ 100000000000000 := fun x m => by
        obtain ⟨i, _, rfl⟩ := List.mem_map.mp m
        exact hope_lim o c c.length i
      have y := eu_callU (sp := sp_score_of K) (dvs := []) (E := E0) (xs := [.int (hopeSc (wt T) n h c).1, .int (hopeSc (wt T) n h c).2]) (σ := [some (.ref a), some (.ref t), some (.ref ps), v3, v4, none]) (H := H') (ta := tCons (tVar 2) tNil) (ea_cons (ev_var rfl) ea_nil) fun H3 e3 Q q => ⟨ps, _, rfl, sq_of (e3 ps _ hps), lim, by
        rw [cntL_F, prdL_F]
        exact q⟩
      exact s_retU y fun p H3 hp e3 h3 => k p H3 (fresh_back ex hp) (ex.trans e3) h3
/-- a case -/
def cE (K : PySem.W.Frag) (c : List Nat) (v : V) (H : Hp) : Prop := ∃ t, v = .ref t ∧ SqT K H t (natsV c)
theorem cE_mono (K : PySem.W.Frag) (c : List Nat) : Mono (cE K c) := fun v H H' e ⟨t, ev, h⟩ => ⟨t, ev, ex_t e h⟩
def CsAt (K : PySem.W.Frag) (cs : List (List Nat)) (v : V) (H : Hp) : Prop := ∃ a ys, v = .ref a ∧ H a = some (.lst ys) ∧ Pd (cE K) cs ys H
theorem cs_upd {K : PySem.W.Frag} {cs : List (List Nat)} {ys : List V} {H : Hp} {l : Addr} {xs : List V} {o : HO} (hl : H l = some (.lst xs)) (h : Pd (cE K) cs ys H) : Pd (cE K) cs ys (upd H l o) := Paired.mapP h fun p v ⟨t, ev, ht⟩ => ⟨t, ev, sqt_upd hl ht⟩
theorem further_len {h : Nat} {c : List Nat} : (further h c).length = h := by
  unfold further
  rw [List.length_map, List.length_range]
def sp_further_cases (K : PySem.W.Frag) : Sp := fun vs H Q _ => ∃ a t T h n c, vs = [.ref a, .ref t] ∧ GT K H a T h n ∧ SqT K H t (natsV c) ∧ c.length ≤ 12 ∧ RetP (CsAt K (further h c)) H Q
abbrev N_further_cases : List Str := ["table", "case", "hand"]
theorem sc_further_cases : FnScope N_further_cases ["table", "case"] (defScope s_further_cases) := ⟨rfl, rfl, rfl, by decide +kernel, rfl, by decide +kernel, by decide +kernel⟩
theorem ok_further_cases {P : Program} {w : World} {K : PySem.W.Frag} {mg : Str → Option Value} {base : Heap} (TT : Top K mg)  : Ok P w K mg base 1 "further_cases" ["table", "case"] [] (sp_further_cases K) := by
  refine TT.ok (d := d_further_cases) 30 30 rfl rfl rfl rfl rfl sc_further_cases (fun _ _ _ _ _ _ us hl => match us, hl with | [_, _], _ => rfl) (fun vs H Q E h => ?_) (fun cdv A outer s H vs Q E hr h => ?_)
  · obtain ⟨a, t, T, h, n, c, rfl, _⟩ := h; rfl
  · obtain ⟨a, t, T, h, n, c, rfl, g, ht, cl, k⟩ := h
    refine ⟨_, (pss_one (ps_ret (pe_lc (own := [("hand", 2)]) rfl sc_further_cases.nd (pi_range3 rfl (TT.free 71) (pa_cons (pe_op op_sub (cLen K (TT.free 70) (pa_cons (pv 0) pa_nil)) pe_int) (pa_cons (pe_un un_neg pe_int) (pa_cons (pe_un un_neg pe_int) pa_nil)))) (blkOk_by (N := N_further_cases) (sc := defScope s_further_cases) (by decide +kernel)) (fun _ _ _ _ _ => (pg_name (i := 2) sc_further_cases.nd rfl (Or.inl rfl) (Or.inr rfl))) (fun _ _ _ _ _ => pts_nil) (fun _ _ _ _ _ => (pe_op (catA K) (pv 1) (pe_tup (pa_cons (pv 2) pa_nil))))))), ?_⟩
    have h4 := g.2.h4
    obtain ⟨rs, g1, g2⟩ := g.len
    have hl := ev_len (σ := [some (.ref a), some (.ref t), none]) (ta := tVar 0) (ev_var rfl) g1
    rw [List.length_map, g2] at hl
    have hw := wk_down (j := 2) (n := h) (σ := [some (.ref a), some (.ref t), none]) (ea_cons (ev_sub hl ev_c) (ea_cons (ev_un ev_c ru_neg) (ea_cons (ev_un ev_c ru_neg) ea_nil))) (by omega)
    refine s_retP (R := CsAt K (further h c)) (en_ep (fun v H H' e ⟨a, ys, h1, h2, h3⟩ => ⟨a, ys, h1, e a _ h2, h3.mono (cE_mono K) e⟩) ((en_lc (vs := [2]) (E := cE K) (fun _ => true) (fun i => c ++ [h - 1 - i]) (cE_mono K) hw (by omega) (fun _ => rfl) (fun i H1 e1 hi => et_yes rfl) (fun i H1 e1 hi _ => ?_)).imp ?_)) k
    · refine (en_catA (ev_var rfl) (ex_t e1 ht) (eu_tup (vs := [.int ((h - 1 - i : Nat) : Int)]) (ea_cons (ev_var rfl) ea_nil) (by show 1 ≤ 100000; decide)) (by rw [natsV_len]; omega)).imp fun v N ⟨u, ev, hu⟩ => ⟨u, ev, st_of ?_⟩
      rw [hu, natsV_app]
    · rintro v N ⟨b, ys, h1, h2, h3⟩
      rw [kept_all] at h3
      exact ⟨b, ys, h1, h2, h3⟩
end Lk

namespace Lk
open PySem PySem.Spec PyProof.Rows L2 Evl LE
/-! ### products -/
section
variable {K : PySem.W.Frag} {H : Hp} {σ : L2.St} {ta tb tc te : TE} {a t p q : Addr} {xs : List V} {E : XK} {T : List (List Int)} {h n : Nat} {c : List Nat} {x1 x2 y1 y2 : Int} {R : V → Hp → Prop}
theorem c_hope (g : GT K H a T h n) (ht : SqT K H t (natsV c)) (cl : c.length ≤ n) (lt : ∀ x, x ∈ c → x < h) (e1 : Ev ta σ H (.ref a)) (e2 : Ev tb σ H (.ref t)) : EvU (tCall (sp_hope_of K) [] E (tCons ta (tCons tb tNil))) σ H [.int (hopeSc (wt T) n h c).1, .int (hopeSc (wt T) n h c).2] :=
  eu_callU (ea_cons e1 (ea_cons e2 ea_nil)) fun H1 e Q k => ⟨a, t, T, h, n, c, rfl, g.mono e, ex_t e ht, cl, lt, k⟩
theorem c_further (g : GT K H a T h n) (ht : SqT K H t (natsV c)) (cl : c.length ≤ 12) (e1 : Ev ta σ H (.ref a)) (e2 : Ev tb σ H (.ref t)) : EvP (tCall (sp_further_cases K) [] E (tCons ta (tCons tb tNil))) σ H (CsAt K (further h c)) :=
  ep_callP (ea_cons e1 (ea_cons e2 ea_nil)) fun H1 e Q k => ⟨a, t, T, h, n, c, rfl, g.mono e, ex_t e ht, cl, k⟩
theorem pair_pLt (a b c d : Int) : pairLt a b c d = pLt a b c d := rfl
theorem rv_gtP (h1 : SqT K H p [.int x1, .int x2]) (h2 : SqT K H q [.int y1, .int y2]) : RV (rGtP K) (.ref p) (.ref q) H (.bl (pLt y1 y2 x1 x2)) := fun H1 e Q k => ⟨p, q, x1, x2, y1, y2, rfl, rfl, ex_t e h1, ex_t e h2, k H1 (Ex.refl _)⟩
theorem rv_leP (h1 : SqT K H p [.int x1, .int x2]) (h2 : SqT K H q [.int y1, .int y2]) : RV (rLeP K) (.ref p) (.ref q) H (.bl (!pLt y1 y2 x1 x2)) := fun H1 e Q k => ⟨p, q, x1, x2, y1, y2, rfl, rfl, ex_t e h1, ex_t e h2, k H1 (Ex.refl _)⟩
/-- a tuple of a new list and something -/
theorem ep_tup2 (m : Mono R) (h1 : EvL ta σ H xs) (h2 : ∀ H1, Ex H H1 → EvP tb σ H1 R) : EvP (tTup (tCons ta (tCons tb tNil))) σ H (fun v H2 => ∃ t p x, v = .ref t ∧ H2 t = some (.tup [.ref p, x]) ∧ H2 p = some (.lst xs) ∧ R x H2) := fun H1 e Q k =>
  h1 H1 e _ fun p H2 np e2 hp => h2 H2 (e.trans e2) H2 (Ex.refl _) _ fun x H3 e3 r => ⟨by show 2 ≤ sizeLine; decide, fun t nt => k _ _ ((e2.trans e3).trans (Ex.new nt)) ⟨t, p, x, rfl, upd_same, Ex.new nt p _ (e3 p _ hp), m _ _ _ (Ex.new nt) r⟩⟩
end
theorem pd_concat {K : PySem.W.Frag} {H : Hp} (c : List Nat) : ∀ (ws : List (List Nat)) (zs : List V), Paired (fun x v => cE K x v H) (ws ++ [c]) zs → ∃ ys' y, zs = ys' ++ [y] ∧ Paired (fun x v => cE K x v H) ws ys' ∧ cE K c y H := by
  intro ws
  induction ws with
  | nil =>
    intro zs h
    cases h with
    | cons r t => cases t; exact ⟨[], _, rfl, .nil, r⟩
  | cons w ws ih =>
    intro zs h
    cases h with
    | cons r t =>
      obtain ⟨ys', y, e, p, q⟩ := ih _ t
      exact ⟨_ :: ys', y, by rw [e]; rfl, .cons r p, q⟩
theorem pd_split {K : PySem.W.Frag} {H : Hp} {ws : List (List Nat)} {ys : List V} (h : Pd (cE K) ws ys H) (l : 0 < ws.length) : ∃ ws' c ys' y, ws = ws' ++ [c] ∧ ys = ys' ++ [y] ∧ Pd (cE K) ws' ys' H ∧ cE K c y H := by
  have e : ws = ws.dropLast ++ [ws.getLast (List.length_pos_iff.mp l)] := (List.dropLast_concat_getLast _).symm
  generalize ws.getLast (List.length_pos_iff.mp l) = c at e
  generalize ws.dropLast = ws' at e
  subst e
  obtain ⟨ys', y, e, p, q⟩ := pd_concat c ws' ys h
  exact ⟨ws', c, ys', y, rfl, e, p, q⟩
theorem nn_lim {h n : Nat} (h1 : 1 ≤ h) (n12 : n ≤ 12) (few : h ^ n ≤ 100) : NN h n ≤ 1300 := by
  have a := NN_le h1 n
  have b : (n + 1) * h ^ n ≤ 13 * 100 := Nat.mul_le_mul (by omega) few
  omega
def sp_paper_by (K : PySem.W.Frag) : Sp := fun vs H Q _ => ∃ a p T h n, ∃ sc : Int × Int, vs = [.ref a, .ref p] ∧ GT K H a T h n ∧ SqT K H p [.int sc.1, .int sc.2] ∧ h ^ n ≤ 100 ∧ (∀ ds, FullD n h ds → NotUp sc (dealSc (wt T) n h ds)) ∧ RetP (fun _ _ => True) H Q
abbrev N_paper_by : List Str := ["table", "score", "cases", "waiting", "case"]
theorem sc_paper_by : FnScope N_paper_by ["table", "score"] (defScope s_paper_by) := ⟨rfl, rfl, rfl, by decide +kernel, rfl, by decide +kernel, by decide +kernel⟩
theorem ok_paper_by {P : Program} {w : World} {K : PySem.W.Frag} {mg : Str → Option Value} {base : Heap} (TT : Top K mg) (O_hope_of : Ok P w K mg base 2 "hope_of" ["table", "case"] [] (sp_hope_of K)) (O_further_cases : Ok P w K mg base 1 "further_cases" ["table", "case"] [] (sp_further_cases K)) : Ok P w K mg base 3 "paper_by" ["table", "score"] [] (sp_paper_by K) := by
  refine TT.ok (d := d_paper_by) 31 31 rfl rfl rfl rfl rfl sc_paper_by (fun _ _ _ _ _ _ us hl => match us, hl with | [_, _], _ => rfl) (fun vs H Q E h => ?_) (fun cdv A outer s H vs Q E hr h => ?_)
  · obtain ⟨a, p, T, h, n, sc, rfl, _⟩ := h; rfl
  · obtain ⟨a, p, T, h, n, sc, rfl, g, hp, few, top, k⟩ := h
    refine ⟨_, (pss_cons (ps_set (i := 2) sc_paper_by.nd rfl (Or.inl rfl) (pe_lst pa_nil))
  (pss_cons (ps_set (i := 3) sc_paper_by.nd rfl (Or.inl rfl) (pe_lst (pa_cons (pe_tup pa_nil) pa_nil)))
  (pss_cons (ps_while PassesOwn.never (pt_cmpR op_gt (cLen K (TT.free 70) (pa_cons (pv 3) pa_nil)) pe_int (nomark _)) (pss_cons (ps_set (i := 4) sc_paper_by.nd rfl (Or.inl rfl) (eBM0 K PySem.F.plainAttrs_list PySem.F.slot_list_pop PySem.F.type_list_pop mt_pop (pv 3)))
  (pss_one (ps_if (pt_cmpR (leP K hr.units) (pe_cl O_hope_of (hr.mono (by decide)) rfl (pa_cons (pv 0) (pa_cons (pv 4) pa_nil))) (pv 1) (nomark _)) (pss_one (ps_expr (eBM K PySem.F.plainAttrs_list PySem.F.slot_list_append PySem.F.type_list_append mt_append (pv 2) (pa_cons (pv 4) pa_nil)))) (pss_one (ps_expr (eBM K PySem.F.plainAttrs_list PySem.F.slot_list_extend PySem.F.type_list_extend mt_extend (pv 3) (pa_cons (pe_cl O_further_cases (hr.mono (by decide)) rfl (pa_cons (pv 0) (pa_cons (pv 4) pa_nil))) pa_nil))))))))
  (pss_one (ps_ret (pv 2)))))), ?_⟩
    have h4 := g.2.h4
    have n12 := g.2.n12
    have lim := nn_lim g.2.h1 n12 few
    refine q_asgL (el_lst ea_nil (by decide)) fun ac H1 nac e1 hac => ?_
    refine q_asg1U (eu_tup ea_nil (by decide)) fun aw t0 H2 naw' nt e2 haw2 ht0 => ?_
    have ex2 : Ex H H2 := e1.trans e2
    have naw : H aw = none := fresh_back e1 naw'
    have hac2 := e2 ac _ hac
    have d1 : ac ≠ aw := ne_of_none hac naw'
    refine q_while (fun m σ' H' => ∃ ws ys cs v4, σ' = [some (.ref a), some (.ref p), some (.ref ac), some (.ref aw), v4] ∧ Ex H H' ∧ H' ac = some (.lst cs) ∧ H' aw = some (.lst ys) ∧ Pd (cE K) ws ys H' ∧ (∀ c, c ∈ ws → c.length ≤ n ∧ ∀ x, x ∈ c → x < h) ∧ m = mes h n ws ∧ cs.length + m ≤ NN h n) (NN h n)
      ⟨[[]], [.ref t0], [], none, rfl, ex2, hac2, haw2, .cons ⟨t0, rfl, st_of ht0⟩ .nil, fun c m => by rw [List.mem_singleton.mp m]; exact ⟨Nat.zero_le _, fun x m => absurd m List.not_mem_nil⟩, by rw [mes_one]; rfl, by simp⟩ ?_
    rintro m σ' H3 ⟨ws, ys, cs, v4, rfl, ex3, hac3, haw3, pd, sub, rfl, cl⟩
    have wl := mes_len (h := h) (n := n) ws
    have yl := pd.length
    refine ⟨decide ((0 : Int) < (ys.length : Int)), et_test (ev_op (ev_lenA (ev_var rfl) haw3) ev_c rv_I0), fun hb H4 e4 => ?_, fun hb H4 e4 => ?_⟩
    · have hb := of_decide_eq_true hb
      refine ⟨_, fun σ2 H2' N => N, ?_⟩
      obtain ⟨ws', c, ys', y, rfl, rfl, pd', t, rfl, ht⟩ := pd_split (pd.mono (cE_mono K) e4) (by omega)
      have me := mes_app (h := h) (n := n) ws' [c]
      rw [mes_one] at me
      have np := NN_pos h (n - c.length)
      obtain ⟨c1, c2⟩ := sub c (List.mem_append_right _ (List.mem_singleton.mpr rfl))
      refine q_asgPop (e4 aw _ haw3) (ev_var rfl) fun H5 e5 => ?_
      have ex5 : Ex H (upd H5 aw (.lst ys')) := Ex.mut ((ex3.trans e4).trans e5) naw
      have haw5 : upd H5 aw (.lst ys') aw = some (.lst ys') := upd_same
      have hac5 : upd H5 aw (.lst ys') ac = some (.lst cs) := by rw [upd_ne d1]; exact e5 ac _ (e4 ac _ hac3)
      have ht5 : SqT K (upd H5 aw (.lst ys')) t (natsV c) := sqt_upd (e5 aw _ (e4 aw _ haw3)) (ex_t e5 ht)
      have pd5 : Pd (cE K) ws' ys' (upd H5 aw (.lst ys')) := cs_upd (e5 aw _ (e4 aw _ haw3)) (pd'.mono (cE_mono K) e5)
      generalize upd H5 aw (.lst ys') = H6 at *
      have zz := ev_opU1 (r := rLeP K) (z := .bl (!pLt sc.1 sc.2 (hopeSc (wt T) n h c).1 (hopeSc (wt T) n h c).2)) (c_hope (E := E0) (ta := tVar 0) (tb := tVar 4) (σ := [some (.ref a), some (.ref p), some (.ref ac), some (.ref aw), some (.ref t)]) (g.mono ex5) ht5 c1 c2 (ev_var rfl) (ev_var rfl)) (fun H1 e => ev_var (i := 1) (v := .ref p) rfl) fun u H1 hu e => rv_leP (st_of hu) (ex_t (ex5.trans e) hp)
      refine s_if (et_test zz) (fun hb H7 e7 => ?_) (fun hb H7 e7 => ?_)
      · refine s_app (xs := cs) (e7 ac _ hac5) (ev_var rfl) (ev_var rfl) (by omega) fun H8 e8 => ⟨mes h n ws', by omega, ws', ys', _, _, rfl, Ex.mut ((ex5.trans e7).trans e8) nac, upd_same, by rw [upd_ne d1.symm]; exact e8 aw _ (e7 aw _ haw5), cs_upd (e8 ac _ (e7 ac _ hac5)) (pd5.mono (cE_mono K) (e7.trans e8)), fun c m => sub c (List.mem_append_left _ m), rfl, ?_⟩
        rw [List.length_append, List.length_singleton]
        omega
      · have up : pLt sc.1 sc.2 (hopeSc (wt T) n h c).1 (hopeSc (wt T) n h c).2 = true := by
          cases q : pLt sc.1 sc.2 (hopeSc (wt T) n h c).1 (hopeSc (wt T) n h c).2 with
          | true => rfl
          | false => rw [q] at hb; cases hb
        have lt : c.length < n := by
          refine Classical.byContradiction fun ng => ?_
          have el : c.length = n := by omega
          have z := top c ⟨el, c2⟩
          rw [← hope_is el] at z
          unfold NotUp at z
          rw [z] at up
          cases up
        have mf := mes_further (h := h) lt
        have ma := mes_app (h := h) (n := n) ws' (further h c)
        refine s_ext (G := fun zs H2 => Pd (cE K) (further h c) zs H2) (e7 aw _ haw5) (ev_var rfl) ((c_further (g.mono (ex5.trans e7)) (ex_t e7 ht5) (by omega) (ev_var rfl) (ev_var rfl)).imp fun v H' ⟨b, zs, h1, h2, h3⟩ => ⟨b, zs, h1, h2, by have := h3.length; rw [further_len] at this; omega, h3⟩) (by have := pd'.length; have := mes_len (h := h) (n := n) ws'; omega) fun zs H8 e8 haw8 gz => ⟨mes h n (ws' ++ further h c), by omega, ws' ++ further h c, ys' ++ zs, cs, _, rfl, Ex.mut ((ex5.trans e7).trans e8) naw, ?_, upd_same, ?_, ?_, rfl, by omega⟩
        · rw [upd_ne d1]; exact e8 ac _ (e7 ac _ hac5)
        · exact cs_upd haw8 ((pd5.mono (cE_mono K) (e7.trans e8)).append gz)
        · intro d md
          rcases List.mem_append.mp md with z | z
          · exact sub d (List.mem_append_left _ z)
          · obtain ⟨i, mi, rfl⟩ := List.mem_map.mp z
            have := List.mem_range.mp mi
            refine ⟨by rw [List.length_append, List.length_singleton]; omega, fun x mx => ?_⟩
            rcases List.mem_append.mp mx with w | w
            · exact c2 x w
            · rw [List.mem_singleton.mp w]; omega
    · exact s_ret (ev_var rfl) fun H5 e5 => k _ H5 ((ex3.trans e4).trans e5) trivial
def ProdD (T : List (List Int)) (h : Nat) (ds : List Nat) : Prop := ProdTop (wt T) ds.length h (Dn ds)
theorem prod_of {T : List (List Int)} {n h : Nat} {ds : List Nat} (f : FullD n h ds) (top : ∀ es, FullD n h es → NotUp (dealSc (wt T) n h ds) (dealSc (wt T) n h es)) : ProdD T h ds := by
  intro E W
  rw [f.1] at W ⊢
  obtain ⟨es, l1, l2, l3⟩ := whole_ds W
  have z := top es ⟨l1, l2⟩
  have e : (fun i => shr (wt T) n E i) = fun i => shr (wt T) n (Dq es) i := funext fun i => (val_congr l3).symm
  rw [e]
  exact z
def sp_by_product (K : PySem.W.Frag) : Sp := fun vs H Q _ => ∃ a T h n, vs = [.ref a] ∧ GT K H a T h n ∧ h ^ n ≤ 100 ∧ RetP (DealT h n (ProdD T h)) H Q
abbrev N_by_product : List Str := ["table", "score", "best", "waiting", "case", "hope"]
theorem sc_by_product : FnScope N_by_product ["table"] (defScope s_by_product) := ⟨rfl, rfl, rfl, by decide +kernel, rfl, by decide +kernel, by decide +kernel⟩
theorem ok_by_product {P : Program} {w : World} {K : PySem.W.Frag} {mg : Str → Option Value} {base : Heap} (TT : Top K mg) (O_check_few : Ok P w K mg base 2 "check_few" ["hands", "things"] [] (sp_check_few K)) (O_hope_of : Ok P w K mg base 2 "hope_of" ["table", "case"] [] (sp_hope_of K)) (O_paper_by : Ok P w K mg base 3 "paper_by" ["table", "score"] [] (sp_paper_by K)) (O_further_cases : Ok P w K mg base 1 "further_cases" ["table", "case"] [] (sp_further_cases K)) : Ok P w K mg base 4 "by_product" ["table"] [] (sp_by_product K) := by
  refine TT.ok (d := d_by_product) 32 32 rfl rfl rfl rfl rfl sc_by_product (fun _ _ _ _ _ _ us hl => match us, hl with | [_], _ => rfl) (fun vs H Q E h => ?_) (fun cdv A outer s H vs Q E hr h => ?_)
  · obtain ⟨a, T, h, n, rfl, _⟩ := h; rfl
  · obtain ⟨a, T, h, n, rfl, g, few, k⟩ := h
    refine ⟨_, (pss_cons (ps_expr (pe_cl O_check_few (hr.mono (by decide)) rfl (pa_cons (cLen K (TT.free 70) (pa_cons (pv 0) pa_nil)) (pa_cons (cLen K (TT.free 70) (pa_cons (pe_ix (ixL K) (pv 0) pe_int (fun _ _ => rfl)) pa_nil)) pa_nil))))
  (pss_cons (ps_set (i := 1) sc_by_product.nd rfl (Or.inl rfl) (pe_tup (pa_cons (pe_un un_neg pe_int) (pa_cons pe_int pa_nil))))
  (pss_cons (ps_set (i := 2) sc_by_product.nd rfl (Or.inl rfl) (pe_tup pa_nil))
  (pss_cons (ps_set (i := 3) sc_by_product.nd rfl (Or.inl rfl) (pe_lst (pa_cons (pe_tup pa_nil) pa_nil)))
  (pss_cons (ps_while PassesOwn.never (pt_cmpR op_gt (cLen K (TT.free 70) (pa_cons (pv 3) pa_nil)) pe_int (nomark _)) (pss_cons (ps_set (i := 4) sc_by_product.nd rfl (Or.inl rfl) (eBM0 K PySem.F.plainAttrs_list PySem.F.slot_list_pop PySem.F.type_list_pop mt_pop (pv 3)))
  (pss_cons (ps_set (i := 5) sc_by_product.nd rfl (Or.inl rfl) (pe_cl O_hope_of (hr.mono (by decide)) rfl (pa_cons (pv 0) (pa_cons (pv 4) pa_nil))))
  (pss_one (ps_if (pt_cmpR (gtP K hr.units) (pv 5) (pv 1) (nomark _)) (pss_one (ps_if (pt_cmpR op_eq (cLen K (TT.free 70) (pa_cons (pv 4) pa_nil)) (cLen K (TT.free 70) (pa_cons (pe_ix (ixL K) (pv 0) pe_int (fun _ _ => rfl)) pa_nil)) (nomark _)) (pss_cons (ps_set (i := 1) sc_by_product.nd rfl (Or.inl rfl) (pv 5))
  (pss_one (ps_set (i := 2) sc_by_product.nd rfl (Or.inl rfl) (pv 4)))) (pss_one (ps_expr (eBM K PySem.F.plainAttrs_list PySem.F.slot_list_extend PySem.F.type_list_extend mt_extend (pv 3) (pa_cons (pe_cl O_further_cases (hr.mono (by decide)) rfl (pa_cons (pv 0) (pa_cons (pv 4) pa_nil))) pa_nil)))))) pss_nil)))))
  (pss_one (ps_ret (pe_tup (pa_cons (cListOf K (TT.free 76) (pa_cons (pv 2) pa_nil)) (pa_cons (pe_cl O_paper_by (hr.mono (by decide)) rfl (pa_cons (pv 0) (pa_cons (pv 1) pa_nil))) pa_nil)))))))))), ?_⟩
    have h4 := g.2.h4
    have n12 := g.2.n12
    have lim := nn_lim g.2.h1 n12 few
    have lenT : ∀ σ' H', Ex H H' → σ'[0]? = some (some (V.ref a)) → Ev (tCB (rLenS K) (tCons (tVar 0) tNil)) σ' H' (.int (h : Int)) := fun σ' H' e z => by
      obtain ⟨rs, g1, g2⟩ := (g.mono e).len
      exact ev_is (ev_len (ev_var z) g1) (by rw [List.length_map, g2])
    have lenR : ∀ σ' H', Ex H H' → σ'[0]? = some (some (V.ref a)) → Ev (tCB (rLenS K) (tCons (tOp (rIxL K) (tVar 0) (tC (.int 0))) tNil)) σ' H' (.int (n : Int)) := fun σ' H' e z => by
      obtain ⟨rs', r, row, r1, r2, r3, r4, r5⟩ := (g.mono e).row (i := 0) g.2.h1
      exact ev_is (ev_len (ev_op (ev_var z) ev_c (rv_ixL r1 (atI_nat (j := 0) r2))) r5) (by rw [intsV_len, g.2.rows row r4])
    refine q_drop (c_few h4 n12 (by omega) (lenT _ _ (Ex.refl _) rfl) (lenR _ _ (Ex.refl _) rfl)) fun H1 e1 => ?_
    refine q_asgU (eu_tup (ea_cons (ev_un ev_c ru_neg) (ea_cons ev_c ea_nil)) (by show 2 ≤ 100000; decide)) fun ps H2 np e2 hps => ?_
    refine q_asgU (eu_tup ea_nil (by decide)) fun pb H3 nb e3 hpb => ?_
    refine q_asg1U (eu_tup ea_nil (by decide)) fun aw t0 H4 naw' nt ex4 haw4 ht0 => ?_
    have naw : H aw = none := fresh_back ((e1.trans e2).trans e3) naw'
    have ex04 := ((e1.trans e2).trans e3).trans ex4
    refine q_while (fun m σ' H' => ∃ ps pb ws ys v4 v5 best, ∃ sc : Int × Int, σ' = [some (.ref a), some (.ref ps), some (.ref pb), some (.ref aw), v4, v5] ∧ Ex H H' ∧ SqT K H' ps [.int sc.1, .int sc.2] ∧ SqT K H' pb (natsV best) ∧ H' aw = some (.lst ys) ∧ Pd (cE K) ws ys H' ∧ BB (wt T) n h sc ws ∧ Found (wt T) n h sc best ∧ m = mes h n ws ∧ m ≤ NN h n) (NN h n)
      ⟨ps, pb, [[]], [.ref t0], none, none, [], (-1, 0), rfl, ex04, st_of (ex4 ps _ (e3 ps _ hps)), st_of (ex4 pb _ hpb), haw4, .cons ⟨t0, rfl, st_of ht0⟩ .nil, bb_start, .inl rfl, by rw [mes_one]; rfl, Nat.le_refl _⟩ ?_
    rintro m σ' H5 ⟨ps, pb, ws, ys, v4, v5, best, sc, rfl, ex5, hps5, hpb5, haw5, pd, B, F, rfl, cl⟩
    have wl := mes_len (h := h) (n := n) ws
    have yl := pd.length
    refine ⟨decide ((0 : Int) < (ys.length : Int)), et_test (ev_op (ev_lenA (ev_var rfl) haw5) ev_c rv_I0), fun hb H6 e6 => ?_, fun hb H6 e6 => ?_⟩
    · have hb := of_decide_eq_true hb
      refine ⟨_, fun σ2 H2' N => N, ?_⟩
      obtain ⟨ws', c, ys', y, rfl, rfl, pd', t, rfl, ht⟩ := pd_split (pd.mono (cE_mono K) e6) (by omega)
      have me := mes_app (h := h) (n := n) ws' [c]
      rw [mes_one] at me
      have np := NN_pos h (n - c.length)
      obtain ⟨c1, c2⟩ := B.sub c (List.mem_append_right _ (List.mem_singleton.mpr rfl))
      refine q_asgPop (e6 aw _ haw5) (ev_var rfl) fun H7 e7 => ?_
      have haw7' := e7 aw _ (e6 aw _ haw5)
      have ex8 : Ex H (upd H7 aw (.lst ys')) := Ex.mut ((ex5.trans e6).trans e7) naw
      have haw8 : upd H7 aw (.lst ys') aw = some (.lst ys') := upd_same
      have ht8 : SqT K (upd H7 aw (.lst ys')) t (natsV c) := sqt_upd haw7' (ex_t e7 ht)
      have hps8 : SqT K (upd H7 aw (.lst ys')) ps [.int sc.1, .int sc.2] := sqt_upd haw7' (ex_t (e6.trans e7) hps5)
      have hpb8 : SqT K (upd H7 aw (.lst ys')) pb (natsV best) := sqt_upd haw7' (ex_t (e6.trans e7) hpb5)
      have pd8 : Pd (cE K) ws' ys' (upd H7 aw (.lst ys')) := cs_upd haw7' (pd'.mono (cE_mono K) e7)
      generalize upd H7 aw (.lst ys') = H8 at *
      refine q_asgU (c_hope (g.mono ex8) ht8 c1 c2 (ev_var rfl) (ev_var rfl)) fun ph H9 nph e9 hph => ?_
      refine s_when (et_test (ev_op (ev_var rfl) (ev_var rfl) (rv_gtP (st_of hph) (ex_t e9 hps8)))) (fun up H10 e10 => ?_) (fun no H10 e10 => ?_)
      · have e810 := e9.trans e10
        have lc := ev_lenT (σ := [some (.ref a), some (.ref ps), some (.ref pb), some (.ref aw), some (.ref t), some (.ref ph)]) (ta := tVar 4) (ev_var rfl) (ex_t e810 ht8)
        rw [natsV_len] at lc
        refine s_if (et_test (ev_op lc (lenR _ _ (ex8.trans e810) rfl) (rv_eq rfl))) (fun hz H11 e11 => ?_) (fun hz H11 e11 => ?_)
        · have hz := of_decide_eq_true hz
          have el : c.length = n := by injection hz with hz; omega
          refine q_asg (ev_var rfl) fun H12 e12 => s_asg (ev_var rfl) fun H13 e13 => ?_
          have e := ((e810.trans e11).trans e12).trans e13
          refine ⟨mes h n ws', by omega, ph, t, ws', ys', _, _, c, hopeSc (wt T) n h c, rfl, ex8.trans e, st_of (e13 ph _ (e12 ph _ (e11 ph _ (e10 ph _ hph)))), ex_t e ht8, e aw _ haw8, pd8.mono (cE_mono K) e, bb_full (wt_pos g.2) B up, .inr ⟨⟨el, c2⟩, hope_is el⟩, rfl, by omega⟩
        · have hz := of_decide_eq_false hz
          have lt : c.length < n := by
            rcases Nat.lt_or_ge c.length n with z | z
            · exact z
            · exact absurd (by rw [show c.length = n by omega]) hz
          have mf := mes_further (h := h) lt
          have ma := mes_app (h := h) (n := n) ws' (further h c)
          have e811 := e810.trans e11
          refine s_ext (G := fun zs H2 => Pd (cE K) (further h c) zs H2) (e811 aw _ haw8) (ev_var rfl) ((c_further (g.mono (ex8.trans e811)) (ex_t e811 ht8) (by omega) (ev_var rfl) (ev_var rfl)).imp fun v H' ⟨b, zs, h1, h2, h3⟩ => ⟨b, zs, h1, h2, by have := h3.length; rw [further_len] at this; omega, h3⟩) (by have := pd'.length; have := mes_len (h := h) (n := n) ws'; omega) fun zs H12 e12 haw12 gz => ?_
          have e := e811.trans e12
          exact ⟨mes h n (ws' ++ further h c), by omega, ps, pb, ws' ++ further h c, ys' ++ zs, _, _, best, sc, rfl, Ex.mut (ex8.trans e) naw, sqt_upd haw12 (ex_t e hps8), sqt_upd haw12 (ex_t e hpb8), upd_same, cs_upd haw12 ((pd8.mono (cE_mono K) e).append gz), bb_more B lt, F, rfl, by omega⟩
      · have e := e9.trans e10
        exact ⟨mes h n ws', by omega, ps, pb, ws', ys', _, _, best, sc, rfl, ex8.trans e, ex_t e hps8, ex_t e hpb8, e aw _ haw8, pd8.mono (cE_mono K) e, bb_drop (wt_pos g.2) B no, F, rfl, by omega⟩
    · have hb := of_decide_eq_false hb
      have w0 : ws = [] := List.length_eq_zero_iff.mp (by omega)
      subst w0
      have top := bb_end B
      obtain ⟨f, top2⟩ := found_end g.2.h1 top F
      have ex6 := ex5.trans e6
      refine s_retP (ep_tup2 (R := fun _ _ => True) (fun _ _ _ _ z => z) (el_listT (ev_var rfl) (ex_t e6 hpb5)) fun H7 e7 => ep_callP (vs := [.ref a, .ref ps]) (ea_cons (ev_var rfl) (ea_cons (ev_var rfl) ea_nil)) fun H8 e8 Q q => ⟨a, ps, T, h, n, sc, rfl, g.mono ((ex6.trans e7).trans e8), ex_t ((e6.trans e7).trans e8) hps5, few, top, q⟩) fun v H7 e7 ⟨t, p, x, ev, h1, h2, _⟩ => k v H7 (ex6.trans e7) ⟨t, _, x, ev, h1, p, best, rfl, h2, f.1, f.2, prod_of f top2⟩
end Lk

namespace Lk
open PySem PySem.Spec PyProof.Rows L2 Evl LE
/-! ### ratios -/
/-- a list that stands, new or not -/
def EvW (te : TE) (σ : L2.St) (H : Hp) (xs : List V) : Prop := ∀ H1, Ex H H1 → ∀ Q : VK, (∀ p H2, Ex H1 H2 → H2 p = some (.lst xs) → Q (.ref p) H2) → te σ H1 Q
section
variable {K : PySem.W.Frag} {H : Hp} {σ : L2.St} {ta tb tc td te : TE} {a l : Addr} {xs ys : List V} {E : XK} {D : Ends} {T : List (List Int)} {h n : Nat} {us ts : List Nat}
theorem ew_l (h : EvL te σ H xs) : EvW te σ H xs := fun H1 e Q q => h H1 e Q fun p H2 _ e2 hp => q p H2 e2 hp
theorem ew_v (h : Ev te σ H (.ref l)) (hl : H l = some (.lst xs)) : EvW te σ H xs := fun H1 e Q q => h H1 e Q fun H2 e2 => q l H2 e2 (e2 l _ (e l _ hl))
theorem el_catW (h1 : EvW ta σ H xs) (h2 : EvW tb σ H ys) (hn : xs.length + ys.length ≤ 100000) : EvL (tOp rCat ta tb) σ H (xs ++ ys) := fun H1 e Q q =>
  h1 H1 e _ fun l H2 e2 hl => h2 H2 (e.trans e2) _ fun b H3 e3 hb => ⟨l, b, xs, ys, rfl, rfl, e3 l _ hl, hb, sz_of hn, fun p hp => q p _ (fresh_back (e2.trans e3) hp) ((e2.trans e3).trans (Ex.new hp)) upd_same⟩
/-- xs.insert(j, v) -/
theorem s_insert {j : Nat} {v : V} (hl : H l = some (.lst xs)) (ha : Ev ta σ H (.ref l)) (h1 : Ev tb σ H (.int (j : Int))) (h2 : Ev tc σ H v) (hz : xs.length < 100000) (hj : j ≤ 1000) (k : ∀ H1, Ex H H1 → D.nx σ (upd H1 l (.lst (xs.take j ++ [v] ++ xs.drop j)))) :
    tDrop (tBM K "list" (fun x vs H Q => ∃ (l : Addr) (xs : List V) (i : Int) (y : V), x = .ref l ∧ vs = [.int i, y] ∧ H l = some (.lst xs) ∧ xs.length < sizeLine ∧ 0 ≤ i ∧ i < 2 ^ 63 ∧ Q .non (upd H l (.lst (xs.take i.toNat ++ [y] ++ xs.drop i.toNat)))) ta (tCons tb (tCons tc tNil))) D σ H :=
  ha H (Ex.refl H) _ fun H1 e1 => ⟨Or.inl ⟨rfl, _, sq_of (e1 l _ hl)⟩, h1 H1 e1 _ fun H2 e2 => h2 H2 (e1.trans e2) _ fun H3 e3 => ⟨l, xs, (j : Int), v, rfl, rfl, ((e1.trans e2).trans e3) l _ hl, sz_lt hz, by omega, by omega, k H3 ((e1.trans e2).trans e3)⟩⟩
theorem ins_nats (us : List Nat) (x j : Nat) : (natsV us).take j ++ [V.int (x : Int)] ++ (natsV us).drop j = natsV (us.take j ++ [x] ++ us.drop j) := by
  unfold natsV
  rw [List.map_append, List.map_append, List.map_take, List.map_drop]
  rfl
theorem ins_perm2 (us : List Nat) (x j : Nat) : (us.take j ++ [x] ++ us.drop j).Perm (us ++ [x]) := by
  have z : (us.take j ++ [x] ++ us.drop j).Perm (us.take j ++ us.drop j ++ [x]) := by
    rw [List.append_assoc, List.append_assoc]
    exact List.Perm.append_left _ List.perm_append_comm
  rwa [List.take_append_drop] at z
end
def aheadB (T : List (List Int)) (s t : Nat) : Bool := decide (wt T 0 t * wt T 1 s < wt T 0 s * wt T 1 t)
def sp_comes_ahead (K : PySem.W.Frag) : Sp := fun vs H Q _ => ∃ a T n, ∃ s t : Nat, vs = [.ref a, .int (s : Int), .int (t : Int)] ∧ GT K H a T 2 n ∧ s < n ∧ t < n ∧ RetV (.bl (aheadB T s t)) H Q
abbrev N_comes_ahead : List Str := ["table", "one", "other"]
theorem sc_comes_ahead : FnScope N_comes_ahead ["table", "one", "other"] (defScope s_comes_ahead) := ⟨rfl, rfl, rfl, by decide +kernel, rfl, by decide +kernel, by decide +kernel⟩
theorem ok_comes_ahead {P : Program} {w : World} {K : PySem.W.Frag} {mg : Str → Option Value} {base : Heap} (TT : Top K mg)  : Ok P w K mg base 1 "comes_ahead" ["table", "one", "other"] [] (sp_comes_ahead K) := by
  refine TT.ok (d := d_comes_ahead) 33 33 rfl rfl rfl rfl rfl sc_comes_ahead (fun _ _ _ _ _ _ us hl => match us, hl with | [_, _, _], _ => rfl) (fun vs H Q E h => ?_) (fun cdv A outer s H vs Q E hr h => ?_)
  · obtain ⟨a, T, n, s, t, rfl, _⟩ := h; rfl
  · obtain ⟨a, T, n, s', t, rfl, g, hs, ht, k⟩ := h
    refine ⟨_, (pss_one (ps_ret (pe_cmpR op_gt (pe_op op_mul (pe_ix (ixL K) (pe_ix (ixL K) (pv 0) pe_int (fun _ _ => rfl)) (pv 1) (fun _ _ => rfl)) (pe_ix (ixL K) (pe_ix (ixL K) (pv 0) pe_int (fun _ _ => rfl)) (pv 2) (fun _ _ => rfl))) (pe_op op_mul (pe_ix (ixL K) (pe_ix (ixL K) (pv 0) pe_int (fun _ _ => rfl)) (pv 2) (fun _ _ => rfl)) (pe_ix (ixL K) (pe_ix (ixL K) (pv 0) pe_int (fun _ _ => rfl)) (pv 1) (fun _ _ => rfl))) (nomark _)))), ?_⟩
    have cell : ∀ (i u : Nat) (tt : TE), i < 2 → u < n → Ev tt [some (.ref a), some (.int (s' : Int)), some (.int (t : Int))] H (.int (u : Int)) → Ev (tOp (rIxL K) (tOp (rIxL K) (tVar 0) (tC (.int (i : Int)))) tt) [some (.ref a), some (.int (s' : Int)), some (.int (t : Int))] H (.int (wt T i u)) := fun i u tt hi hu e => ev_cell g hi hu (ev_var rfl) ev_c e
    have cm : ∀ i u j v, CMul (wt T i u) (wt T j v) := fun i u j v => .inl ⟨by have := wt_pos g.2 i u; omega, by have := wt_big g.2 i u; omega⟩
    exact s_ret (ev_op (ev_op (cell 0 s' _ (by omega) hs (ev_var rfl)) (cell 1 t _ (by omega) ht (ev_var rfl)) (rv_I (cm _ _ _ _))) (ev_op (cell 0 t _ (by omega) ht (ev_var rfl)) (cell 1 s' _ (by omega) hs (ev_var rfl)) (rv_I (cm _ _ _ _))) rv_I0) k
section
variable {K : PySem.W.Frag} {H : Hp} {σ : L2.St} {ta tb tc td te : TE} {a l : Addr} {xs ys : List V} {E : XK} {D : Ends} {T : List (List Int)} {h n s t : Nat} {us ts : List Nat}
theorem c_ahead (g : GT K H a T 2 n) (hs : s < n) (ht : t < n) (e1 : Ev ta σ H (.ref a)) (e2 : Ev tb σ H (.int (s : Int))) (e3 : Ev tc σ H (.int (t : Int))) : Ev (tCall (sp_comes_ahead K) [] E (tCons ta (tCons tb (tCons tc tNil)))) σ H (.bl (aheadB T s t)) :=
  ev_callV (ea_cons e1 (ea_cons e2 (ea_cons e3 ea_nil))) fun H1 e Q k => ⟨a, T, n, s, t, rfl, g.mono e, hs, ht, k⟩
end
/-- ts by falling ratios -/
def FallOf (T : List (List Int)) (ts us : List Nat) : Prop := us.Perm ts ∧ us.Pairwise (Fal (wt T))
def sp_by_falling (K : PySem.W.Frag) : Sp := fun vs H Q _ => ∃ a l T n ts, vs = [.ref a, .ref l] ∧ GT K H a T 2 n ∧ SqL K H l (natsV ts) ∧ (∀ t, t ∈ ts → t < n ∧ 0 < wt T 1 t) ∧ ts.length ≤ 40 ∧ RetP (NatsAt (FallOf T ts)) H Q
abbrev N_by_falling : List Str := ["table", "things", "found", "thing", "at"]
theorem sc_by_falling : FnScope N_by_falling ["table", "things"] (defScope s_by_falling) := ⟨rfl, rfl, rfl, by decide +kernel, rfl, by decide +kernel, by decide +kernel⟩
theorem ok_by_falling {P : Program} {w : World} {K : PySem.W.Frag} {mg : Str → Option Value} {base : Heap} (TT : Top K mg) (O_comes_ahead : Ok P w K mg base 1 "comes_ahead" ["table", "one", "other"] [] (sp_comes_ahead K)) : Ok P w K mg base 2 "by_falling" ["table", "things"] [] (sp_by_falling K) := by
  refine TT.ok (d := d_by_falling) 34 34 rfl rfl rfl rfl rfl sc_by_falling (fun _ _ _ _ _ _ us hl => match us, hl with | [_, _], _ => rfl) (fun vs H Q E h => ?_) (fun cdv A outer s H vs Q E hr h => ?_)
  · obtain ⟨a, l, T, n, ts, rfl, _⟩ := h; rfl
  · obtain ⟨a, l, T, n, ts, rfl, g, hl, lt, l40, k⟩ := h
    refine ⟨_, (pss_cons (ps_set (i := 2) sc_by_falling.nd rfl (Or.inl rfl) (pe_lst pa_nil))
  (pss_cons (ps_for PassesOwn.never rfl (wList K (pv 1)) (pg_name (i := 3) sc_by_falling.nd rfl (Or.inl rfl) (Or.inr rfl)) (pss_cons (ps_set (i := 4) sc_by_falling.nd rfl (Or.inl rfl) (cLen K (TT.free 70) (pa_cons (pv 2) pa_nil)))
  (pss_cons (ps_while PassesOwn.never (PW.pt (pw_and (pt_cmpR op_gt (pv 4) pe_int (nomark _)) (pw_and1 (pt_val (pe_cl O_comes_ahead (hr.mono (by decide)) rfl (pa_cons (pv 0) (pa_cons (pv 3) (pa_cons (pe_ix (ixL K) (pv 2) (pe_op op_sub (pv 4) pe_int) (fun _ _ => rfl)) pa_nil)))))))) (pss_one (ps_aug (i := 4) sc_by_falling.nd rfl (Or.inl rfl) pe_int ip_sub)))
  (pss_one (ps_expr (eBM K PySem.F.plainAttrs_list PySem.F.slot_list_insert PySem.F.type_list_insert mt_insert (pv 2) (pa_cons (pv 4) (pa_cons (pv 3) pa_nil))))))))
  (pss_one (ps_ret (pv 2))))), ?_⟩
    refine q_asgL (el_lst ea_nil (by decide)) fun af H1 naf e1 haf => ?_
    refine q_forLn (xs := natsV ts) (ev_var rfl) (ex_l e1 hl) (fun m σ' H' => ∃ us v3 v4, σ' = [some (.ref a), some (.ref l), some (.ref af), v3, v4] ∧ Ex H H' ∧ H' af = some (.lst (natsV us)) ∧ us.Perm (ts.take m) ∧ us.Pairwise (Fal (wt T)))
      (fun H2 e2 => ⟨[], none, none, rfl, e1.trans e2, e2 af _ haf, .nil, .nil⟩) (fun m σ' H' _ ⟨_, _, _, _, e, _⟩ => ex_l e hl) (fun m x σ' H' hx pr => ?_) (fun σ' H' pr => ?_)
    · obtain ⟨us, v3, v4, rfl, ex, hf, pm, pw⟩ := pr
      obtain ⟨x, hy, rfl⟩ := natsV_at hx
      clear hx
      have hx := hy
      obtain ⟨xn, xb⟩ := lt x (List.mem_of_getElem? hx)
      have um : ∀ t, t ∈ us → t < n ∧ 0 < wt T 1 t := fun t mt => lt t (List.mem_of_mem_take (pm.mem_iff.mp mt))
      have ul : us.length ≤ 40 := by
        have := pm.length_eq
        rw [List.length_take] at this
        omega
      refine q_asg (v := .int ((us.length : Nat) : Int)) (ev_is (ev_lenA (ev_var rfl) hf) (by rw [natsV_len])) fun H2 e2 => ?_
      refine q_while (fun m' σ' H' => ∃ at_ : Nat, σ' = [some (.ref a), some (.ref l), some (.ref af), some (.int (x : Int)), some (.int (at_ : Int))] ∧ Ex H H' ∧ H' af = some (.lst (natsV us)) ∧ at_ ≤ us.length ∧ m' = at_ ∧ ∀ k t, at_ ≤ k → us[k]? = some t → Fal (wt T) x t) us.length
        ⟨us.length, rfl, ex.trans e2, e2 af _ hf, Nat.le_refl _, rfl, fun k t hk e => by rw [List.getElem?_eq_none hk] at e; cases e⟩ ?_
      rintro m' σ' H3 ⟨at_, rfl, ex3, hf3, al, rfl, rt⟩
      by_cases a0 : m' = 0
      · subst a0
        refine ⟨false, et_is (et_and (b := false) (et_test (ev_op (ev_var rfl) ev_c rv_I0)) (fun z => by simp at z)) (by simp), fun z => (nomatch z), fun _ H4 e4 => ?_⟩
        refine s_insert (xs := natsV us) (j := 0) (e4 af _ hf3) (ev_var rfl) (ev_var rfl) (ev_var rfl) (by rw [natsV_len]; omega) (by omega) fun H5 e5 => ⟨us.take 0 ++ [x] ++ us.drop 0, _, _, rfl, Ex.mut ((ex3.trans e4).trans e5) naf, ?_, ?_, ?_⟩
        · rw [upd_same, ins_nats]
        · rw [take_at hx]
          exact (ins_perm2 us x 0).trans (pm.append_right [x])
        · exact fal_insert (wt_pos g.2) (fun t mt => (um t mt).2) pw (Nat.zero_le _) (fun k t hk e => rt k t hk e) fun t z => absurd z (by omega)
      · have lu : m' - 1 < us.length := by omega
        have mu := um _ (getD_mem (d := 0) lu)
        refine ⟨aheadB T x (us.getD (m' - 1) 0), et_is (et_and (et_test (ev_op (ev_var rfl) ev_c rv_I0)) (fun _ => et_B (c_ahead (g.mono ex3) xn mu.1 (ev_var rfl) (ev_var rfl) (ev_op (ev_var rfl) (ev_is (w := .int ((m' - 1 : Nat) : Int)) (ev_sub (ev_var rfl) ev_c) (by congr 1; omega)) (rv_ixL (sq_of hf3) (atI_nat (natsV_get (getD_at lu)))))))) (by rw [decide_eq_true (by omega)]; rfl), fun hb H4 e4 => ?_, fun hb H4 e4 => ?_⟩
        · have hb := of_decide_eq_true hb
          refine ⟨_, fun σ2 H2' N => N, s_aug rfl ev_c fun H5 e5 => ⟨m' - 1, by omega, m' - 1, ?_, (ex3.trans e4).trans e5, e5 af _ (e4 af _ hf3), by omega, rfl, fun k t hk e => ?_⟩⟩
          · show [some (V.ref a), some (V.ref l), some (V.ref af), some (V.int (x : Int)), some (V.int ((m' : Int) - 1))] = _
            rw [show ((m' - 1 : Nat) : Int) = (m' : Int) - 1 by omega]
          · by_cases q : k = m' - 1
            · subst q
              rw [getD_at (d := 0) lu] at e
              cases e
              unfold Fal
              omega
            · exact rt k t (by omega) e
        · have hb := of_decide_eq_false hb
          refine s_insert (xs := natsV us) (j := m') (e4 af _ hf3) (ev_var rfl) (ev_var rfl) (ev_var rfl) (by rw [natsV_len]; omega) (by omega) fun H5 e5 => ⟨us.take m' ++ [x] ++ us.drop m', _, _, rfl, Ex.mut ((ex3.trans e4).trans e5) naf, ?_, ?_, ?_⟩
          · rw [upd_same, ins_nats]
          · rw [take_at hx]
            exact (ins_perm2 us x m').trans (pm.append_right [x])
          · refine fal_insert (wt_pos g.2) (fun t mt => (um t mt).2) pw al (fun k t hk e => rt k t hk e) fun t z e => ?_
            rw [getD_at (d := 0) lu] at e
            cases e
            unfold Fal
            omega
    · obtain ⟨us, v3, v4, rfl, ex, hf, pm, pw⟩ := pr
      rw [natsV_len, List.take_length] at pm
      exact s_ret (ev_var rfl) fun H5 e5 => k _ H5 (ex.trans e5) ⟨af, us, rfl, e5 af _ hf, pm, pw⟩
def cutD (n : Nat) (row : List Nat) (c : Nat) : List Nat := (List.range n).map fun t => if t ∈ row.take c then 0 else 1
theorem cutD_len {n c : Nat} {row : List Nat} : (cutD n row c).length = n := by
  unfold cutD
  rw [List.length_map, List.length_range]
theorem cutD_at {n c t : Nat} {row : List Nat} (ht : t < n) : Dn (cutD n row c) t = cutF row c t := by
  unfold Dn cutD cutF
  rw [List.getElem?_map, List.getElem?_range ht]
  rfl
def sp_cut_deal (K : PySem.W.Frag) : Sp := fun vs H Q _ => ∃ a l T h n row, ∃ c : Nat, vs = [.ref a, .ref l, .int (c : Int)] ∧ GT K H a T h n ∧ SqL K H l (natsV row) ∧ (∀ t, t ∈ row → t < n) ∧ RetL (natsV (cutD n row c)) H Q
abbrev N_cut_deal : List Str := ["table", "things", "cut", "deal", "thing"]
theorem sc_cut_deal : FnScope N_cut_deal ["table", "things", "cut"] (defScope s_cut_deal) := ⟨rfl, rfl, rfl, by decide +kernel, rfl, by decide +kernel, by decide +kernel⟩
theorem ok_cut_deal {P : Program} {w : World} {K : PySem.W.Frag} {mg : Str → Option Value} {base : Heap} (TT : Top K mg) (O_things_of : Ok P w K mg base 1 "things_of" ["table"] [] (sp_things_of K)) : Ok P w K mg base 2 "cut_deal" ["table", "things", "cut"] [] (sp_cut_deal K) := by
  refine TT.ok (d := d_cut_deal) 35 35 rfl rfl rfl rfl rfl sc_cut_deal (fun _ _ _ _ _ _ us hl => match us, hl with | [_, _, _], _ => rfl) (fun vs H Q E h => ?_) (fun cdv A outer s H vs Q E hr h => ?_)
  · obtain ⟨a, l, T, h, n, row, c, rfl, _⟩ := h; rfl
  · obtain ⟨a, l, T, h, n, row, c, rfl, g, hl, lt, k⟩ := h
    refine ⟨_, (pss_cons (ps_set (i := 3) sc_cut_deal.nd rfl (Or.inl rfl) (pe_op op_rep (pe_lst (pa_cons pe_int pa_nil)) (pe_cl O_things_of (hr.mono (by decide)) rfl (pa_cons (pv 0) pa_nil))))
  (pss_cons (ps_for PassesOwn.never rfl (wList K (pe_slice (slL K) (pv 1) po_none (po_some (pv 2)))) (pg_name (i := 4) sc_cut_deal.nd rfl (Or.inl rfl) (Or.inr rfl)) (pss_one (ps_asg pe_int (pg_sub (pv 3) (pv 4) set_list))))
  (pss_one (ps_ret (pv 3))))), ?_⟩
    have n12 := g.2.n12
    refine q_asgL (el_rep (n := n) ev_c (c_things g (ev_var rfl)) (by omega)) fun ad H1 nad e1 had => ?_
    have tk := el_take (K := K) (i := c) (ta := tVar 1) (tb := tVar 2) (σ := [some (.ref a), some (.ref l), some (.int (c : Int)), some (.ref ad), none]) (ev_var rfl) (ex_l e1 hl) (ev_var rfl)
    rw [natsV_take] at tk
    refine q_forNLn tk (fun p m σ' H' => ∃ ds v4, σ' = [some (.ref a), some (.ref l), some (.int (c : Int)), some (.ref ad), v4] ∧ Ex H H' ∧ H' ad = some (.lst (natsV ds)) ∧ H' p = some (.lst (natsV (row.take c))) ∧ p ≠ ad ∧ ds.length = n ∧ ∀ t, t < n → ds[t]? = some (if t ∈ (row.take c).take m then 0 else 1))
      (fun p H2 np e2 hp => ⟨List.replicate n 1, none, rfl, e1.trans e2, by rw [e2 ad _ had]; unfold natsV; rw [List.map_replicate]; rfl, hp, (ne_of_none had np).symm, List.length_replicate .., fun t ht => by rw [List.getElem?_replicate, if_pos ht]; simp⟩)
      (fun p m σ' H' _ ⟨_, _, _, _, _, h, _⟩ => sq_of h) (fun p m x σ' H' hx pr => ?_) (fun p σ' H' pr => ?_)
    · obtain ⟨ds, v4, rfl, ex, hd, hp, ne, dl, own⟩ := pr
      obtain ⟨x, hy, rfl⟩ := natsV_at hx
      have xn : x < n := lt x (List.mem_of_mem_take (List.mem_of_getElem? hy))
      refine s_setL (xs := natsV ds) (j := x) (v := .int ((0 : Nat) : Int)) hd ev_c (ev_var rfl) (ev_var rfl) (by rw [natsV_len]; omega) fun H3 e3 => ⟨ds.set x 0, _, rfl, Ex.mut (ex.trans e3) nad, ?_, ?_, ne, by rw [List.length_set]; exact dl, fun t ht => ?_⟩
      · rw [upd_same]
        unfold natsV
        rw [List.map_set]
      · rw [upd_ne ne]; exact e3 p _ hp
      · rw [List.getElem?_set]
        by_cases q : x = t
        · subst q
          rw [if_pos rfl, if_pos (by omega), if_pos (by rw [take_at hy]; exact List.mem_append_right _ (List.mem_singleton.mpr rfl))]
        · rw [if_neg q, own t ht]
          by_cases q2 : t ∈ (row.take c).take m
          · rw [if_pos q2, if_pos (by rw [take_at hy]; exact List.mem_append_left _ q2)]
          · rw [if_neg q2, if_neg fun z => by
              rw [take_at hy] at z
              rcases List.mem_append.mp z with z | z
              · exact q2 z
              · exact q (List.mem_singleton.mp z).symm]
    · obtain ⟨ds, v4, rfl, ex, hd, hp, ne, dl, own⟩ := pr
      rw [natsV_len, List.take_length] at own
      have e : ds = cutD n row c := by
        refine List.ext_getElem? fun t => ?_
        by_cases ht : t < n
        · rw [own t ht]
          unfold cutD
          rw [List.getElem?_map, List.getElem?_range ht]
          rfl
        · rw [List.getElem?_eq_none (by omega), List.getElem?_eq_none (by rw [cutD_len]; omega)]
      rw [e] at hd
      exact s_ret (ev_var rfl) fun H3 e3 => k ad H3 nad (ex.trans e3) (e3 ad _ hd)
end Lk

namespace Lk
open PySem PySem.Spec PyProof.Rows L2 Evl LE
/-! ### by ratios -/
theorem lsum_zero : ∀ L : List Nat, lsum (fun _ => (0 : Int)) L = 0
  | [] => rfl
  | x :: L => by rw [lsum_cons, lsum_zero L]; rfl
theorem part3 (p q r : Nat → Bool) : ∀ l : List Nat, (∀ x, x ∈ l → (p x = true ∧ q x = false ∧ r x = false) ∨ (p x = false ∧ q x = true ∧ r x = false) ∨ (p x = false ∧ q x = false ∧ r x = true)) → (l.filter p ++ l.filter q ++ l.filter r).Perm l
  | [], _ => .nil
  | x :: l, h => by
    have ih := part3 p q r l fun y m => h y (List.mem_cons_of_mem _ m)
    rcases h x List.mem_cons_self with ⟨a, b, c⟩ | ⟨a, b, c⟩ | ⟨a, b, c⟩
    · rw [List.filter_cons, List.filter_cons, List.filter_cons, if_pos a, if_neg (by rw [b]; decide), if_neg (by rw [c]; decide)]
      exact ih.cons x
    · rw [List.filter_cons, List.filter_cons, List.filter_cons, if_neg (by rw [a]; decide), if_pos b, if_neg (by rw [c]; decide), List.append_assoc]
      refine List.Perm.trans ?_ (ih.cons x)
      rw [List.append_assoc]
      exact List.perm_middle
    · rw [List.filter_cons, List.filter_cons, List.filter_cons, if_neg (by rw [a]; decide), if_neg (by rw [b]; decide), if_pos c]
      exact List.perm_middle.trans (ih.cons x)
theorem ef1_congr {w : Nat → Nat → Int} {n h : Nat} {D D' : Nat → Option Nat} (e : ∀ t, t < n → D t = D' t) (F : EF1 w n h D) : EF1 w n h D' := fun i j hi hj ne => by
  rcases F i j hi hj ne with a | ⟨g, hg, eg, v⟩
  · exact .inl fun t ht => by rw [← e t ht]; exact a t ht
  · exact .inr ⟨g, hg, by rw [← e g hg]; exact eg, by rw [← val_congr e, ← val_congr e]; exact v⟩
theorem best_congr {w : Nat → Nat → Int} {n h : Nat} {D D' : Nat → Option Nat} (e : ∀ t, t < n → D t = D' t) (B : Best w n h D) : Best w n h D' := fun E W le i hi => by
  have s : ∀ i, shr w n D i = shr w n D' i := fun i => val_congr e
  rw [← s i]
  exact B E W (fun i hi => by rw [s i]; exact le i hi) i hi
section
variable {K : PySem.W.Frag} {H : Hp} {σ : L2.St} {ta tb tc td te : TE} {a l : Addr} {xs ys : List V} {E : XK} {D : Ends} {T : List (List Int)} {h n i j : Nat} {ds row : List Nat}
theorem c_enviesN (g : GT K H a T h n) (hl : ds.length = n) (hi : i < h) (e1 : Ev ta σ H (.ref a)) (e2 : EvL tb σ H (natsV ds)) (e3 : Ev tc σ H (.int (i : Int))) (e4 : Ev td σ H (.int (j : Int))) : Ev (tCall (sp_envies K) [] E (tCons ta (tCons tb (tCons tc (tCons td tNil))))) σ H (.bl (envB T (ds.map some) (i, j))) := fun H1 x Q q =>
  e1 H1 x _ fun H2 x2 => e2 H2 (x.trans x2) _ fun p H3 _ x3 hp => e3 H3 ((x.trans x2).trans x3) _ fun H4 x4 => e4 H4 (((x.trans x2).trans x3).trans x4) _ fun H5 x5 => ⟨a, p, T, h, n, ds.map some, i, j, rfl, g.mono ((((x.trans x2).trans x3).trans x4).trans x5), by rw [opts_some]; exact sq_of (x5 p _ (x4 p _ hp)), by rw [List.length_map]; exact hl, hi, fun H6 x6 => q H6 ((((x2.trans x3).trans x4).trans x5).trans x6)⟩
theorem c_cut {c : Nat} (g : GT K H a T h n) (hl : SqL K H l (natsV row)) (lt : ∀ t, t ∈ row → t < n) (e1 : Ev ta σ H (.ref a)) (e2 : Ev tb σ H (.ref l)) (e3 : Ev tc σ H (.int (c : Int))) : EvL (tCall (sp_cut_deal K) [] E (tCons ta (tCons tb (tCons tc tNil)))) σ H (natsV (cutD n row c)) :=
  el_callL (ea_cons e1 (ea_cons e2 (ea_cons e3 ea_nil))) fun H1 e Q k => ⟨a, l, T, h, n, row, c, rfl, g.mono e, ex_l e hl, lt, k⟩
theorem ep_l (h : EvL te σ H xs) : EvP te σ H (fun _ _ => True) := fun H1 e Q q => h H1 e _ fun p H2 _ e2 _ => q _ H2 e2 trivial
end
theorem vl_cut (T : List (List Int)) (n c i j : Nat) (row : List Nat) : vl T ((cutD n row c).map some) i j = val (wt T) n (cutF row c) i j := by
  rw [vl_dn, cutD_len]
  exact val_congr fun t ht => cutD_at ht
/-- an unfair cut without envy of hand 0 -/
theorem unfair_at {T : List (List Int)} {n c : Nat} {row : List Nat} (o : TabOk T 2 n) (p : row.Perm (List.range n)) (f : fairB T 2 ((cutD n row c).map some) = false) (no : ¬ lsum (wt T 0) (row.take c) < lsum (wt T 0) (row.drop c)) :
    ∀ x, x ∈ row.take c → lsum (wt T 1) (row.drop c) < lsum (wt T 1) (row.take c) - wt T 1 x := by
  obtain ⟨i, j, hi, hj, ne, g, hg, eg, v, top⟩ := ef1_fair f
  rw [List.length_map, cutD_len] at hg top
  rcases (by omega : (i = 0 ∧ j = 1) ∨ (i = 1 ∧ j = 0)) with ⟨rfl, rfl⟩ | ⟨rfl, rfl⟩
  · rw [vl_cut, vl_cut, cut_val0 p, cut_val1 p] at v
    have := wt_pos o 0 g
    omega
  · rw [vl_cut, vl_cut, cut_val0 p, cut_val1 p] at v
    intro x mx
    have xn : x < n := List.mem_range.mp (p.mem_iff.mp (List.mem_of_mem_take mx))
    have z := top x xn (by rw [dl_some, cutD_at xn]; exact cut_own0.mpr mx)
    omega
def sp_by_ratios (K : PySem.W.Frag) : Sp := fun vs H Q _ => ∃ a T n, vs = [.ref a] ∧ GT K H a T 2 n ∧ RetP (DealT 2 n (fun ds => Fair1 T 2 ds ∧ BestD T 2 ds)) H Q
abbrev N_by_ratios : List Str := ["table", "things", "heads", "middle", "tails", "row", "cut", "edge", "thing"]
theorem sc_by_ratios : FnScope N_by_ratios ["table"] (defScope s_by_ratios) := ⟨rfl, rfl, rfl, by decide +kernel, rfl, by decide +kernel, by decide +kernel⟩
theorem ok_by_ratios {P : Program} {w : World} {K : PySem.W.Frag} {mg : Str → Option Value} {base : Heap} (TT : Top K mg) (O_by_falling : Ok P w K mg base 2 "by_falling" ["table", "things"] [] (sp_by_falling K)) (O_envies : Ok P w K mg base 5 "envies" ["table", "deal", "one", "other"] [] (sp_envies K)) (O_hands_of : Ok P w K mg base 1 "hands_of" ["table"] [] (sp_hands_of K)) (O_cut_deal : Ok P w K mg base 2 "cut_deal" ["table", "things", "cut"] [] (sp_cut_deal K)) (O_is_fair : Ok P w K mg base 7 "is_fair" ["table", "deal"] [] (sp_is_fair K)) (O_things_of : Ok P w K mg base 1 "things_of" ["table"] [] (sp_things_of K)) : Ok P w K mg base 8 "by_ratios" ["table"] [] (sp_by_ratios K) := by
  refine TT.ok (d := d_by_ratios) 36 36 rfl rfl rfl rfl rfl sc_by_ratios (fun _ _ _ _ _ _ us hl => match us, hl with | [_], _ => rfl) (fun vs H Q E h => ?_) (fun cdv A outer s H vs Q E hr h => ?_)
  · obtain ⟨a, T, n, rfl, _⟩ := h; rfl
  · obtain ⟨a, T, n, rfl, g, k⟩ := h
    refine ⟨_, (pss_cons (ps_if (pt_cmpR op_ne (pe_cl O_hands_of (hr.mono (by decide)) rfl (pa_cons (pv 0) pa_nil)) pe_int (nomark _)) (pss_one ps_never) pss_nil)
  (pss_cons (ps_set (i := 1) sc_by_ratios.nd rfl (Or.inl rfl) (pe_listRg rfl rfl (TT.free 76) (prg_1 rfl (TT.free 71) (pe_cl O_things_of (hr.mono (by decide)) rfl (pa_cons (pv 0) pa_nil)))))
  (pss_cons (ps_setLc (i := 2) (own := [("thing", 8)]) rfl sc_by_ratios.nd rfl rfl (sw_true rfl rfl rfl (by decide +kernel)) (wList K (pv 1)) (blkOk_by (N := N_by_ratios) (sc := defScope s_by_ratios) (by decide +kernel)) (fun _ _ _ _ _ => (pg_name (i := 8) sc_by_ratios.nd rfl (Or.inl rfl) (Or.inr rfl))) (fun _ _ _ _ _ => pts_one (pt_cmpR op_eq (pe_ix (ixL K) (pe_ix (ixL K) (pv 0) pe_int (fun _ _ => rfl)) (pv 8) (fun _ _ => rfl)) pe_int (nomark _))) (fun _ _ _ _ _ => (pv 8)))
  (pss_cons (ps_set (i := 3) sc_by_ratios.nd rfl (Or.inl rfl) (pe_cl O_by_falling (hr.mono (by decide)) rfl (pa_cons (pv 0) (pa_cons (pe_lc (own := [("thing", 8)]) rfl sc_by_ratios.nd (wList K (pv 1)) (blkOk_by (N := N_by_ratios) (sc := defScope s_by_ratios) (by decide +kernel)) (fun _ _ _ _ _ => (pg_name (i := 8) sc_by_ratios.nd rfl (Or.inl rfl) (Or.inr rfl))) (fun _ _ _ _ _ => pts_one (PW.pt (pw_and (pt_cmpR op_gt (pe_ix (ixL K) (pe_ix (ixL K) (pv 0) pe_int (fun _ _ => rfl)) (pv 8) (fun _ _ => rfl)) pe_int (nomark _)) (pw_and1 (pt_cmpR op_gt (pe_ix (ixL K) (pe_ix (ixL K) (pv 0) pe_int (fun _ _ => rfl)) (pv 8) (fun _ _ => rfl)) pe_int (nomark _)))))) (fun _ _ _ _ _ => (pv 8))) pa_nil))))
  (pss_cons (ps_setLc (i := 4) (own := [("thing", 8)]) rfl sc_by_ratios.nd rfl rfl (sw_true rfl rfl rfl (by decide +kernel)) (wList K (pv 1)) (blkOk_by (N := N_by_ratios) (sc := defScope s_by_ratios) (by decide +kernel)) (fun _ _ _ _ _ => (pg_name (i := 8) sc_by_ratios.nd rfl (Or.inl rfl) (Or.inr rfl))) (fun _ _ _ _ _ => pts_one (PW.pt (pw_and (pt_cmpR op_eq (pe_ix (ixL K) (pe_ix (ixL K) (pv 0) pe_int (fun _ _ => rfl)) (pv 8) (fun _ _ => rfl)) pe_int (nomark _)) (pw_and1 (pt_cmpR op_gt (pe_ix (ixL K) (pe_ix (ixL K) (pv 0) pe_int (fun _ _ => rfl)) (pv 8) (fun _ _ => rfl)) pe_int (nomark _)))))) (fun _ _ _ _ _ => (pv 8)))
  (pss_cons (ps_set (i := 5) sc_by_ratios.nd rfl (Or.inl rfl) (pe_op op_cat (pe_op op_cat (pv 2) (pv 3)) (pv 4)))
  (pss_cons (ps_set (i := 6) sc_by_ratios.nd rfl (Or.inl rfl) (cLen K (TT.free 70) (pa_cons (pv 2) pa_nil)))
  (pss_cons (ps_while PassesOwn.never (pt_val (pe_cl O_envies (hr.mono (by decide)) rfl (pa_cons (pv 0) (pa_cons (pe_cl O_cut_deal (hr.mono (by decide)) rfl (pa_cons (pv 0) (pa_cons (pv 5) (pa_cons (pv 6) pa_nil)))) (pa_cons pe_int (pa_cons pe_int pa_nil)))))) (pss_one (ps_aug (i := 6) sc_by_ratios.nd rfl (Or.inl rfl) pe_int ip_add)))
  (Evl.pss_cut (ps_if (pt_not (pt_val (pe_cl O_is_fair (hr.mono (by decide)) rfl (pa_cons (pv 0) (pa_cons (pe_cl O_cut_deal (hr.mono (by decide)) rfl (pa_cons (pv 0) (pa_cons (pv 5) (pa_cons (pv 6) pa_nil)))) pa_nil))))) (pss_one (ps_aug (i := 6) sc_by_ratios.nd rfl (Or.inl rfl) pe_int ip_sub)) pss_nil)
  (pss_cons (ps_if (pt_cmpR (eqD K hr.units) (pv 3) (pe_lst pa_nil) (nomark _)) (pss_one (ps_ret (pe_tup (pa_cons (pe_cl O_cut_deal (hr.mono (by decide)) rfl (pa_cons (pv 0) (pa_cons (pv 5) (pa_cons (pv 6) pa_nil)))) (pa_cons (pe_lst (pa_cons pe_int (pa_cons pe_int pa_nil))) pa_nil))))) pss_nil)
  (pss_cons (ps_set (i := 7) sc_by_ratios.nd rfl (Or.inl rfl) (pe_ix (ixL K) (pv 3) (cMax2 (TT.free 75) (pa_cons (pe_op op_sub (pe_op op_sub (pv 6) (cLen K (TT.free 70) (pa_cons (pv 2) pa_nil))) pe_int) (pa_cons pe_int pa_nil))) (fun _ _ => rfl)))
  (pss_one (ps_ret (pe_tup (pa_cons (pe_cl O_cut_deal (hr.mono (by decide)) rfl (pa_cons (pv 0) (pa_cons (pv 5) (pa_cons (pv 6) pa_nil)))) (pa_cons (pe_lst (pa_cons (pe_ix (ixL K) (pe_ix (ixL K) (pv 0) pe_int (fun _ _ => rfl)) (pv 7) (fun _ _ => rfl)) (pa_cons (pe_ix (ixL K) (pe_ix (ixL K) (pv 0) pe_int (fun _ _ => rfl)) (pv 7) (fun _ _ => rfl)) pa_nil))) pa_nil)))))))))))))))), ?_⟩
    have n12 := g.2.n12
    have hw := wt_pos g.2
    refine q_when (b := false) (et_is (et_test (ev_op (c_hands g (ev_var rfl)) ev_c (rv_ne rfl))) rfl) (fun z => nomatch z) fun _ H1 e1 => ?_
    refine q_asgL (el_range (c_things (g.mono e1) (ev_var rfl)) (by omega)) fun al H2 nal e2 hal => ?_
    have ex2 := e1.trans e2
    have rn : (List.range n).length = n := List.length_range
    have inr : ∀ i, i < (List.range n).length → (List.range n).getD i 0 < n := fun i hi => List.mem_range.mp (getD_mem hi)
    -- heads
    have w1 := fun (σ' : L2.St) (H' : Hp) (e : Ex H2 H') (z : σ'[1]? = some (some (V.ref al))) => wk_list (K := K) (j := 8) (tl := tVar 1) (σ := σ') (H := H') (ev_var z) (sq_of (e al _ hal))
    have c1 := el_lc (tt := tTest (tOp rEq (tOp (rIxL K) (tOp (rIxL K) (tVar 0) (tC (.int 1))) (tVar 8)) (tC (.int 0)))) (te := tVar 8) (vs := [8]) (fun i => decide (V.int (wt T 1 ((List.range n).getD i 0)) = V.int 0)) (fun i => .int (((List.range n).getD i 0 : Nat) : Int)) (by have z := w1 [some (.ref a), some (.ref al), none, none, none, none, none, none, none] H2 (Ex.refl _) rfl; rw [natsV_len] at z; exact z) (by omega) (fun _ => rfl)
      (fun i H3 e3 hi => et_test (ev_op (ev_cell (i := 1) (g.mono (ex2.trans e3)) (by omega) (inr i hi) (ev_var rfl) ev_c (ev_is (ev_var rfl) (natsV_getD hi))) ev_c (rv_eq rfl))) (fun i H3 e3 hi _ => ev_is (ev_var rfl) (natsV_getD hi))
    have k1 := kept_nats (List.range n) fun t => decide (V.int (wt T 1 t) = V.int 0)
    rw [k1] at c1
    refine q_asgL c1 fun ah H3 nah e3 hah => ?_
    -- middle
    have ex3 := ex2.trans e3
    have c2 := el_lc (tt := tAnd (tTest (tOp (rI0 fun i j => .bl (decide (j < i))) (tOp (rIxL K) (tOp (rIxL K) (tVar 0) (tC (.int 0))) (tVar 8)) (tC (.int 0)))) (tTest (tOp (rI0 fun i j => .bl (decide (j < i))) (tOp (rIxL K) (tOp (rIxL K) (tVar 0) (tC (.int 1))) (tVar 8)) (tC (.int 0))))) (te := tVar 8) (vs := [8])
      (fun i => decide (0 < wt T 0 ((List.range n).getD i 0)) && decide (0 < wt T 1 ((List.range n).getD i 0))) (fun i => .int (((List.range n).getD i 0 : Nat) : Int)) (by have z := w1 [some (.ref a), some (.ref al), some (.ref ah), none, none, none, none, none, none] H3 e3 rfl; rw [natsV_len] at z; exact z) (by omega) (fun _ => rfl)
      (fun i H4 e4 hi => et_and (et_test (ev_op (ev_cell (i := 0) (g.mono (ex3.trans e4)) (by omega) (inr i hi) (ev_var rfl) ev_c (ev_is (ev_var rfl) (natsV_getD hi))) ev_c rv_I0)) fun _ => et_test (ev_op (ev_cell (i := 1) (g.mono (ex3.trans e4)) (by omega) (inr i hi) (ev_var rfl) ev_c (ev_is (ev_var rfl) (natsV_getD hi))) ev_c rv_I0)) (fun i H4 e4 hi _ => ev_is (ev_var rfl) (natsV_getD hi))
    have k2 := kept_nats (List.range n) fun t => decide (0 < wt T 0 t) && decide (0 < wt T 1 t)
    rw [k2] at c2
    have mq : ∀ t, t ∈ (List.range n).filter (fun t => decide (0 < wt T 0 t) && decide (0 < wt T 1 t)) → t < n ∧ 0 < wt T 0 t ∧ 0 < wt T 1 t := fun t m => by
      obtain ⟨m1, m2⟩ := List.mem_filter.mp m
      rw [Bool.and_eq_true] at m2
      exact ⟨List.mem_range.mp m1, of_decide_eq_true m2.1, of_decide_eq_true m2.2⟩
    refine q_asgP (R := NatsAt (FallOf T ((List.range n).filter fun t => decide (0 < wt T 0 t) && decide (0 < wt T 1 t)))) (ep_call2L (ev_var rfl) c2 fun p H4 e4 hp Q q => ⟨a, p, T, n, _, rfl, g.mono (ex3.trans e4), sq_of hp, fun t m => ⟨(mq t m).1, (mq t m).2.2⟩, by have := List.length_filter_le (fun t => decide (0 < wt T 0 t) && decide (0 < wt T 1 t)) (List.range n); omega, q⟩) fun v H4 e4 ⟨am, md, ev, ham, pm, pw⟩ => ?_
    subst ev
    have ex4 := ex3.trans e4
    -- tails
    have c3 := el_lc (tt := tAnd (tTest (tOp rEq (tOp (rIxL K) (tOp (rIxL K) (tVar 0) (tC (.int 0))) (tVar 8)) (tC (.int 0)))) (tTest (tOp (rI0 fun i j => .bl (decide (j < i))) (tOp (rIxL K) (tOp (rIxL K) (tVar 0) (tC (.int 1))) (tVar 8)) (tC (.int 0))))) (te := tVar 8) (vs := [8])
      (fun i => decide (V.int (wt T 0 ((List.range n).getD i 0)) = V.int 0) && decide (0 < wt T 1 ((List.range n).getD i 0))) (fun i => .int (((List.range n).getD i 0 : Nat) : Int)) (by have z := w1 [some (.ref a), some (.ref al), some (.ref ah), some (.ref am), none, none, none, none, none] H4 (e3.trans e4) rfl; rw [natsV_len] at z; exact z) (by omega) (fun _ => rfl)
      (fun i H5 e5 hi => et_and (et_test (ev_op (ev_cell (i := 0) (g.mono (ex4.trans e5)) (by omega) (inr i hi) (ev_var rfl) ev_c (ev_is (ev_var rfl) (natsV_getD hi))) ev_c (rv_eq rfl))) fun _ => et_test (ev_op (ev_cell (i := 1) (g.mono (ex4.trans e5)) (by omega) (inr i hi) (ev_var rfl) ev_c (ev_is (ev_var rfl) (natsV_getD hi))) ev_c rv_I0)) (fun i H5 e5 hi _ => ev_is (ev_var rfl) (natsV_getD hi))
    have k3 := kept_nats (List.range n) fun t => decide (V.int (wt T 0 t) = V.int 0) && decide (0 < wt T 1 t)
    rw [k3] at c3
    refine q_asgL c3 fun at_ H5 nat e5 hat => ?_
    clear c1 c2 c3 k1 k2 k3
    -- the row
    have R : Rt (wt T) n ((List.range n).filter fun t => decide (V.int (wt T 1 t) = V.int 0)) md ((List.range n).filter fun t => decide (V.int (wt T 0 t) = V.int 0) && decide (0 < wt T 1 t)) := by
      have vi : ∀ x y : Int, decide (V.int x = V.int y) = decide (x = y) := fun x y => by
        by_cases q : x = y
        · rw [decide_eq_true q, decide_eq_true (by rw [q])]
        · rw [decide_eq_false q, decide_eq_false fun z => q (by injection z)]
      refine ⟨?_, fun t m => ?_, fun t m => (mq t (pm.mem_iff.mp m)).2, fun t m => ?_, pw⟩
      · refine ((List.Perm.append_right _ (List.Perm.append_left _ pm))).trans (part3 _ _ _ _ fun t _ => ?_)
        have p0 := hw 0 t
        have p1 := hw 1 t
        rw [vi, vi]
        by_cases z1 : wt T 1 t = 0
        · exact .inl ⟨decide_eq_true z1, by rw [decide_eq_false (show ¬ 0 < wt T 1 t by omega), Bool.and_false], by rw [decide_eq_false (show ¬ 0 < wt T 1 t by omega), Bool.and_false]⟩
        · by_cases z0 : wt T 0 t = 0
          · exact .inr (.inr ⟨decide_eq_false z1, by rw [decide_eq_false (show ¬ 0 < wt T 0 t by omega), Bool.false_and], by rw [decide_eq_true z0, decide_eq_true (show 0 < wt T 1 t by omega)]; rfl⟩)
          · exact .inr (.inl ⟨decide_eq_false z1, by rw [decide_eq_true (show 0 < wt T 0 t by omega), decide_eq_true (show 0 < wt T 1 t by omega)]; rfl, by rw [decide_eq_false z0, Bool.false_and]⟩)
      · have := (List.mem_filter.mp m).2
        rw [vi] at this
        exact of_decide_eq_true this
      · have := (List.mem_filter.mp m).2
        rw [vi, Bool.and_eq_true] at this
        exact of_decide_eq_true this.1
    have pw' := rt_pw hw R
    have perm := R.perm
    have bestR := fun c lo hi => ratio_best hw R (c := c) lo hi
    have t0 := R.t0
    have h0 := R.h0
    have mid := R.mid
    clear R pw pm mq
    generalize ((List.range n).filter fun t => decide (V.int (wt T 1 t) = V.int 0)) = hd at *
    generalize ((List.range n).filter fun t => decide (V.int (wt T 0 t) = V.int 0) && decide (0 < wt T 1 t)) = tl at *
    have len3 : hd.length + md.length + tl.length = n := by
      have := perm.length_eq
      rw [List.length_append, List.length_append, List.length_range] at this
      exact this
    have cat3 := el_catW (ew_l (el_catW (ew_v (σ := [some (.ref a), some (.ref al), some (.ref ah), some (.ref am), some (.ref at_), none, none, none, none]) (te := tVar 2) (ev_var rfl) (e5 ah _ (e4 ah _ hah))) (ew_v (te := tVar 3) (ev_var rfl) (e5 am _ ham)) (by rw [natsV_len, natsV_len]; omega))) (ew_v (te := tVar 4) (ev_var rfl) hat) (by rw [List.length_append, natsV_len, natsV_len, natsV_len]; omega)
    have ecat : natsV hd ++ natsV md ++ natsV tl = natsV (hd ++ md ++ tl) := by unfold natsV; rw [List.map_append, List.map_append]
    rw [ecat] at cat3
    refine q_asgL cat3 fun ar H6 nar e6 har => ?_
    have hah6 := e6 ah _ (e5 ah _ (e4 ah _ hah))
    have ham6 := e6 am _ (e5 am _ ham)
    have ex6 := (ex4.trans e5).trans e6
    clear cat3 ecat
    have row1 : ∀ c, hd.length ≤ c → c < hd.length + md.length → ∃ x, (hd ++ md ++ tl)[c]? = some x ∧ x ∈ md := fun c lo hi => by
      have l1 : c - hd.length < md.length := by omega
      refine ⟨md[c - hd.length], ?_, List.getElem_mem l1⟩
      rw [List.append_assoc, List.getElem?_append_right lo, List.getElem?_append_left l1, List.getElem?_eq_getElem l1]
    have top0 : lsum (wt T 0) ((hd ++ md ++ tl).drop (hd.length + md.length)) = 0 := by
      rw [← List.length_append, List.drop_left]
      have a := lsum_le (f := wt T 0) (g := fun _ => 0) (L := tl) fun t m => by rw [t0 t m]; exact Int.le_refl _
      have b := lsum_nonneg (f := wt T 0) (L := tl) fun t _ => hw 0 t
      have c := lsum_zero tl
      omega
    have low1 : lsum (wt T 1) ((hd ++ md ++ tl).take hd.length) = 0 := by
      rw [List.append_assoc, List.take_left]
      have a := lsum_le (f := wt T 1) (g := fun _ => 0) (L := hd) fun t m => by rw [h0 t m]; exact Int.le_refl _
      have b := lsum_nonneg (f := wt T 1) (L := hd) fun t _ => hw 1 t
      have c := lsum_zero hd
      omega
    generalize hrow : hd ++ md ++ tl = row at *
    have ltr : ∀ t, t ∈ row → t < n := fun t m => List.mem_range.mp (perm.mem_iff.mp m)
    refine q_asg (v := .int ((hd.length : Nat) : Int)) (ev_is (ev_lenA (ev_var rfl) hah6) (by rw [natsV_len])) fun H7 e7 => ?_
    have envAt : ∀ (c : Nat) (H' : Hp), Ex H6 H' → EvT (tB (tCall (sp_envies K) [] E0 (tCons (tVar 0) (tCons (tCall (sp_cut_deal K) [] E0 (tCons (tVar 0) (tCons (tVar 5) (tCons (tVar 6) tNil)))) (tCons (tC (.int 0)) (tCons (tC (.int 1)) tNil)))))) [some (.ref a), some (.ref al), some (.ref ah), some (.ref am), some (.ref at_), some (.ref ar), some (.int (c : Int)), none, none] H' (decide (lsum (wt T 0) (row.take c) < lsum (wt T 0) (row.drop c))) := fun c H' e => by
      refine et_is (et_B (c_enviesN (i := 0) (j := 1) (g.mono (ex6.trans e)) cutD_len (by omega) (ev_var rfl) (c_cut (g.mono (ex6.trans e)) (sq_of (e ar _ har)) ltr (ev_var rfl) (ev_var rfl) (ev_var rfl)) ev_c ev_c)) ?_
      unfold envB
      rw [vl_cut, vl_cut, cut_val0 perm, cut_val1 perm]
    refine q_while (fun m σ' H' => ∃ c : Nat, σ' = [some (.ref a), some (.ref al), some (.ref ah), some (.ref am), some (.ref at_), some (.ref ar), some (.int (c : Int)), none, none] ∧ Ex H6 H' ∧ hd.length ≤ c ∧ c ≤ hd.length + md.length ∧ m = hd.length + md.length - c ∧ ∀ c', hd.length ≤ c' → c' < c → lsum (wt T 0) (row.take c') < lsum (wt T 0) (row.drop c')) md.length
      ⟨hd.length, rfl, e7, Nat.le_refl _, by omega, by omega, fun c' a b => by omega⟩ ?_
    rintro m σ' H8 ⟨c, rfl, ex8, lo, hi, rfl, before⟩
    refine ⟨_, envAt c H8 ex8, fun hb H9 e9 => ?_, fun hb H9 e9 => ?_⟩
    · have hb := of_decide_eq_true hb
      have lt : c < hd.length + md.length := by
        refine Classical.byContradiction fun ng => ?_
        rw [show c = hd.length + md.length by omega, top0] at hb
        have := lsum_nonneg (f := wt T 0) (L := row.take (hd.length + md.length)) fun t _ => hw 0 t
        omega
      refine ⟨_, fun σ2 H2' N => N, s_aug rfl ev_c fun H10 e10 => ⟨hd.length + md.length - (c + 1), by omega, c + 1, rfl, (ex8.trans e9).trans e10, by omega, by omega, rfl, fun c' a b => ?_⟩⟩
      by_cases q : c' = c
      · rw [q]; exact hb
      · exact before c' a (by omega)
    · have hb := of_decide_eq_false hb
      have ex9 := ex8.trans e9
      refine q_cut (M := fun σ' H' => ∃ c : Nat, σ' = [some (.ref a), some (.ref al), some (.ref ah), some (.ref am), some (.ref at_), some (.ref ar), some (.int (c : Int)), none, none] ∧ Ex H6 H' ∧ hd.length ≤ c ∧ c ≤ hd.length + md.length ∧ EF1 (wt T) n 2 (cutF row c)) ?_ fun σ' H' pr => ?_
      · have fl := c_cut (E := E0) (ta := tVar 0) (tb := tVar 5) (tc := tVar 6) (σ := [some (.ref a), some (.ref al), some (.ref ah), some (.ref am), some (.ref at_), some (.ref ar), some (.int (c : Int)), none, none]) (g.mono (ex6.trans ex9)) (sq_of (ex9 ar _ har)) ltr (ev_var rfl) (ev_var rfl) (ev_var rfl)
        rw [← opts_some] at fl
        refine s_when (et_not (et_B (c_fairN (os := (cutD n row c).map some) (g.mono (ex6.trans ex9)) (by rw [List.length_map, cutD_len]) (ev_var rfl) fl))) (fun nf H10 e10 => ?_) (fun nf H10 e10 => ?_)
        · have nf : fairB T 2 ((cutD n row c).map some) = false := by
            cases q : fairB T 2 ((cutD n row c).map some) with
            | false => rfl
            | true => rw [q] at nf; cases nf
          have unf := unfair_at g.2 perm nf hb
          have cl : hd.length < c := by
            refine Classical.byContradiction fun ng => ?_
            have ec : c = hd.length := by omega
            rw [ec] at unf
            obtain ⟨i, j, hi', hj', ne, gg, hg, eg, v, top⟩ := ef1_fair nf
            rw [List.length_map, cutD_len] at hg
            rcases (by omega : (i = 0 ∧ j = 1) ∨ (i = 1 ∧ j = 0)) with ⟨rfl, rfl⟩ | ⟨rfl, rfl⟩
            · rw [vl_cut, vl_cut, cut_val0 perm, cut_val1 perm] at v
              have := hw 0 gg
              omega
            · rw [vl_cut, vl_cut, cut_val0 perm, cut_val1 perm, ec, low1] at v
              have p1 := hw 1 gg
              have p2 := lsum_nonneg (f := wt T 1) (L := row.drop hd.length) fun t _ => hw 1 t
              omega
          obtain ⟨x, ex, mx⟩ := row1 (c - 1) (by omega) (by omega)
          obtain ⟨ax, bx⟩ := mid x mx
          have ec : c - 1 + 1 = c := by omega
          have env := before (c - 1) (by omega) (by omega)
          have tk := take_one ex (wt T 1)
          rw [ec] at tk
          have inx : x ∈ row.take c := by
            rw [← ec, take_at ex]
            exact List.mem_append_right _ (List.mem_singleton.mpr rfl)
          have u := unf x inx
          obtain ⟨r1, r2⟩ := ratio_back pw' ex ax bx env (by rw [ec]; omega)
          refine s_aug rfl ev_c fun H11 e11 => ⟨c - 1, ?_, (ex9.trans e10).trans e11, by omega, by omega, back_ef1 hw perm ex r1 r2⟩
          show [some (V.ref a), some (V.ref al), some (V.ref ah), some (V.ref am), some (V.ref at_), some (V.ref ar), some (V.int ((c : Int) - 1)), none, none] = _
          rw [show ((c - 1 : Nat) : Int) = (c : Int) - 1 by omega]
        · have nf : fairB T 2 ((cutD n row c).map some) = true := by
            cases q : fairB T 2 ((cutD n row c).map some) with
            | true => rfl
            | false => rw [q] at nf; cases nf
          have F := fair_ef1 nf
          rw [List.length_map, cutD_len] at F
          exact ⟨c, rfl, ex9.trans e10, lo, hi, ef1_congr (fun t ht => by rw [dl_some, cutD_at ht]) F⟩
      · obtain ⟨c, rfl, ex10, lo, hi, F⟩ := pr
        have good : Fair1 T 2 (cutD n row c) ∧ BestD T 2 (cutD n row c) := by
          unfold Fair1 BestD
          rw [cutD_len]
          exact ⟨ef1_congr (fun t ht => (cutD_at ht).symm) F, best_congr (fun t ht => (cutD_at ht).symm) (bestR c lo hi)⟩
        have lt2 : ∀ k, k ∈ cutD n row c → k < 2 := fun k m => by
          obtain ⟨t, _, rfl⟩ := List.mem_map.mp m
          split <;> omega
        refine q_when (b := decide (md.map (fun (t : Nat) => (t : Int)) = [])) (et_test (ev_opL (ev_var rfl) (el_lst ea_nil (by decide)) fun p H11 hp e11 => rv_eqI (ns := md.map (fun (t : Nat) => (t : Int))) (ms := []) (by rw [← nats_ints]; exact sq_of (e11 am _ (ex10 am _ ham6))) (sq_of hp))) (fun hz H11 e11 => ?_) (fun hz H11 e11 => ?_)
        · have ex11 := ex10.trans e11
          exact s_retP (ep_tup2 (R := fun _ _ => True) (fun _ _ _ _ z => z) (c_cut (g.mono (ex6.trans ex11)) (sq_of (ex11 ar _ har)) ltr (ev_var rfl) (ev_var rfl) (ev_var rfl)) fun H12 e12 => ep_l (el_lst (ea_cons ev_c (ea_cons ev_c ea_nil)) (by show 2 ≤ 100000; decide))) fun v H12 e12 ⟨t, p, x, ev, h1, h2, _⟩ => k v H12 ((ex6.trans ex11).trans e12) ⟨t, _, x, ev, h1, p, _, rfl, h2, cutD_len, lt2, good⟩
        · have ex11 := ex10.trans e11
          have hz := of_decide_eq_false hz
          have mp : 0 < md.length := by
            rcases Nat.eq_zero_or_pos md.length with z | z
            · exact absurd (by rw [List.length_eq_zero_iff.mp z]; rfl) hz
            · exact z
          have ix : c - hd.length - 1 < md.length := by omega
          have edn : md.getD (c - hd.length - 1) 0 < n := by
            have m : md.getD (c - hd.length - 1) 0 ∈ md := getD_mem ix
            exact ltr _ (by rw [← hrow]; exact List.mem_append_left _ (List.mem_append_right _ m))
          have lenh := ev_lenA (K := K) (σ := [some (.ref a), some (.ref al), some (.ref ah), some (.ref am), some (.ref at_), some (.ref ar), some (.int (c : Int)), none, none]) (ta := tVar 2) (ev_var rfl) (ex11 ah _ hah6)
          rw [natsV_len] at lenh
          refine q_asg (v := .int ((md.getD (c - hd.length - 1) 0 : Nat) : Int)) (ev_op (ev_var rfl) (ev_is (w := .int ((c - hd.length - 1 : Nat) : Int)) (ev_max2 (ev_sub (ev_sub (ev_var rfl) lenh) ev_c) ev_c) ?_) (rv_ixL (sq_of (ex11 am _ ham6)) (atI_nat (natsV_get (getD_at ix))))) fun H12 e12 => ?_
          · congr 1
            split <;> omega
          · have ex12 := ex11.trans e12
            exact s_retP (ep_tup2 (R := fun _ _ => True) (fun _ _ _ _ z => z) (c_cut (g.mono (ex6.trans ex12)) (sq_of (ex12 ar _ har)) ltr (ev_var rfl) (ev_var rfl) (ev_var rfl)) fun H13 e13 => ep_l (el_lst (ea_cons (ev_cell (i := 1) (g.mono ((ex6.trans ex12).trans e13)) (by omega) edn (ev_var rfl) ev_c (ev_var rfl)) (ea_cons (ev_cell (i := 0) (g.mono ((ex6.trans ex12).trans e13)) (by omega) edn (ev_var rfl) ev_c (ev_var rfl)) ea_nil)) (by show 2 ≤ 100000; decide))) fun v H13 e13 ⟨t, p, x, ev, h1, h2, _⟩ => k v H13 ((ex6.trans ex12).trans e13) ⟨t, _, x, ev, h1, p, _, rfl, h2, cutD_len, lt2, good⟩
end Lk

namespace Lk
open PySem PySem.Spec PyProof.Rows L2 Evl LE
/-! ### the dealers -/
inductive Kd where
  | dealer | turns | rings | weights | ratios | products | leasts | halves
deriving DecidableEq
def nm : Kd → Str
  | .dealer => "Dealer" | .turns => "Turns" | .rings => "Rings" | .weights => "Weights" | .ratios => "Ratios" | .products => "Products" | .leasts => "Leasts" | .halves => "Halves"
def wd : Kd → Str
  | .dealer => "first" | .turns => "turns" | .rings => "rings" | .weights => "weights" | .ratios => "ratios" | .products => "products" | .leasts => "leasts" | .halves => "halves"
def kp : Kd → List Str
  | .dealer => [] | .turns => ["fair"] | .rings => ["fair"] | .weights => ["best"] | .ratios => ["best", "fair"] | .products => ["best", "fair"] | .leasts => ["best"] | .halves => ["half"]
def fld : Kd → List (Str × V)
  | .turns => [("orders", .non)] | .rings => [("order", .non)] | .weights => [("weights", .non)] | _ => []
def Good (i : Kd) (T : List (List Int)) (h : Nat) (ds : List Nat) : Prop := match i with
  | .dealer => True | .turns => Fair1 T h ds | .rings => Fair1 T h ds | .weights => BestD T h ds | .ratios => Fair1 T h ds ∧ BestD T h ds | .products => ProdD T h ds | .leasts => LeastD T h ds | .halves => HalfD T h ds
def Cond (i : Kd) (h n : Nat) : Prop := match i with
  | .products => h ^ n ≤ 100 | .leasts => h ^ n ≤ 100 | .ratios => h = 2 | _ => True
def dlv : Kd → Nat
  | .dealer => 2
  | .turns => 4
  | .rings => 9
  | .weights => 4
  | .ratios => 9
  | .products => 5
  | .leasts => 7
  | .halves => 7
/-- an instance -/
def dlE (K : PySem.W.Frag) (i : Kd) (v : V) (H : Hp) : Prop := ∃ a dx, v = .ref a ∧ H a = some (.ins (He.ga K (nm i)) dx (fld i))
theorem dlE_mono (K : PySem.W.Frag) (i : Kd) : Mono (dlE K i) := fun v H H' e ⟨a, dx, h1, h2⟩ => ⟨a, dx, h1, e a _ h2⟩
structure OkM (P : Program) (w : World) (K : PySem.W.Frag) (mg : Str → Option Value) (base : Heap) (k : Nat) (C m : Str) (ps : List Str) (sp : Sp) : Prop where
  ex : ∃ fd, FnOk P w K mg base CX0 k (He.ma K (He.ga K C) m) fd ps sp ∧ Binds K fd ps []
  mt : Meth K (He.ga K C) m (He.ma K (He.ga K C) m)
  cl : Cls K (He.ga K C)
structure OkI (P : Program) (w : World) (K : PySem.W.Frag) (mg : Str → Option Value) (base : Heap) (k : Nat) (C : Str) (ps : List Str) (dvs : List V) (sp : Sp) : Prop where
  ex : ∃ fd ds, FnOk P w K mg base CX0 k (He.ma K (He.ga K C) "__init__") fd ps sp ∧ Vals dvs ds ∧ Binds K fd ps ds
section
variable {K : PySem.W.Frag} {mg : Str → Option Value} {P : Program} {w : World} {base : Heap}
theorem Top.okM (T : Top K mg) {d : He.DefD} (i j c : Nat) {C : Str} (hi : fn[i]? = some d) (hj : fa[j]? = some (.meth C d.name)) (hc : fa[c]? = some (.cls C)) (hat : d.at_ = (C, some d.name)) (hd : d.dfl = []) (hk : d.kwd = []) {N ps : List Str} {k : Nat} {sp : Sp} (S : FnScope N ps d.scope)
    (hb : ∀ (kV doc pm : Value) (an : Option Addr) (cdv ct : Value) (us : List Value), us.length = ps.length → bindArgs (PySem.W.fnOf d.name d.qual d.params d.body d.scope .none kV doc pm an cdv ct) ⟨us, []⟩ = pure (ps.zip us))
    (len : ∀ vs H Q E, sp vs H Q E → vs.length = ps.length)
    (hbody : ∀ (cdv : Value) (A : Around) (outer : List Env) (s : Shared) (H : Hp) (vs : List V) (Q : VK) (E : XK), Room k (A.deeper (envOfC d.qual d.scope s.heap.objs.size (He.ma K (He.ga K C) d.name) cdv)) → sp vs H Q E →
      ∃ t, PSs (cxOf CX0 P w K mg base N d.qual d.scope (He.ma K (He.ga K C) d.name) cdv A outer s H E).nox d.body t ∧ t { nx := fun _ H' => Q .non H', rt := Q } (start N vs) H) : OkM P w K mg base (k + 1) C d.name ps sp := by
  obtain ⟨fd, F⟩ := T.says.def_ i hi
  have ea : He.fAd K d.at_ = He.ma K (He.ga K C) d.name := by rw [hat]; rfl
  rw [ea] at F
  have e1 : d.dvs K = [] := by unfold He.DefD.dvs; rw [hd]; rfl
  have e2 : d.kws K = [] := by unfold He.DefD.kws; rw [hk]; rfl
  rw [e1, e2] at F
  refine ⟨⟨fd, F.ok S len fun cdv A outer s H vs Q E hr h => ?_, F.bindsN hb⟩, T.meth j hj, T.cls c hc⟩
  obtain ⟨t, h1, h2⟩ := hbody cdv A outer s H vs Q E hr h
  exact ⟨t, h1.nox, h2⟩
theorem Top.okI (T : Top K mg) {d : He.DefD} (i : Nat) {C : Str} (hi : fn[i]? = some d) (hat : d.at_ = (C, some ("__init__" : Str))) (hk : d.kwd = []) {N ps : List Str} {k : Nat} {sp : Sp} (hd : d.dvs K ≠ []) (S : FnScope N ps d.scope)
    (hb : ∀ (T : Addr) (kV doc pm : Value) (an : Option Addr) (cdv ct : Value) (us its : List Value), us.length = 1 → its.length = (d.dvs K).length →
      ∃ k, bindArgs (PySem.W.fnOf d.name d.qual d.params d.body d.scope (.ref T) kV doc pm an cdv ct) ⟨us, []⟩ = seqItems? (.ref T) >>= k ∧ k (some its.toArray) = pure (ps.zip (us ++ its.drop 0)))
    (len : ∀ vs H Q E, sp vs H Q E → vs.length = ps.length)
    (hbody : ∀ (cdv : Value) (A : Around) (outer : List Env) (s : Shared) (H : Hp) (vs : List V) (Q : VK) (E : XK), Room k (A.deeper (envOfC d.qual d.scope s.heap.objs.size (He.ma K (He.ga K C) "__init__") cdv)) → sp vs H Q E →
      ∃ t, PSs (cxOf CX0 P w K mg base N d.qual d.scope (He.ma K (He.ga K C) "__init__") cdv A outer s H E).nox d.body t ∧ t { nx := fun _ H' => Q .non H', rt := Q } (start N vs) H) (hn : 1 + ((d.dvs K).length - 0) = ps.length := by rfl) : OkI P w K mg base (k + 1) C ps (d.dvs K) sp := by
  obtain ⟨fd, F⟩ := T.says.def_ i hi
  have ea : He.fAd K d.at_ = He.ma K (He.ga K C) "__init__" := by rw [hat]; rfl
  rw [ea] at F
  have e2 : d.kws K = [] := by unfold He.DefD.kws; rw [hk]; rfl
  rw [e2] at F
  obtain ⟨ds, v, b⟩ := F.binds1 (ps := ps) 1 0 hd hn hb
  rw [List.drop_zero] at v
  refine ⟨⟨fd, ds, F.ok S len fun cdv A outer s H vs Q E hr h => ?_, v, b⟩⟩
  obtain ⟨t, h1, h2⟩ := hbody cdv A outer s H vs Q E hr h
  exact ⟨t, h1.nox, h2⟩
theorem Top.bareAll (T : Top K mg) : (((bare1 K "Dealer" = true ∧ bare1 K "Ratios" = true) ∧ bare1 K "Products" = true) ∧ bare1 K "Leasts" = true) ∧ bare1 K "Halves" = true := by
  obtain ⟨a, b⟩ := He.ba T.bare
  obtain ⟨a, c⟩ := He.ba a
  obtain ⟨a, d⟩ := He.ba a
  obtain ⟨a, e⟩ := He.ba a
  exact ⟨⟨⟨⟨a, e⟩, d⟩, c⟩, b⟩
theorem Top.bareDealer (T : Top K mg) : Mk0 K (He.ga K "Dealer") := bare1_ok T.bareAll.1.1.1.1
theorem Top.bareRatios (T : Top K mg) : Mk0 K (He.ga K "Ratios") := bare1_ok T.bareAll.1.1.1.2
theorem Top.bareProducts (T : Top K mg) : Mk0 K (He.ga K "Products") := bare1_ok T.bareAll.1.1.2
theorem Top.bareLeasts (T : Top K mg) : Mk0 K (He.ga K "Leasts") := bare1_ok T.bareAll.1.2
theorem Top.bareHalves (T : Top K mg) : Mk0 K (He.ga K "Halves") := bare1_ok T.bareAll.2
variable {X : Cx} {ta : TE} {t : TA} {o e : Expr} {es : List Expr} {p pos apos : Pos}
/-- o.m() of whatever dealer -/
theorem pe_cm0 {pl : Sem Bool} {m : Str} {ps : List Str} {sp : Kd → Sp} {lv : Kd → Nat} (O : ∀ i, OkM X.prog X.w X.K X.mg X.base (lv i) (nm i) m ps (sp i)) (hr : ∀ i, Room (lv i) X.A) (he : PE X o ta)
    (ht : eval (.Call (.Attribute o m apos) [] [] pos) X.env = (do
      let ov ← eval o X.env
      standAt apos.atName
      let (f, first) ← holding [ov] (getMethod ov m pl)
      callWith pos f first (backTo pos (starEach [] X.env)) (backToKw pos (keywordEach [] X.env))) := by rfl) :
    PE X (.Call (.Attribute o m apos) [] [] pos) (fun σ H Q => ∃ i, tMeth (He.ga X.K (nm i)) m (sp i) [] E0 ta tNil σ H Q) := pe_ex fun i => by
  obtain ⟨fd, F, b⟩ := (O i).ex
  exact pe_meth0 he (O i).cl (O i).mt F (hr i) b .nil pass0 ht
theorem pe_cm {pl : Sem Bool} {m : Str} {ps : List Str} {sp : Kd → Sp} {lv : Kd → Nat} (O : ∀ i, OkM X.prog X.w X.K X.mg X.base (lv i) (nm i) m ps (sp i)) (hr : ∀ i, Room (lv i) X.A) (he : PE X o ta) (ha : PA X (e :: es) t)
    (hst : starEach (e :: es) X.env = (false, eval e X.env) :: starEach es X.env := by rfl) (hpl : (backTo pos (starEach es X.env)).any (·.1) = false := by rfl)
    (ht : eval (.Call (.Attribute o m apos) (e :: es) [] pos) X.env = (do
      let ov ← eval o X.env
      standAt apos.atName
      let (f, first) ← holding [ov] (getMethod ov m pl)
      callWith pos f first (backTo pos (starEach (e :: es) X.env)) (backToKw pos (keywordEach [] X.env))) := by rfl) :
    PE X (.Call (.Attribute o m apos) (e :: es) [] pos) (fun σ H Q => ∃ i, tMeth (He.ga X.K (nm i)) m (sp i) [] E0 ta t σ H Q) := pe_ex fun i => by
  obtain ⟨fd, F, b⟩ := (O i).ex
  exact pe_meth he (O i).cl (O i).mt F (hr i) b .nil pass0 ha hst hpl ht
theorem pe_mkr {k : Nat} {x : Str} {ps : List Str} {dvs : List V} {sp : Sp} (M : Mk X.K (He.ga X.K x) (He.ma X.K (He.ga X.K x) "__init__")) (O : OkI X.prog X.w X.K X.mg X.base k x ps dvs sp) (hr : Room (k + 1) X.A) (hg : Gl X x) (hm : X.mg x = some (.ref (He.ga X.K x)))
    (hdb : (x == ("__debug__" : Str)) = false := by decide) : PE X (.Call (.Name x p) [] [] pos) (tMake (He.ga X.K x) sp dvs E0 tNil) := by
  obtain ⟨fd, ds, F, v, b⟩ := O.ex
  exact pe_make0 M F hr hg hm b v pass0 hdb
end
def sp_word (i : Kd) : Sp := fun vs H Q _ => ∃ x, vs = [x] ∧ RetV (.str (wd i)) H Q
def sp_keeps (i : Kd) : Sp := fun vs H Q _ => ∃ x, vs = [x] ∧ RetL ((kp i).map V.str) H Q
def sp_deal (K : PySem.W.Frag) (i : Kd) : Sp := fun vs H Q _ => ∃ s a T h n, vs = [s, .ref a] ∧ dlE K i s H ∧ GT K H a T h n ∧ Cond i h n ∧ RetP (DealV h n (Good i T h)) H Q
def sp_init (K : PySem.W.Frag) (i : Kd) : Sp := fun vs H Q _ => ∃ x dx, vs = [.ref x, .non] ∧ H x = some (.ins (He.ga K (nm i)) dx []) ∧ ∀ H2, Ex (upd H x (.ins (He.ga K (nm i)) dx (fld i))) H2 → Q .non H2
theorem ex_upd {H H' : Hp} {x : Addr} {o : HO} (e : Ex H H') : Ex (upd H x o) (upd H' x o) := fun b u hb => by
  by_cases q : b = x
  · subst q
    rw [upd_same] at hb ⊢
    exact hb
  · rw [upd_ne q] at hb ⊢
    exact e b u hb
section
variable {K : PySem.W.Frag} {H : Hp} {σ : L2.St} {ta te : TE} {a C dx : Addr} {fs : List (Str × V)} {f : Str} {v : V} {D : Ends} {tz : TS}
theorem ev_fld (h : Ev ta σ H (.ref a)) (hi : H a = some (.ins C dx fs)) (c : Cls K C) (na : NoAttr K C f) (l : fs.lookup f = some v) : Ev (tFld K ta f) σ H v := fun H1 e Q q =>
  h H1 e _ fun H2 e2 => ⟨a, C, dx, fs, v, rfl, e2 a _ (e a _ hi), c, na, l, q H2 e2⟩
theorem q_fld (h : Ev ta σ H (.ref a)) (hv : Ev te σ H v) (hi : H a = some (.ins C dx fs)) (c : Cls K C) (na : NoAttr K C f) (l : fs.length < 1000) (k : ∀ H1, Ex H H1 → tz D σ (upd H1 a (.ins C dx (putF f v fs)))) : tSeq (sFld K ta te f) tz D σ H :=
  hv H (Ex.refl H) _ fun H1 e1 => h H1 e1 _ fun H2 e2 => ⟨a, C, dx, fs, rfl, e2 a _ (e1 a _ hi), c, na, l, k H2 (e1.trans e2)⟩
theorem ep_ix0 {h n : Nat} {R : List Nat → Prop} (he : EvP te σ H (DealT h n R)) : EvP (tOp (rIxT K) te (tC (.int 0))) σ H (DealV h n R) := fun H1 e Q q =>
  he H1 e _ fun v H2 e2 ⟨t, d, x, ev, ht, hd⟩ => by
    subst ev
    exact (ev_c (v := .int 0) (σ := σ)) H2 (Ex.refl _) _ fun H3 e3 => ⟨t, [d, x], 0, d, rfl, rfl, st_of (e3 t _ ht), atI_nat (j := 0) rfl, q d H3 (e2.trans e3) (dealV_mono _ _ _ e3 hd)⟩
end
theorem dealV_imp {h n : Nat} {R R' : List Nat → Prop} (i : ∀ ds, R ds → R' ds) {v : V} {H : Hp} (z : DealV h n R v H) : DealV h n R' v H := let ⟨p, ds, h1, h2, h3, h4, h5⟩ := z; ⟨p, ds, h1, h2, h3, h4, i ds h5⟩
abbrev N_Dealer_word : List Str := ["self"]
theorem sc_Dealer_word : FnScope N_Dealer_word ["self"] (defScope s_Dealer_word) := ⟨rfl, rfl, rfl, by decide +kernel, rfl, by decide +kernel, by decide +kernel⟩
theorem ok_Dealer_word {P : Program} {w : World} {K : PySem.W.Frag} {mg : Str → Option Value} {base : Heap} (TT : Top K mg)  : OkM P w K mg base 1 "Dealer" "word" ["self"] (sp_word .dealer) := by
  refine TT.okM (d := d_Dealer_word) 46 96 85 rfl rfl rfl rfl rfl rfl sc_Dealer_word (fun _ _ _ _ _ _ us hl => match us, hl with | [_], _ => rfl) (fun vs H Q E h => ?_) (fun cdv A outer s H vs Q E hr h => ?_)
  · obtain ⟨x, rfl, _⟩ := h; rfl
  · obtain ⟨x, rfl, k⟩ := h
    refine ⟨_, (pss_one (ps_ret pe_str)), ?_⟩
    exact s_ret ev_c k
abbrev N_Dealer_keeps : List Str := ["self"]
theorem sc_Dealer_keeps : FnScope N_Dealer_keeps ["self"] (defScope s_Dealer_keeps) := ⟨rfl, rfl, rfl, by decide +kernel, rfl, by decide +kernel, by decide +kernel⟩
theorem ok_Dealer_keeps {P : Program} {w : World} {K : PySem.W.Frag} {mg : Str → Option Value} {base : Heap} (TT : Top K mg)  : OkM P w K mg base 1 "Dealer" "keeps" ["self"] (sp_keeps .dealer) := by
  refine TT.okM (d := d_Dealer_keeps) 47 97 85 rfl rfl rfl rfl rfl rfl sc_Dealer_keeps (fun _ _ _ _ _ _ us hl => match us, hl with | [_], _ => rfl) (fun vs H Q E h => ?_) (fun cdv A outer s H vs Q E hr h => ?_)
  · obtain ⟨x, rfl, _⟩ := h; rfl
  · obtain ⟨x, rfl, k⟩ := h
    refine ⟨_, (pss_one (ps_ret (pe_lst pa_nil))), ?_⟩
    exact s_retL (el_lst ea_nil (by decide)) k
abbrev N_Turns_word : List Str := ["self"]
theorem sc_Turns_word : FnScope N_Turns_word ["self"] (defScope s_Turns_word) := ⟨rfl, rfl, rfl, by decide +kernel, rfl, by decide +kernel, by decide +kernel⟩
theorem ok_Turns_word {P : Program} {w : World} {K : PySem.W.Frag} {mg : Str → Option Value} {base : Heap} (TT : Top K mg)  : OkM P w K mg base 1 "Turns" "word" ["self"] (sp_word .turns) := by
  refine TT.okM (d := d_Turns_word) 50 99 86 rfl rfl rfl rfl rfl rfl sc_Turns_word (fun _ _ _ _ _ _ us hl => match us, hl with | [_], _ => rfl) (fun vs H Q E h => ?_) (fun cdv A outer s H vs Q E hr h => ?_)
  · obtain ⟨x, rfl, _⟩ := h; rfl
  · obtain ⟨x, rfl, k⟩ := h
    refine ⟨_, (pss_one (ps_ret pe_str)), ?_⟩
    exact s_ret ev_c k
abbrev N_Turns_keeps : List Str := ["self"]
theorem sc_Turns_keeps : FnScope N_Turns_keeps ["self"] (defScope s_Turns_keeps) := ⟨rfl, rfl, rfl, by decide +kernel, rfl, by decide +kernel, by decide +kernel⟩
theorem ok_Turns_keeps {P : Program} {w : World} {K : PySem.W.Frag} {mg : Str → Option Value} {base : Heap} (TT : Top K mg)  : OkM P w K mg base 1 "Turns" "keeps" ["self"] (sp_keeps .turns) := by
  refine TT.okM (d := d_Turns_keeps) 51 100 86 rfl rfl rfl rfl rfl rfl sc_Turns_keeps (fun _ _ _ _ _ _ us hl => match us, hl with | [_], _ => rfl) (fun vs H Q E h => ?_) (fun cdv A outer s H vs Q E hr h => ?_)
  · obtain ⟨x, rfl, _⟩ := h; rfl
  · obtain ⟨x, rfl, k⟩ := h
    refine ⟨_, (pss_one (ps_ret (pe_lst (pa_cons pe_str pa_nil)))), ?_⟩
    exact s_retL (el_lst (ea_cons ev_c ea_nil) (by decide)) k
abbrev N_Rings_word : List Str := ["self"]
theorem sc_Rings_word : FnScope N_Rings_word ["self"] (defScope s_Rings_word) := ⟨rfl, rfl, rfl, by decide +kernel, rfl, by decide +kernel, by decide +kernel⟩
theorem ok_Rings_word {P : Program} {w : World} {K : PySem.W.Frag} {mg : Str → Option Value} {base : Heap} (TT : Top K mg)  : OkM P w K mg base 1 "Rings" "word" ["self"] (sp_word .rings) := by
  refine TT.okM (d := d_Rings_word) 54 102 87 rfl rfl rfl rfl rfl rfl sc_Rings_word (fun _ _ _ _ _ _ us hl => match us, hl with | [_], _ => rfl) (fun vs H Q E h => ?_) (fun cdv A outer s H vs Q E hr h => ?_)
  · obtain ⟨x, rfl, _⟩ := h; rfl
  · obtain ⟨x, rfl, k⟩ := h
    refine ⟨_, (pss_one (ps_ret pe_str)), ?_⟩
    exact s_ret ev_c k
abbrev N_Rings_keeps : List Str := ["self"]
theorem sc_Rings_keeps : FnScope N_Rings_keeps ["self"] (defScope s_Rings_keeps) := ⟨rfl, rfl, rfl, by decide +kernel, rfl, by decide +kernel, by decide +kernel⟩
theorem ok_Rings_keeps {P : Program} {w : World} {K : PySem.W.Frag} {mg : Str → Option Value} {base : Heap} (TT : Top K mg)  : OkM P w K mg base 1 "Rings" "keeps" ["self"] (sp_keeps .rings) := by
  refine TT.okM (d := d_Rings_keeps) 55 103 87 rfl rfl rfl rfl rfl rfl sc_Rings_keeps (fun _ _ _ _ _ _ us hl => match us, hl with | [_], _ => rfl) (fun vs H Q E h => ?_) (fun cdv A outer s H vs Q E hr h => ?_)
  · obtain ⟨x, rfl, _⟩ := h; rfl
  · obtain ⟨x, rfl, k⟩ := h
    refine ⟨_, (pss_one (ps_ret (pe_lst (pa_cons pe_str pa_nil)))), ?_⟩
    exact s_retL (el_lst (ea_cons ev_c ea_nil) (by decide)) k
abbrev N_Weights_word : List Str := ["self"]
theorem sc_Weights_word : FnScope N_Weights_word ["self"] (defScope s_Weights_word) := ⟨rfl, rfl, rfl, by decide +kernel, rfl, by decide +kernel, by decide +kernel⟩
theorem ok_Weights_word {P : Program} {w : World} {K : PySem.W.Frag} {mg : Str → Option Value} {base : Heap} (TT : Top K mg)  : OkM P w K mg base 1 "Weights" "word" ["self"] (sp_word .weights) := by
  refine TT.okM (d := d_Weights_word) 58 105 88 rfl rfl rfl rfl rfl rfl sc_Weights_word (fun _ _ _ _ _ _ us hl => match us, hl with | [_], _ => rfl) (fun vs H Q E h => ?_) (fun cdv A outer s H vs Q E hr h => ?_)
  · obtain ⟨x, rfl, _⟩ := h; rfl
  · obtain ⟨x, rfl, k⟩ := h
    refine ⟨_, (pss_one (ps_ret pe_str)), ?_⟩
    exact s_ret ev_c k
abbrev N_Weights_keeps : List Str := ["self"]
theorem sc_Weights_keeps : FnScope N_Weights_keeps ["self"] (defScope s_Weights_keeps) := ⟨rfl, rfl, rfl, by decide +kernel, rfl, by decide +kernel, by decide +kernel⟩
theorem ok_Weights_keeps {P : Program} {w : World} {K : PySem.W.Frag} {mg : Str → Option Value} {base : Heap} (TT : Top K mg)  : OkM P w K mg base 1 "Weights" "keeps" ["self"] (sp_keeps .weights) := by
  refine TT.okM (d := d_Weights_keeps) 59 106 88 rfl rfl rfl rfl rfl rfl sc_Weights_keeps (fun _ _ _ _ _ _ us hl => match us, hl with | [_], _ => rfl) (fun vs H Q E h => ?_) (fun cdv A outer s H vs Q E hr h => ?_)
  · obtain ⟨x, rfl, _⟩ := h; rfl
  · obtain ⟨x, rfl, k⟩ := h
    refine ⟨_, (pss_one (ps_ret (pe_lst (pa_cons pe_str pa_nil)))), ?_⟩
    exact s_retL (el_lst (ea_cons ev_c ea_nil) (by decide)) k
abbrev N_Ratios_word : List Str := ["self"]
theorem sc_Ratios_word : FnScope N_Ratios_word ["self"] (defScope s_Ratios_word) := ⟨rfl, rfl, rfl, by decide +kernel, rfl, by decide +kernel, by decide +kernel⟩
theorem ok_Ratios_word {P : Program} {w : World} {K : PySem.W.Frag} {mg : Str → Option Value} {base : Heap} (TT : Top K mg)  : OkM P w K mg base 1 "Ratios" "word" ["self"] (sp_word .ratios) := by
  refine TT.okM (d := d_Ratios_word) 61 108 89 rfl rfl rfl rfl rfl rfl sc_Ratios_word (fun _ _ _ _ _ _ us hl => match us, hl with | [_], _ => rfl) (fun vs H Q E h => ?_) (fun cdv A outer s H vs Q E hr h => ?_)
  · obtain ⟨x, rfl, _⟩ := h; rfl
  · obtain ⟨x, rfl, k⟩ := h
    refine ⟨_, (pss_one (ps_ret pe_str)), ?_⟩
    exact s_ret ev_c k
abbrev N_Ratios_keeps : List Str := ["self"]
theorem sc_Ratios_keeps : FnScope N_Ratios_keeps ["self"] (defScope s_Ratios_keeps) := ⟨rfl, rfl, rfl, by decide +kernel, rfl, by decide +kernel, by decide +kernel⟩
theorem ok_Ratios_keeps {P : Program} {w : World} {K : PySem.W.Frag} {mg : Str → Option Value} {base : Heap} (TT : Top K mg)  : OkM P w K mg base 1 "Ratios" "keeps" ["self"] (sp_keeps .ratios) := by
  refine TT.okM (d := d_Ratios_keeps) 62 109 89 rfl rfl rfl rfl rfl rfl sc_Ratios_keeps (fun _ _ _ _ _ _ us hl => match us, hl with | [_], _ => rfl) (fun vs H Q E h => ?_) (fun cdv A outer s H vs Q E hr h => ?_)
  · obtain ⟨x, rfl, _⟩ := h; rfl
  · obtain ⟨x, rfl, k⟩ := h
    refine ⟨_, (pss_one (ps_ret (pe_lst (pa_cons pe_str (pa_cons pe_str pa_nil))))), ?_⟩
    exact s_retL (el_lst (ea_cons ev_c (ea_cons ev_c ea_nil)) (by decide)) k
abbrev N_Products_word : List Str := ["self"]
theorem sc_Products_word : FnScope N_Products_word ["self"] (defScope s_Products_word) := ⟨rfl, rfl, rfl, by decide +kernel, rfl, by decide +kernel, by decide +kernel⟩
theorem ok_Products_word {P : Program} {w : World} {K : PySem.W.Frag} {mg : Str → Option Value} {base : Heap} (TT : Top K mg)  : OkM P w K mg base 1 "Products" "word" ["self"] (sp_word .products) := by
  refine TT.okM (d := d_Products_word) 64 111 90 rfl rfl rfl rfl rfl rfl sc_Products_word (fun _ _ _ _ _ _ us hl => match us, hl with | [_], _ => rfl) (fun vs H Q E h => ?_) (fun cdv A outer s H vs Q E hr h => ?_)
  · obtain ⟨x, rfl, _⟩ := h; rfl
  · obtain ⟨x, rfl, k⟩ := h
    refine ⟨_, (pss_one (ps_ret pe_str)), ?_⟩
    exact s_ret ev_c k
abbrev N_Products_keeps : List Str := ["self"]
theorem sc_Products_keeps : FnScope N_Products_keeps ["self"] (defScope s_Products_keeps) := ⟨rfl, rfl, rfl, by decide +kernel, rfl, by decide +kernel, by decide +kernel⟩
theorem ok_Products_keeps {P : Program} {w : World} {K : PySem.W.Frag} {mg : Str → Option Value} {base : Heap} (TT : Top K mg)  : OkM P w K mg base 1 "Products" "keeps" ["self"] (sp_keeps .products) := by
  refine TT.okM (d := d_Products_keeps) 65 112 90 rfl rfl rfl rfl rfl rfl sc_Products_keeps (fun _ _ _ _ _ _ us hl => match us, hl with | [_], _ => rfl) (fun vs H Q E h => ?_) (fun cdv A outer s H vs Q E hr h => ?_)
  · obtain ⟨x, rfl, _⟩ := h; rfl
  · obtain ⟨x, rfl, k⟩ := h
    refine ⟨_, (pss_one (ps_ret (pe_lst (pa_cons pe_str (pa_cons pe_str pa_nil))))), ?_⟩
    exact s_retL (el_lst (ea_cons ev_c (ea_cons ev_c ea_nil)) (by decide)) k
abbrev N_Leasts_word : List Str := ["self"]
theorem sc_Leasts_word : FnScope N_Leasts_word ["self"] (defScope s_Leasts_word) := ⟨rfl, rfl, rfl, by decide +kernel, rfl, by decide +kernel, by decide +kernel⟩
theorem ok_Leasts_word {P : Program} {w : World} {K : PySem.W.Frag} {mg : Str → Option Value} {base : Heap} (TT : Top K mg)  : OkM P w K mg base 1 "Leasts" "word" ["self"] (sp_word .leasts) := by
  refine TT.okM (d := d_Leasts_word) 67 114 91 rfl rfl rfl rfl rfl rfl sc_Leasts_word (fun _ _ _ _ _ _ us hl => match us, hl with | [_], _ => rfl) (fun vs H Q E h => ?_) (fun cdv A outer s H vs Q E hr h => ?_)
  · obtain ⟨x, rfl, _⟩ := h; rfl
  · obtain ⟨x, rfl, k⟩ := h
    refine ⟨_, (pss_one (ps_ret pe_str)), ?_⟩
    exact s_ret ev_c k
abbrev N_Leasts_keeps : List Str := ["self"]
theorem sc_Leasts_keeps : FnScope N_Leasts_keeps ["self"] (defScope s_Leasts_keeps) := ⟨rfl, rfl, rfl, by decide +kernel, rfl, by decide +kernel, by decide +kernel⟩
theorem ok_Leasts_keeps {P : Program} {w : World} {K : PySem.W.Frag} {mg : Str → Option Value} {base : Heap} (TT : Top K mg)  : OkM P w K mg base 1 "Leasts" "keeps" ["self"] (sp_keeps .leasts) := by
  refine TT.okM (d := d_Leasts_keeps) 68 115 91 rfl rfl rfl rfl rfl rfl sc_Leasts_keeps (fun _ _ _ _ _ _ us hl => match us, hl with | [_], _ => rfl) (fun vs H Q E h => ?_) (fun cdv A outer s H vs Q E hr h => ?_)
  · obtain ⟨x, rfl, _⟩ := h; rfl
  · obtain ⟨x, rfl, k⟩ := h
    refine ⟨_, (pss_one (ps_ret (pe_lst (pa_cons pe_str pa_nil)))), ?_⟩
    exact s_retL (el_lst (ea_cons ev_c ea_nil) (by decide)) k
abbrev N_Halves_word : List Str := ["self"]
theorem sc_Halves_word : FnScope N_Halves_word ["self"] (defScope s_Halves_word) := ⟨rfl, rfl, rfl, by decide +kernel, rfl, by decide +kernel, by decide +kernel⟩
theorem ok_Halves_word {P : Program} {w : World} {K : PySem.W.Frag} {mg : Str → Option Value} {base : Heap} (TT : Top K mg)  : OkM P w K mg base 1 "Halves" "word" ["self"] (sp_word .halves) := by
  refine TT.okM (d := d_Halves_word) 70 117 92 rfl rfl rfl rfl rfl rfl sc_Halves_word (fun _ _ _ _ _ _ us hl => match us, hl with | [_], _ => rfl) (fun vs H Q E h => ?_) (fun cdv A outer s H vs Q E hr h => ?_)
  · obtain ⟨x, rfl, _⟩ := h; rfl
  · obtain ⟨x, rfl, k⟩ := h
    refine ⟨_, (pss_one (ps_ret pe_str)), ?_⟩
    exact s_ret ev_c k
abbrev N_Halves_keeps : List Str := ["self"]
theorem sc_Halves_keeps : FnScope N_Halves_keeps ["self"] (defScope s_Halves_keeps) := ⟨rfl, rfl, rfl, by decide +kernel, rfl, by decide +kernel, by decide +kernel⟩
theorem ok_Halves_keeps {P : Program} {w : World} {K : PySem.W.Frag} {mg : Str → Option Value} {base : Heap} (TT : Top K mg)  : OkM P w K mg base 1 "Halves" "keeps" ["self"] (sp_keeps .halves) := by
  refine TT.okM (d := d_Halves_keeps) 71 118 92 rfl rfl rfl rfl rfl rfl sc_Halves_keeps (fun _ _ _ _ _ _ us hl => match us, hl with | [_], _ => rfl) (fun vs H Q E h => ?_) (fun cdv A outer s H vs Q E hr h => ?_)
  · obtain ⟨x, rfl, _⟩ := h; rfl
  · obtain ⟨x, rfl, k⟩ := h
    refine ⟨_, (pss_one (ps_ret (pe_lst (pa_cons pe_str pa_nil)))), ?_⟩
    exact s_retL (el_lst (ea_cons ev_c ea_nil) (by decide)) k
abbrev N_Turns_init : List Str := ["self", "orders", "order"]
theorem sc_Turns_init : FnScope N_Turns_init ["self", "orders"] (defScope s_Turns_init) := ⟨rfl, rfl, rfl, by decide +kernel, rfl, by decide +kernel, by decide +kernel⟩
theorem ok_Turns_init {P : Program} {w : World} {K : PySem.W.Frag} {mg : Str → Option Value} {base : Heap} (TT : Top K mg) : OkI P w K mg base 1 "Turns" ["self", "orders"] [.non] (sp_init K .turns) := by
  refine TT.okI (d := d_Turns_init) 49 rfl rfl rfl (by intro z; cases z) sc_Turns_init (fun _ _ _ _ _ _ _ us its hl hi => match us, hl, its, hi with | [_], _, [_], _ => ⟨_, rfl, rfl⟩) (fun vs H Q E h => ?_) (fun cdv A outer s H vs Q E hr h => ?_)
  · obtain ⟨x, dx, rfl, _⟩ := h; rfl
  · obtain ⟨x, dx, rfl, hx, k⟩ := h
    refine ⟨_, (pss_cons (sFldK K (pv 0) pe_non)
  (pss_one (ps_if (pt_cmpR op_notN (pv 1) pe_non (nomark _)) (pss_one (sFldK K (pv 0) (pe_lc (own := [("order", 2)]) rfl sc_Turns_init.nd (wList K (pv 1)) (blkOk_by (N := N_Turns_init) (sc := defScope s_Turns_init) (by decide +kernel)) (fun _ _ _ _ _ => (pg_name (i := 2) sc_Turns_init.nd rfl (Or.inl rfl) (Or.inr rfl))) (fun _ _ _ _ _ => pts_nil) (fun _ _ _ _ _ => (cListOf K (TT.free 76) (pa_cons (pv 2) pa_nil)))))) pss_nil))), ?_⟩
    refine q_fld (ev_var rfl) ev_c hx (TT.cls 86) (TT.noat 93) (by decide) fun H1 e1 => ?_
    exact s_when (b := false) (et_test (ev_op (ev_var rfl) ev_c rv_noN)) (fun z => nomatch z) fun _ H2 e2 => k H2 ((ex_upd e1).trans e2)
abbrev N_Rings_init : List Str := ["self", "order"]
theorem sc_Rings_init : FnScope N_Rings_init ["self", "order"] (defScope s_Rings_init) := ⟨rfl, rfl, rfl, by decide +kernel, rfl, by decide +kernel, by decide +kernel⟩
theorem ok_Rings_init {P : Program} {w : World} {K : PySem.W.Frag} {mg : Str → Option Value} {base : Heap} (TT : Top K mg) : OkI P w K mg base 1 "Rings" ["self", "order"] [.non] (sp_init K .rings) := by
  refine TT.okI (d := d_Rings_init) 53 rfl rfl rfl (by intro z; cases z) sc_Rings_init (fun _ _ _ _ _ _ _ us its hl hi => match us, hl, its, hi with | [_], _, [_], _ => ⟨_, rfl, rfl⟩) (fun vs H Q E h => ?_) (fun cdv A outer s H vs Q E hr h => ?_)
  · obtain ⟨x, dx, rfl, _⟩ := h; rfl
  · obtain ⟨x, dx, rfl, hx, k⟩ := h
    refine ⟨_, (pss_cons (sFldK K (pv 0) pe_non)
  (pss_one (ps_if (pt_cmpR op_notN (pv 1) pe_non (nomark _)) (pss_one (sFldK K (pv 0) (cListOf K (TT.free 76) (pa_cons (pv 1) pa_nil)))) pss_nil))), ?_⟩
    refine q_fld (ev_var rfl) ev_c hx (TT.cls 87) (TT.noat 94) (by decide) fun H1 e1 => ?_
    exact s_when (b := false) (et_test (ev_op (ev_var rfl) ev_c rv_noN)) (fun z => nomatch z) fun _ H2 e2 => k H2 ((ex_upd e1).trans e2)
abbrev N_Weights_init : List Str := ["self", "weights"]
theorem sc_Weights_init : FnScope N_Weights_init ["self", "weights"] (defScope s_Weights_init) := ⟨rfl, rfl, rfl, by decide +kernel, rfl, by decide +kernel, by decide +kernel⟩
theorem ok_Weights_init {P : Program} {w : World} {K : PySem.W.Frag} {mg : Str → Option Value} {base : Heap} (TT : Top K mg) : OkI P w K mg base 1 "Weights" ["self", "weights"] [.non] (sp_init K .weights) := by
  refine TT.okI (d := d_Weights_init) 57 rfl rfl rfl (by intro z; cases z) sc_Weights_init (fun _ _ _ _ _ _ _ us its hl hi => match us, hl, its, hi with | [_], _, [_], _ => ⟨_, rfl, rfl⟩) (fun vs H Q E h => ?_) (fun cdv A outer s H vs Q E hr h => ?_)
  · obtain ⟨x, dx, rfl, _⟩ := h; rfl
  · obtain ⟨x, dx, rfl, hx, k⟩ := h
    refine ⟨_, (pss_cons (sFldK K (pv 0) pe_non)
  (pss_one (ps_if (pt_cmpR op_notN (pv 1) pe_non (nomark _)) (pss_one (sFldK K (pv 0) (cListOf K (TT.free 76) (pa_cons (pv 1) pa_nil)))) pss_nil))), ?_⟩
    refine q_fld (ev_var rfl) ev_c hx (TT.cls 88) (TT.noat 95) (by decide) fun H1 e1 => ?_
    exact s_when (b := false) (et_test (ev_op (ev_var rfl) ev_c rv_noN)) (fun z => nomatch z) fun _ H2 e2 => k H2 ((ex_upd e1).trans e2)
abbrev N_Dealer_deal : List Str := ["self", "table"]
theorem sc_Dealer_deal : FnScope N_Dealer_deal ["self", "table"] (defScope s_Dealer_deal) := ⟨rfl, rfl, rfl, by decide +kernel, rfl, by decide +kernel, by decide +kernel⟩
theorem ok_Dealer_deal {P : Program} {w : World} {K : PySem.W.Frag} {mg : Str → Option Value} {base : Heap} (TT : Top K mg) (O_things_of : Ok P w K mg base 1 "things_of" ["table"] [] (sp_things_of K)) : OkM P w K mg base 2 "Dealer" "deal" ["self", "table"] (sp_deal K .dealer) := by
  refine TT.okM (d := d_Dealer_deal) 48 98 85 rfl rfl rfl rfl rfl rfl sc_Dealer_deal (fun _ _ _ _ _ _ us hl => match us, hl with | [_, _], _ => rfl) (fun vs H Q E h => ?_) (fun cdv A outer s H vs Q E hr h => ?_)
  · obtain ⟨s, a, T, h, n, rfl, _⟩ := h; rfl
  · obtain ⟨s', a, T, h, n, rfl, ds, g, c, k⟩ := h
    refine ⟨_, (pss_one (ps_ret (pe_op op_rep (pe_lst (pa_cons pe_int pa_nil)) (pe_cl O_things_of (hr.mono (by decide)) rfl (pa_cons (pv 1) pa_nil))))), ?_⟩
    refine s_retL (el_rep (n := n) ev_c (c_things g (ev_var rfl)) (by have := g.2.n12; omega)) fun p H1 np e1 hp => k _ H1 e1 ⟨p, List.replicate n 0, rfl, ?_, List.length_replicate .., fun x m => ?_, trivial⟩
    · rw [hp]
      unfold natsV
      rw [List.map_replicate]
      rfl
    · rw [(List.mem_replicate.mp m).2]
      exact g.2.h1
abbrev N_Turns_deal : List Str := ["self", "table"]
theorem sc_Turns_deal : FnScope N_Turns_deal ["self", "table"] (defScope s_Turns_deal) := ⟨rfl, rfl, rfl, by decide +kernel, rfl, by decide +kernel, by decide +kernel⟩
theorem ok_Turns_deal {P : Program} {w : World} {K : PySem.W.Frag} {mg : Str → Option Value} {base : Heap} (TT : Top K mg) (O_by_turns : Ok P w K mg base 3 "by_turns" ["table", "orders"] [] (sp_by_turns K)) : OkM P w K mg base 4 "Turns" "deal" ["self", "table"] (sp_deal K .turns) := by
  refine TT.okM (d := d_Turns_deal) 52 101 86 rfl rfl rfl rfl rfl rfl sc_Turns_deal (fun _ _ _ _ _ _ us hl => match us, hl with | [_, _], _ => rfl) (fun vs H Q E h => ?_) (fun cdv A outer s H vs Q E hr h => ?_)
  · obtain ⟨s, a, T, h, n, rfl, _⟩ := h; rfl
  · obtain ⟨s', a, T, h, n, rfl, ⟨d, dx, rfl, hd⟩, g, c, k⟩ := h
    refine ⟨_, (pss_one (ps_ret (pe_ix (ixT K) (pe_cl O_by_turns (hr.mono (by decide)) rfl (pa_cons (pv 1) (pa_cons (eFld K (pv 0)) pa_nil))) pe_int (fun _ _ => rfl)))), ?_⟩
    exact s_retP (ep_ix0 (ep_callP (ea_cons (ev_var rfl) (ea_cons (ev_fld (ev_var rfl) hd (TT.cls 86) (TT.noat 93) rfl) ea_nil)) fun H1 e Q q => ⟨a, T, h, n, rfl, g.mono e, q⟩)) k
abbrev N_Rings_deal : List Str := ["self", "table"]
theorem sc_Rings_deal : FnScope N_Rings_deal ["self", "table"] (defScope s_Rings_deal) := ⟨rfl, rfl, rfl, by decide +kernel, rfl, by decide +kernel, by decide +kernel⟩
theorem ok_Rings_deal {P : Program} {w : World} {K : PySem.W.Frag} {mg : Str → Option Value} {base : Heap} (TT : Top K mg) (O_by_rings : Ok P w K mg base 8 "by_rings" ["table", "order"] [] (sp_by_rings K)) : OkM P w K mg base 9 "Rings" "deal" ["self", "table"] (sp_deal K .rings) := by
  refine TT.okM (d := d_Rings_deal) 56 104 87 rfl rfl rfl rfl rfl rfl sc_Rings_deal (fun _ _ _ _ _ _ us hl => match us, hl with | [_, _], _ => rfl) (fun vs H Q E h => ?_) (fun cdv A outer s H vs Q E hr h => ?_)
  · obtain ⟨s, a, T, h, n, rfl, _⟩ := h; rfl
  · obtain ⟨s', a, T, h, n, rfl, ⟨d, dx, rfl, hd⟩, g, c, k⟩ := h
    refine ⟨_, (pss_one (ps_ret (pe_ix (ixT K) (pe_cl O_by_rings (hr.mono (by decide)) rfl (pa_cons (pv 1) (pa_cons (eFld K (pv 0)) pa_nil))) pe_int (fun _ _ => rfl)))), ?_⟩
    exact s_retP (ep_ix0 (ep_callP (ea_cons (ev_var rfl) (ea_cons (ev_fld (ev_var rfl) hd (TT.cls 87) (TT.noat 94) rfl) ea_nil)) fun H1 e Q q => ⟨a, T, h, n, rfl, g.mono e, q⟩)) k
abbrev N_Weights_deal : List Str := ["self", "table"]
theorem sc_Weights_deal : FnScope N_Weights_deal ["self", "table"] (defScope s_Weights_deal) := ⟨rfl, rfl, rfl, by decide +kernel, rfl, by decide +kernel, by decide +kernel⟩
theorem ok_Weights_deal {P : Program} {w : World} {K : PySem.W.Frag} {mg : Str → Option Value} {base : Heap} (TT : Top K mg) (O_by_weights : Ok P w K mg base 3 "by_weights" ["table", "weights"] [] (sp_by_weights K)) (O_hands_of : Ok P w K mg base 1 "hands_of" ["table"] [] (sp_hands_of K)) : OkM P w K mg base 4 "Weights" "deal" ["self", "table"] (sp_deal K .weights) := by
  refine TT.okM (d := d_Weights_deal) 60 107 88 rfl rfl rfl rfl rfl rfl sc_Weights_deal (fun _ _ _ _ _ _ us hl => match us, hl with | [_, _], _ => rfl) (fun vs H Q E h => ?_) (fun cdv A outer s H vs Q E hr h => ?_)
  · obtain ⟨s, a, T, h, n, rfl, _⟩ := h; rfl
  · obtain ⟨s', a, T, h, n, rfl, ⟨d, dx, rfl, hd⟩, g, c, k⟩ := h
    refine ⟨_, (pss_cons (ps_if (pt_cmpR op_isN (eFld K (pv 0)) pe_non (nomark _)) (pss_one (ps_ret (pe_cl O_by_weights (hr.mono (by decide)) rfl (pa_cons (pv 1) (pa_cons (pe_op op_rep (pe_lst (pa_cons pe_int pa_nil)) (pe_cl O_hands_of (hr.mono (by decide)) rfl (pa_cons (pv 1) pa_nil))) pa_nil))))) pss_nil)
  (pss_one (ps_ret (pe_cl O_by_weights (hr.mono (by decide)) rfl (pa_cons (pv 1) (pa_cons (eFld K (pv 0)) pa_nil)))))), ?_⟩
    refine q_when (b := true) (et_test (ev_op (ev_fld (ev_var rfl) hd (TT.cls 88) (TT.noat 95) rfl) ev_c rv_isN)) (fun _ H1 e1 => ?_) (fun z => nomatch z)
    exact s_retP (ep_call2L (ev_var rfl) (el_rep (n := h) ev_c (c_hands (g.mono e1) (ev_var rfl)) (by have := g.2.h4; omega)) fun p H2 e2 hp Q q => ⟨a, p, T, h, n, rfl, g.mono (e1.trans e2), sq_of hp, q⟩) fun v H2 e2 r => k v H2 (e1.trans e2) r
abbrev N_Ratios_deal : List Str := ["self", "table"]
theorem sc_Ratios_deal : FnScope N_Ratios_deal ["self", "table"] (defScope s_Ratios_deal) := ⟨rfl, rfl, rfl, by decide +kernel, rfl, by decide +kernel, by decide +kernel⟩
theorem ok_Ratios_deal {P : Program} {w : World} {K : PySem.W.Frag} {mg : Str → Option Value} {base : Heap} (TT : Top K mg) (O_by_ratios : Ok P w K mg base 8 "by_ratios" ["table"] [] (sp_by_ratios K)) : OkM P w K mg base 9 "Ratios" "deal" ["self", "table"] (sp_deal K .ratios) := by
  refine TT.okM (d := d_Ratios_deal) 63 110 89 rfl rfl rfl rfl rfl rfl sc_Ratios_deal (fun _ _ _ _ _ _ us hl => match us, hl with | [_, _], _ => rfl) (fun vs H Q E h => ?_) (fun cdv A outer s H vs Q E hr h => ?_)
  · obtain ⟨s, a, T, h, n, rfl, _⟩ := h; rfl
  · obtain ⟨s', a, T, h, n, rfl, _, g, c, k⟩ := h
    refine ⟨_, (pss_one (ps_ret (pe_ix (ixT K) (pe_cl O_by_ratios (hr.mono (by decide)) rfl (pa_cons (pv 1) pa_nil)) pe_int (fun _ _ => rfl)))), ?_⟩
    have c2 : h = 2 := c
    subst c2
    exact s_retP (ep_ix0 (ep_callP (ea_cons (ev_var rfl) ea_nil) fun H1 e Q q => ⟨a, T, n, rfl, g.mono e, q⟩)) k
abbrev N_Products_deal : List Str := ["self", "table"]
theorem sc_Products_deal : FnScope N_Products_deal ["self", "table"] (defScope s_Products_deal) := ⟨rfl, rfl, rfl, by decide +kernel, rfl, by decide +kernel, by decide +kernel⟩
theorem ok_Products_deal {P : Program} {w : World} {K : PySem.W.Frag} {mg : Str → Option Value} {base : Heap} (TT : Top K mg) (O_by_product : Ok P w K mg base 4 "by_product" ["table"] [] (sp_by_product K)) : OkM P w K mg base 5 "Products" "deal" ["self", "table"] (sp_deal K .products) := by
  refine TT.okM (d := d_Products_deal) 66 113 90 rfl rfl rfl rfl rfl rfl sc_Products_deal (fun _ _ _ _ _ _ us hl => match us, hl with | [_, _], _ => rfl) (fun vs H Q E h => ?_) (fun cdv A outer s H vs Q E hr h => ?_)
  · obtain ⟨s, a, T, h, n, rfl, _⟩ := h; rfl
  · obtain ⟨s', a, T, h, n, rfl, _, g, c, k⟩ := h
    refine ⟨_, (pss_one (ps_ret (pe_ix (ixT K) (pe_cl O_by_product (hr.mono (by decide)) rfl (pa_cons (pv 1) pa_nil)) pe_int (fun _ _ => rfl)))), ?_⟩
    exact s_retP (ep_ix0 (ep_callP (ea_cons (ev_var rfl) ea_nil) fun H1 e Q q => ⟨a, T, h, n, rfl, g.mono e, c, q⟩)) k
abbrev N_Leasts_deal : List Str := ["self", "table"]
theorem sc_Leasts_deal : FnScope N_Leasts_deal ["self", "table"] (defScope s_Leasts_deal) := ⟨rfl, rfl, rfl, by decide +kernel, rfl, by decide +kernel, by decide +kernel⟩
theorem ok_Leasts_deal {P : Program} {w : World} {K : PySem.W.Frag} {mg : Str → Option Value} {base : Heap} (TT : Top K mg) (O_by_leasts : Ok P w K mg base 6 "by_leasts" ["table"] [] (sp_by_leasts K)) : OkM P w K mg base 7 "Leasts" "deal" ["self", "table"] (sp_deal K .leasts) := by
  refine TT.okM (d := d_Leasts_deal) 69 116 91 rfl rfl rfl rfl rfl rfl sc_Leasts_deal (fun _ _ _ _ _ _ us hl => match us, hl with | [_, _], _ => rfl) (fun vs H Q E h => ?_) (fun cdv A outer s H vs Q E hr h => ?_)
  · obtain ⟨s, a, T, h, n, rfl, _⟩ := h; rfl
  · obtain ⟨s', a, T, h, n, rfl, _, g, c, k⟩ := h
    refine ⟨_, (pss_one (ps_ret (pe_cl O_by_leasts (hr.mono (by decide)) rfl (pa_cons (pv 1) pa_nil)))), ?_⟩
    have c2 : h ^ n ≤ 100 := c
    exact s_retP (ep_callP (ea_cons (ev_var rfl) ea_nil) fun H1 e Q q => ⟨a, T, h, n, rfl, g.mono e, by omega, q⟩) k
abbrev N_Halves_deal : List Str := ["self", "table"]
theorem sc_Halves_deal : FnScope N_Halves_deal ["self", "table"] (defScope s_Halves_deal) := ⟨rfl, rfl, rfl, by decide +kernel, rfl, by decide +kernel, by decide +kernel⟩
theorem ok_Halves_deal {P : Program} {w : World} {K : PySem.W.Frag} {mg : Str → Option Value} {base : Heap} (TT : Top K mg) (O_by_halves : Ok P w K mg base 6 "by_halves" ["table"] [] (sp_by_halves K)) : OkM P w K mg base 7 "Halves" "deal" ["self", "table"] (sp_deal K .halves) := by
  refine TT.okM (d := d_Halves_deal) 72 119 92 rfl rfl rfl rfl rfl rfl sc_Halves_deal (fun _ _ _ _ _ _ us hl => match us, hl with | [_, _], _ => rfl) (fun vs H Q E h => ?_) (fun cdv A outer s H vs Q E hr h => ?_)
  · obtain ⟨s, a, T, h, n, rfl, _⟩ := h; rfl
  · obtain ⟨s', a, T, h, n, rfl, _, g, c, k⟩ := h
    refine ⟨_, (pss_one (ps_ret (pe_ix (ixT K) (pe_cl O_by_halves (hr.mono (by decide)) rfl (pa_cons (pv 1) pa_nil)) pe_int (fun _ _ => rfl)))), ?_⟩
    exact s_retP (ep_ix0 (ep_callP (ea_cons (ev_var rfl) ea_nil) fun H1 e Q q => ⟨a, T, h, n, rfl, g.mono e, q⟩)) k
end Lk

namespace Lk
open PySem PySem.Spec PyProof.Rows L2 Evl LE
/-! ### a dealer by its word -/
section
variable {K : PySem.W.Frag} {H : Hp} {σ : L2.St} {ta tb tl : TE} {tas : TA} {D : Ends} {tu tz : TS} {g : TG}
theorem s_forE {G : Addr → List V → Hp → Prop} (h : EvP tl σ H (fun v H2 => ∃ a ys, v = .ref a ∧ H2 a = some (.lst ys) ∧ G a ys H2))
    (k : ∀ a ys H1, Ex H H1 → H1 a = some (.lst ys) → G a ys H1 → ∃ Pv : Nat → L2.St → Hp → Prop, Pv 0 σ H1 ∧ (∀ i σ' H', i ≤ ys.length → Pv i σ' H' → SqL K H' a ys) ∧ (∀ i x σ' H', ys[i]? = some x → Pv i σ' H' → g x σ' H' fun σ2 H2 => tu { D with nx := Pv (i + 1), ct := Pv (i + 1), bk := D.nx } σ2 H2) ∧ (∀ σ' H', Pv ys.length σ' H' → D.nx σ' H')) :
    tFor (iList K tl) g tu D σ H := h H (Ex.refl H) _ fun v H1 e ⟨a, ys, ev, ha, gg⟩ => let ⟨Pv, h0, hl, hs, hd⟩ := k a ys H1 e ha gg; ⟨a, ev, ⟨ys, sq_of ha⟩, for_list Pv h0 hl hs hd⟩
theorem q_forE {G : Addr → List V → Hp → Prop} (h : EvP tl σ H (fun v H2 => ∃ a ys, v = .ref a ∧ H2 a = some (.lst ys) ∧ G a ys H2))
    (k : ∀ a ys H1, Ex H H1 → H1 a = some (.lst ys) → G a ys H1 → ∃ Pv : Nat → L2.St → Hp → Prop, Pv 0 σ H1 ∧ (∀ i σ' H', i ≤ ys.length → Pv i σ' H' → SqL K H' a ys) ∧ (∀ i x σ' H', ys[i]? = some x → Pv i σ' H' → g x σ' H' fun σ2 H2 => tu { D with nx := Pv (i + 1), ct := Pv (i + 1), bk := tz D } σ2 H2) ∧ (∀ σ' H', Pv ys.length σ' H' → tz D σ' H')) :
    tSeq (tFor (iList K tl) g tu) tz D σ H := s_forE (D := { D with nx := tz D }) h k
/-- the values of some expressions stand for data -/
def PdA {α : Type} (E : α → V → Hp → Prop) (ta : TA) (σ : L2.St) (H : Hp) (xs : List α) : Prop := ∀ H1, Ex H H1 → ∀ Q : List V → Hp → Prop, (∀ ys H2, Ex H1 H2 → Pd E xs ys H2 → Q ys H2) → ta σ H1 Q
theorem pda_nil {α : Type} {E : α → V → Hp → Prop} : PdA E tNil σ H [] := fun H1 _ Q q => q [] H1 (Ex.refl _) .nil
theorem pda_cons {α : Type} {E : α → V → Hp → Prop} (m : ∀ x, Mono (E x)) {x : α} {xs : List α} (h : EvP ta σ H (E x)) (hr : PdA E tas σ H xs) : PdA E (tCons ta tas) σ H (x :: xs) := fun H1 e Q q =>
  h H1 e _ fun v H2 e2 r => hr H2 (e.trans e2) _ fun ys H3 e3 p => q (v :: ys) H3 (e2.trans e3) (.cons (m x _ _ _ e3 r) p)
theorem ep_lstA {α : Type} {E : α → V → Hp → Prop} (m : ∀ x, Mono (E x)) {xs : List α} (h : PdA E tas σ H xs) (hl : xs.length ≤ 100000) : EvP (tLst tas) σ H (fun v H2 => ∃ a ys, v = .ref a ∧ H2 a = some (.lst ys) ∧ Pd E xs ys H2) := fun H1 e Q q =>
  h H1 e _ fun ys H2 e2 p => ⟨by rw [← p.length]; exact sz_of hl, fun a ha => q _ _ (e2.trans (Ex.new ha)) ⟨a, ys, rfl, upd_same, p.mono m (Ex.new ha)⟩⟩
theorem ep_mk0 (i : Kd) (hf : fld i = []) : EvP (tMake0 (He.ga K (nm i))) σ H (dlE K i) := fun H1 e Q q => fun x dx nx ndx ne => q _ _ (fun b o hb => by
    rw [upd_ne (ne_of_none hb nx), upd_ne (ne_of_none hb ndx)]
    exact hb) ⟨x, dx, rfl, by rw [upd_same, hf]⟩
theorem ep_mkr (i : Kd) {E : XK} : EvP (tMake (He.ga K (nm i)) (sp_init K i) [.non] E tNil) σ H (dlE K i) := fun H1 e Q q => fun x dx nx ndx ne => ⟨x, dx, rfl, upd_same, fun H2 e2 => ⟨rfl, q _ H2 (fun b o hb => by
    refine e2 b o ?_
    rw [upd_ne (ne_of_none hb nx), upd_ne (ne_of_none hb nx), upd_ne (ne_of_none hb ndx)]
    exact hb) ⟨x, dx, rfl, e2 x _ upd_same⟩⟩⟩
/-- dealer.word() -/
theorem ev_word {i : Kd} {v : V} {E : XK} (h : Ev ta σ H v) (hd : dlE K i v H) : Ev (fun σ H Q => ∃ i, tMeth (He.ga K (nm i)) "word" (sp_word i) [] E ta tNil σ H Q) σ H (.str (wd i)) := fun H1 e Q q =>
  ⟨i, h H1 e _ fun H2 e2 => by
    obtain ⟨a, dx, ev, ha⟩ := hd
    exact ⟨a, dx, fld i, ev, (e.trans e2) a _ ha, by cases i <;> rfl, v, rfl, fun H3 e3 => q H3 (e2.trans e3)⟩⟩
theorem el_keeps {i : Kd} {v : V} {E : XK} (h : Ev ta σ H v) (hd : dlE K i v H) : EvL (fun σ H Q => ∃ i, tMeth (He.ga K (nm i)) "keeps" (sp_keeps i) [] E ta tNil σ H Q) σ H ((kp i).map V.str) := fun H1 e Q q =>
  ⟨i, h H1 e _ fun H2 e2 => by
    obtain ⟨a, dx, ev, ha⟩ := hd
    exact ⟨a, dx, fld i, ev, (e.trans e2) a _ ha, by cases i <;> rfl, v, rfl, fun p H3 hp e3 h3 => q p H3 (fresh_back e2 hp) (e2.trans e3) h3⟩⟩
theorem ep_deal {i : Kd} {v : V} {E : XK} {T : List (List Int)} {h n : Nat} (hv : Ev ta σ H v) (hd : dlE K i v H) (ht : EvP tb σ H (fun u H2 => ∃ a, u = .ref a ∧ GT K H2 a T h n)) (c : Cond i h n) :
    EvP (fun σ H Q => ∃ i, tMeth (He.ga K (nm i)) "deal" (sp_deal K i) [] E ta (tCons tb tNil) σ H Q) σ H (DealV h n (Good i T h)) := fun H1 e Q q =>
  ⟨i, hv H1 e _ fun H2 e2 => by
    have hd2 := dlE_mono K i _ _ _ (e.trans e2) hd
    obtain ⟨a, dx, ev, ha⟩ := hd
    refine ⟨a, dx, fld i, ev, (e.trans e2) a _ ha, by cases i <;> rfl, ?_⟩
    refine ht H2 (e.trans e2) _ fun u H3 e3 ⟨b, eu, g⟩ => ?_
    subst eu
    exact ⟨v, b, T, h, n, rfl, dlE_mono K i _ _ _ e3 hd2, g, c, fun w H4 e4 r => q w H4 ((e2.trans e3).trans e4) r⟩⟩
end
def allKd : List Kd := [.dealer, .turns, .rings, .weights, .ratios, .products, .leasts, .halves]
theorem wd_inj : ∀ i j : Kd, wd i = wd j → i = j := by
  intro i j
  cases i <;> cases j <;> first | (intro _; rfl) | (intro h; exact absurd h (by decide))
theorem mem_allKd (i : Kd) : i ∈ allKd := by cases i <;> decide
def sp_dealer_by (K : PySem.W.Frag) : Sp := fun vs H Q _ => ∃ i : Kd, vs = [.str (wd i)] ∧ RetP (dlE K i) H Q
abbrev N_dealer_by : List Str := ["word", "dealer"]
theorem sc_dealer_by : FnScope N_dealer_by ["word"] (defScope s_dealer_by) := ⟨rfl, rfl, rfl, by decide +kernel, rfl, by decide +kernel, by decide +kernel⟩
theorem ok_dealer_by {P : Program} {w : World} {K : PySem.W.Frag} {mg : Str → Option Value} {base : Heap} (TT : Top K mg) (O_word : ∀ i, OkM P w K mg base 1 (nm i) "word" ["self"] (sp_word i)) (O_Turns_init : OkI P w K mg base 1 "Turns" ["self", "orders"] [.non] (sp_init K .turns)) (O_Rings_init : OkI P w K mg base 1 "Rings" ["self", "order"] [.non] (sp_init K .rings)) (O_Weights_init : OkI P w K mg base 1 "Weights" ["self", "weights"] [.non] (sp_init K .weights)) : Ok P w K mg base 4 "dealer_by" ["word"] [] (sp_dealer_by K) := by
  refine TT.ok (d := d_dealer_by) 73 46 rfl rfl rfl rfl rfl sc_dealer_by (fun _ _ _ _ _ _ us hl => match us, hl with | [_], _ => rfl) (fun vs H Q E h => ?_) (fun cdv A outer s H vs Q E hr h => ?_)
  · obtain ⟨i, rfl, _⟩ := h; rfl
  · obtain ⟨i, rfl, k⟩ := h
    refine ⟨_, (pss_cons (ps_for PassesOwn.never rfl (wList K (pe_lst (pa_cons (pe_mk0 (TT.bareDealer) rfl (TT.glo 62)) (pa_cons (pe_mkr (TT.mkr 120) O_Turns_init (hr.mono (by decide)) rfl (TT.glo 63)) (pa_cons (pe_mkr (TT.mkr 121) O_Rings_init (hr.mono (by decide)) rfl (TT.glo 64)) (pa_cons (pe_mkr (TT.mkr 122) O_Weights_init (hr.mono (by decide)) rfl (TT.glo 65)) (pa_cons (pe_mk0 (TT.bareRatios) rfl (TT.glo 66)) (pa_cons (pe_mk0 (TT.bareProducts) rfl (TT.glo 67)) (pa_cons (pe_mk0 (TT.bareLeasts) rfl (TT.glo 68)) (pa_cons (pe_mk0 (TT.bareHalves) rfl (TT.glo 69)) pa_nil)))))))))) (pg_name (i := 1) sc_dealer_by.nd rfl (Or.inl rfl) (Or.inr rfl)) (pss_one (ps_if (pt_cmpR op_eq (pe_cm0 O_word (fun i => hr.mono (by cases i <;> decide)) (pv 1)) (pv 0) (nomark _)) (pss_one (ps_ret (pv 1))) pss_nil)))
  (pss_one ps_never)), ?_⟩
    refine q_forE (G := fun _ ys H2 => Pd (dlE K) allKd ys H2) (ep_lstA (dlE_mono K) (pda_cons (dlE_mono K) (ep_mk0 .dealer rfl) (pda_cons (dlE_mono K) (ep_mkr .turns) (pda_cons (dlE_mono K) (ep_mkr .rings) (pda_cons (dlE_mono K) (ep_mkr .weights) (pda_cons (dlE_mono K) (ep_mk0 .ratios rfl) (pda_cons (dlE_mono K) (ep_mk0 .products rfl) (pda_cons (dlE_mono K) (ep_mk0 .leasts rfl) (pda_cons (dlE_mono K) (ep_mk0 .halves rfl) pda_nil)))))))) (by decide)) fun a ys H1 e1 ha pd => ?_
    refine ⟨fun m σ' H' => ∃ v1, σ' = [some (.str (wd i)), v1] ∧ Ex H1 H' ∧ i ∉ allKd.take m, ⟨none, rfl, Ex.refl _, by simp⟩, fun m σ' H' _ ⟨_, _, e, _⟩ => sq_of (e a _ ha), fun m x σ' H' hx ⟨v1, es, ex, no⟩ => ?_, fun σ' H' ⟨v1, es, ex, no⟩ => ?_⟩
    · subst es
      have lm := (List.getElem?_eq_some_iff.mp hx).1
      have l2 : m < allKd.length := by rw [pd.length]; exact lm
      obtain ⟨y, q1, q2⟩ := pd.get (List.getElem?_eq_getElem l2)
      rw [hx] at q1
      cases q1
      refine s_when (et_test (ev_op (ev_word (ev_var rfl) (dlE_mono K _ _ _ _ ex q2)) (ev_var rfl) (rv_eq rfl))) (fun hb H2 e2 => ?_) (fun hb H2 e2 => ?_)
      · have hb := of_decide_eq_true hb
        have ei : allKd[m] = i := wd_inj _ _ (by injection hb)
        rw [ei] at q2
        exact s_ret (ev_var rfl) fun H3 e3 => k _ H3 (((e1.trans ex).trans e2).trans e3) (dlE_mono K _ _ _ _ ((ex.trans e2).trans e3) q2)
      · have hb := of_decide_eq_false hb
        refine ⟨_, rfl, ex.trans e2, fun mm => ?_⟩
        rw [List.take_add_one, List.getElem?_eq_getElem l2] at mm
        rcases List.mem_append.mp mm with z | z
        · exact no z
        · have ei : i = allKd[m] := by simpa using z
          exact hb (by rw [← ei])
    · rw [← pd.length, List.take_length] at no
      exact absurd (mem_allKd i) no
end Lk

namespace Lk
open PySem PySem.Spec PyProof.Rows L2 Evl LE
/-! ### what the law looks at -/
section
variable {K : PySem.W.Frag} {H : Hp} {σ : L2.St} {ta tb tl te : TE} {a p : Addr} {T : List (List Int)} {h n : Nat} {E : XK} {x z : V} {r : R2} {R : V → Hp → Prop} {ns : List Int} {xs : List V}
theorem ev_lenTab (g : GT K H a T h n) (e : Ev ta σ H (.ref a)) : Ev (tCB (rLenS K) (tCons ta tNil)) σ H (.int (h : Int)) := by
  obtain ⟨rs, g1, g2⟩ := g.len
  exact ev_is (ev_len e g1) (by rw [List.length_map, g2])
theorem ev_lenRow (g : GT K H a T h n) (e : Ev ta σ H (.ref a)) : Ev (tCB (rLenS K) (tCons (tOp (rIxL K) ta (tC (.int 0))) tNil)) σ H (.int (n : Int)) := by
  obtain ⟨rs', r, row, r1, r2, r3, r4, r5⟩ := g.row (i := 0) g.2.h1
  exact ev_is (ev_len (ev_op e ev_c (rv_ixL r1 (atI_nat (j := 0) r2))) r5) (by rw [intsV_len, g.2.rows row r4])
theorem ev_lenNt {ds : List Nat} (h1 : SqL K H p (natsV ds)) (e : Ev ta σ H (.ref p)) : Ev (tCB (rLenS K) (tCons ta tNil)) σ H (.int ((ds.length : Nat) : Int)) := ev_is (ev_len e h1) (by rw [natsV_len])
theorem ev_opP (ha : Ev ta σ H x) (hb : EvP tb σ H R) (hr : ∀ y H1, Ex H H1 → R y H1 → RV r x y H1 z) : Ev (tOp r ta tb) σ H z := fun H1 e Q q =>
  ha H1 e _ fun H2 e2 => hb H2 (e.trans e2) _ fun y H3 e3 ry => hr y H3 ((e.trans e2).trans e3) ry H3 (Ex.refl _) Q fun H4 e4 => q H4 ((e2.trans e3).trans e4)
theorem ev_opP1 {y : V} (ha : EvP ta σ H R) (hb : ∀ H1, Ex H H1 → Ev tb σ H1 y) (hr : ∀ x H1, Ex H H1 → R x H1 → RV r x y H1 z) : Ev (tOp r ta tb) σ H z := fun H1 e Q q =>
  ha H1 e _ fun x H2 e2 rx => by
    refine hb H2 (e.trans e2) H2 (Ex.refl _) _ fun H3 e3 => ?_
    exact (hr x H2 (e.trans e2) rx) H3 e3 Q fun H4 e4 => q H4 ((e2.trans e3).trans e4)
/-- x - y, y told by R -/
theorem ep_subP {i : Int} (ha : Ev ta σ H (.int i)) {M : Int → Prop} (hb : EvP tb σ H (fun v _ => ∃ k, v = .int k ∧ M k)) : EvP (tOp (rI0 fun i j => .int (i - j)) ta tb) σ H (fun v _ => ∃ x, v = .int (i - x) ∧ ∃ k, V.int x = .int k ∧ M k) := fun H1 e Q q =>
  ha H1 e _ fun H2 e2 => hb H2 (e.trans e2) _ fun v H3 e3 ⟨k, ev, m⟩ => ⟨i, k, rfl, ev, q _ H3 (e2.trans e3) ⟨k, rfl, k, rfl, m⟩⟩
theorem ep_max (h : Ev te σ H (.ref p)) (hx : SqL K H p (intsV ns)) (ne : ns ≠ []) : EvP (tCB (rMax K) (tCons te tNil)) σ H (fun v _ => ∃ k, v = .int k ∧ k ∈ ns ∧ ∀ j, j ∈ ns → j ≤ k) := fun H1 e Q q =>
  h H1 e _ fun H2 e2 => ⟨p, ns, rfl, ex_l (e.trans e2) hx, List.length_pos_iff.mpr ne, fun m h1 h2 => q _ H2 e2 ⟨m, rfl, h1, h2⟩⟩
theorem ep_min (h : Ev te σ H (.ref p)) (hx : SqL K H p (intsV ns)) (ne : ns ≠ []) : EvP (tCB (rMin K) (tCons te tNil)) σ H (fun v _ => ∃ k, v = .int k ∧ k ∈ ns ∧ ∀ j, j ∈ ns → k ≤ j) := fun H1 e Q q =>
  h H1 e _ fun H2 e2 => ⟨p, ns, rfl, ex_l (e.trans e2) hx, List.length_pos_iff.mpr ne, fun m h1 h2 => q _ H2 e2 ⟨m, rfl, h1, h2⟩⟩
theorem ev_sum (h : Ev te σ H (.ref p)) (hx : SqL K H p (intsV ns)) : Ev (tCB (rSum K) (tCons te tNil)) σ H (.int ns.sum) := fun H1 e Q q => h H1 e _ fun H2 e2 => ⟨p, ns, rfl, ex_l (e.trans e2) hx, q H2 e2⟩
theorem el_sortedA (h : Ev ta σ H (.ref a)) (hx : SqL K H a (intsV ns)) (hl : ns.length < 64) : EvL (tCB (rSorted K) (tCons ta tNil)) σ H (intsV (srt ns)) := fun H1 e Q q => h H1 e _ fun H2 e2 =>
  ⟨a, ns, rfl, ex_l (e.trans e2) hx, hl, fun ns' p pm pw hp => q p _ (fresh_back e2 hp) (e2.trans (Ex.new hp)) (by rw [upd_same, srt_only pm pw]; rfl)⟩
end
theorem shs_at {w : Nat → Nat → Int} {m h i : Nat} {D : Nat → Option Nat} (hi : i < h) : (shs w m h D)[i]? = some (shr w m D i) := by
  unfold shs
  rw [List.getElem?_map, List.getElem?_range hi]
  rfl
/-- what the heaps are worth to i, the first m things -/
def heapsL (w : Nat → Nat → Int) (m h : Nat) (D : Nat → Option Nat) (i : Nat) : List Int := (List.range h).map fun j => val w m D i j
theorem heaps_at {w : Nat → Nat → Int} {m h i j : Nat} {D : Nat → Option Nat} (hj : j < h) : (heapsL w m h D i)[j]? = some (val w m D i j) := by
  unfold heapsL
  rw [List.getElem?_map, List.getElem?_range hj]
  rfl
theorem heaps_step {w : Nat → Nat → Int} {m h i o : Nat} {D : Nat → Option Nat} (e : D m = some o) (ho : o < h) : (heapsL w m h D i).set o (val w m D i o + w i m) = heapsL w (m + 1) h D i := by
  refine List.ext_getElem? fun j => ?_
  rw [List.getElem?_set]
  have l : (heapsL w m h D i).length = h := by unfold heapsL; rw [List.length_map, List.length_range]
  rw [l]
  by_cases q : o = j
  · subst q
    rw [if_pos rfl, if_pos ho, heaps_at ho]
    congr 1
    show _ = val w m D i o + if D m = some o then w i m else 0
    rw [if_pos e]
  · rw [if_neg q]
    by_cases hj : j < h
    · rw [heaps_at hj, heaps_at hj]
      congr 1
      show _ = val w m D i j + if D m = some j then w i m else 0
      rw [if_neg (fun z => q (by rw [e] at z; exact Option.some.inj z)), Int.add_zero]
    · unfold heapsL
      rw [List.getElem?_eq_none (by rw [List.length_map, List.length_range]; omega), List.getElem?_eq_none (by rw [List.length_map, List.length_range]; omega)]
theorem shs_step {w : Nat → Nat → Int} {m h o : Nat} {D : Nat → Option Nat} (e : D m = some o) (ho : o < h) : (shs w m h D).set o (shr w m D o + w o m) = shs w (m + 1) h D := by
  refine List.ext_getElem? fun j => ?_
  rw [List.getElem?_set, shs_len]
  by_cases q : o = j
  · subst q
    rw [if_pos rfl, if_pos ho, shs_at ho]
    congr 1
    show _ = shr w m D o + if D m = some o then w o m else 0
    rw [if_pos e]
  · rw [if_neg q]
    by_cases hj : j < h
    · rw [shs_at hj, shs_at hj]
      congr 1
      show _ = shr w m D j + if D m = some j then w j m else 0
      rw [if_neg (fun z => q (by rw [e] at z; exact Option.some.inj z)), Int.add_zero]
    · rw [List.getElem?_eq_none (by rw [shs_len]; omega), List.getElem?_eq_none (by rw [shs_len]; omega)]
theorem shs_zero {w : Nat → Nat → Int} {h : Nat} {D : Nat → Option Nat} : intsV (shs w 0 h D) = List.replicate h (.int 0) := by
  unfold intsV shs
  rw [List.map_map]
  refine List.ext_getElem? fun i => ?_
  rw [List.getElem?_map, List.getElem?_replicate]
  by_cases hi : i < h
  · rw [List.getElem?_range hi, if_pos hi]; rfl
  · rw [List.getElem?_eq_none (by rw [List.length_range]; omega), if_neg hi]; rfl
theorem heaps_zero {w : Nat → Nat → Int} {h i : Nat} {D : Nat → Option Nat} : intsV (heapsL w 0 h D i) = List.replicate h (.int 0) := by
  unfold intsV heapsL
  rw [List.map_map]
  refine List.ext_getElem? fun i => ?_
  rw [List.getElem?_map, List.getElem?_replicate]
  by_cases hi : i < h
  · rw [List.getElem?_range hi, if_pos hi]; rfl
  · rw [List.getElem?_eq_none (by rw [List.length_range]; omega), if_neg hi]; rfl
theorem intsV_set (ns : List Int) (j : Nat) (x : Int) : (intsV ns).set j (.int x) = intsV (ns.set j x) := by
  unfold intsV
  rw [List.map_set]
def sp_L_shares (K : PySem.W.Frag) : Sp := fun vs H Q _ => ∃ a p T h n ds, vs = [.ref a, .ref p] ∧ GT K H a T h n ∧ SqL K H p (natsV ds) ∧ FullD n h ds ∧ RetL (intsV (shs (wt T) n h (Dn ds))) H Q
abbrev N_L_shares : List Str := ["_law_table", "_law_deal", "_law_shares_here", "_law_thing", "_law_owner"]
theorem sc_L_shares : FnScope N_L_shares ["_law_table", "_law_deal"] (defScope s_L_shares) := ⟨rfl, rfl, rfl, by decide +kernel, rfl, by decide +kernel, by decide +kernel⟩
theorem ok_L_shares {P : Program} {w : World} {K : PySem.W.Frag} {mg : Str → Option Value} {base : Heap} (TT : Top K mg)  : Ok P w K mg base 1 "_law_shares" ["_law_table", "_law_deal"] [] (sp_L_shares K) := by
  refine TT.ok (d := d_L_shares) 78 51 rfl rfl rfl rfl rfl sc_L_shares (fun _ _ _ _ _ _ us hl => match us, hl with | [_, _], _ => rfl) (fun vs H Q E h => ?_) (fun cdv A outer s H vs Q E hr h => ?_)
  · obtain ⟨a, p, T, h, n, ds, rfl, _⟩ := h; rfl
  · obtain ⟨a, p, T, h, n, ds, rfl, g, hp, f, k⟩ := h
    refine ⟨_, (pss_cons (ps_set (i := 2) sc_L_shares.nd rfl (Or.inl rfl) (pe_op op_rep (pe_lst (pa_cons pe_int pa_nil)) (cLen K (TT.free 70) (pa_cons (pv 0) pa_nil))))
  (pss_cons (ps_for PassesOwn.never rfl (pi_range1 rfl (TT.free 71) (pa_cons (cLen K (TT.free 70) (pa_cons (pv 1) pa_nil)) pa_nil)) (pg_name (i := 3) sc_L_shares.nd rfl (Or.inl rfl) (Or.inr rfl)) (pss_cons (ps_set (i := 4) sc_L_shares.nd rfl (Or.inl rfl) (pe_ix (ixL K) (pv 1) (pv 3) (fun _ _ => rfl)))
  (pss_one (ps_asg (pe_op op_add (pe_ix (ixL K) (pv 2) (pv 4) (fun _ _ => rfl)) (pe_ix (ixL K) (pe_ix (ixL K) (pv 0) (pv 4) (fun _ _ => rfl)) (pv 3) (fun _ _ => rfl))) (pg_sub (pv 2) (pv 4) set_list)))))
  (pss_one (ps_ret (pv 2))))), ?_⟩
    have n12 := g.2.n12
    have h4 := g.2.h4
    refine q_asgL (el_rep (n := h) ev_c (ev_lenTab g (ev_var rfl)) (by omega)) fun ps H1 nps e1 hps => ?_
    refine q_forR1 (n := ((ds.length : Nat) : Int)) (ea_cons (ev_lenNt (ex_l e1 hp) (ev_var rfl)) ea_nil) (by rw [f.1]; omega) (fun m σ' H' => ∃ v3 v4, σ' = [some (.ref a), some (.ref p), some (.ref ps), v3, v4] ∧ Ex H H' ∧ H' ps = some (.lst (intsV (shs (wt T) m h (Dn ds)))))
      (fun H2 e2 => ⟨none, none, rfl, e1.trans e2, by rw [e2 ps _ hps, shs_zero]⟩) (fun m σ' H' hm pr => ?_) (fun σ' H' pr => ?_)
    · obtain ⟨v3, v4, rfl, ex, hps⟩ := pr
      have hm' : m < ds.length := by omega
      have hmn : m < n := by rw [← f.1]; exact hm'
      have ho : ds.getD m 0 < h := f.2 _ (getD_mem hm')
      have ed : Dn ds m = some (ds.getD m 0) := getD_at hm'
      refine q_asg (ev_op (ev_var rfl) (ev_var rfl) (rv_ixL (ex_l ex hp) (atI_nat (natsV_get (getD_at (d := 0) hm'))))) fun H2 e2 => ?_
      refine s_setL (xs := intsV (shs (wt T) m h (Dn ds))) (j := ds.getD m 0) (v := .int (shr (wt T) m (Dn ds) (ds.getD m 0) + wt T (ds.getD m 0) m)) (e2 ps _ hps) (ev_add (ev_op (ev_var rfl) (ev_var rfl) (rv_ixL (sq_of (e2 ps _ hps)) (atI_nat (intsV_get (shs_at ho))))) (ev_cell (g.mono (ex.trans e2)) ho hmn (ev_var rfl) (ev_var rfl) (ev_var rfl))) (ev_var rfl) (ev_var rfl) (by rw [intsV_len, shs_len]; exact ho) fun H3 e3 => ⟨_, _, rfl, Ex.mut ((ex.trans e2).trans e3) nps, ?_⟩
      rw [upd_same, intsV_set, shs_step ed ho]
    · obtain ⟨v3, v4, rfl, ex, hps⟩ := pr
      rw [Int.toNat_natCast, f.1] at hps
      exact s_ret (ev_var rfl) fun H3 e3 => k ps H3 nps (ex.trans e3) (e3 ps _ hps)
def sp_L_score (K : PySem.W.Frag) : Sp := fun vs H Q _ => ∃ p ns, vs = [.ref p] ∧ SqL K H p (intsV ns) ∧ (∀ x, x ∈ ns → 0 ≤ x ∧ x ≤ 100000000000000) ∧ RetU [.int (cntL ns), .int (prdL ns)] H Q
abbrev N_L_score : List Str := ["_law_shares_here", "_law_product", "_law_many", "_law_share"]
theorem sc_L_score : FnScope N_L_score ["_law_shares_here"] (defScope s_L_score) := ⟨rfl, rfl, rfl, by decide +kernel, rfl, by decide +kernel, by decide +kernel⟩
theorem ok_L_score {P : Program} {w : World} {K : PySem.W.Frag} {mg : Str → Option Value} {base : Heap} (TT : Top K mg)  : Ok P w K mg base 1 "_law_score" ["_law_shares_here"] [] (sp_L_score K) := by
  refine TT.ok (d := d_L_score) 82 55 rfl rfl rfl rfl rfl sc_L_score (fun _ _ _ _ _ _ us hl => match us, hl with | [_], _ => rfl) (fun vs H Q E h => ?_) (fun cdv A outer s H vs Q E hr h => ?_)
  · obtain ⟨p, ns, rfl, _⟩ := h; rfl
  · obtain ⟨p, ns, rfl, hp, lim, k⟩ := h
    refine ⟨_, (pss_cons (ps_set (i := 1) sc_L_score.nd rfl (Or.inl rfl) pe_int)
  (pss_cons (ps_set (i := 2) sc_L_score.nd rfl (Or.inl rfl) pe_int)
  (pss_cons (ps_for PassesOwn.never rfl (wList K (pv 0)) (pg_name (i := 3) sc_L_score.nd rfl (Or.inl rfl) (Or.inr rfl)) (pss_one (ps_if (pt_cmpR op_gt (pv 3) pe_int (nomark _)) (pss_cons (ps_set (i := 2) sc_L_score.nd rfl (Or.inl rfl) (pe_op op_add (pv 2) pe_int))
  (pss_one (ps_set (i := 1) sc_L_score.nd rfl (Or.inl rfl) (pe_op op_mul (pv 1) (pv 3))))) pss_nil)))
  (pss_one (ps_ret (pe_tup (pa_cons (pv 2) (pa_cons (pv 1) pa_nil)))))))), ?_⟩
    refine q_asg ev_c fun H1 e1 => q_asg ev_c fun H2 e2 => ?_
    refine q_forLn (xs := intsV ns) (ev_var rfl) (ex_l (e1.trans e2) hp) (fun m σ' H' => ∃ v, σ' = [some (.ref p), some (.int (prdL (ns.take m))), some (.int (cntL (ns.take m))), v] ∧ Ex H H') (fun H3 e3 => ⟨none, rfl, (e1.trans e2).trans e3⟩) (fun m σ' H' _ ⟨_, _, e⟩ => ex_l e hp) (fun m x σ' H' hx pr => ?_) (fun σ' H' pr => ?_)
    · obtain ⟨v, rfl, ex⟩ := pr
      obtain ⟨x, hy, rfl⟩ := intsV_at hx
      clear hx
      have hx := hy
      obtain ⟨x0, x1⟩ := lim x (List.mem_of_getElem? hx)
      refine s_when (et_test (ev_op (ev_var rfl) ev_c rv_I0)) (fun z H3 e3 => ?_) (fun z H3 e3 => ?_)
      · have z := of_decide_eq_true z
        have cm : CMul (prdL (ns.take m)) x := .inr ⟨by omega, by omega⟩
        refine q_asg (ev_add (ev_var rfl) ev_c) fun H4 e4 => s_asg (ev_op (ev_var rfl) (ev_var rfl) (rv_I cm)) fun H5 e5 => ⟨some (.int x), ?_, ((ex.trans e3).trans e4).trans e5⟩
        rw [take_at hx, cntL_app, prdL_app]
        unfold c1 q1
        rw [if_pos z, if_pos z]
        rfl
      · have z := of_decide_eq_false z
        refine ⟨some (.int x), ?_, ex.trans e3⟩
        rw [take_at hx, cntL_app, prdL_app]
        unfold c1 q1
        rw [if_neg z, if_neg z, Int.add_zero, Int.mul_one]
        rfl
    · obtain ⟨v, rfl, ex⟩ := pr
      rw [intsV_len, List.take_length]
      exact s_retU (eu_tup (ea_cons (ev_var rfl) (ea_cons (ev_var rfl) ea_nil)) (by show 2 ≤ 100000; decide)) fun p H3 hp e3 h3 => k p H3 (fresh_back ex hp) (ex.trans e3) h3
/-- deals that are given -/
def dE (K : PySem.W.Frag) (ds : List Nat) (v : V) (H : Hp) : Prop := ∃ p, v = .ref p ∧ SqL K H p (natsV ds)
theorem dE_mono (K : PySem.W.Frag) (ds : List Nat) : Mono (dE K ds) := fun v H H' e ⟨p, h1, h2⟩ => ⟨p, h1, ex_l e h2⟩
structure OthAt (K : PySem.W.Frag) (n h : Nat) (b : Addr) (ys : List V) (dss : List (List Nat)) (H : Hp) : Prop where
  at_ : SqL K H b ys
  pd : Pd (dE K) dss ys H
  full : ∀ ds, ds ∈ dss → FullD n h ds
theorem OthAt.mono {K : PySem.W.Frag} {n h : Nat} {b : Addr} {ys : List V} {dss : List (List Nat)} {H H' : Hp} (e : Ex H H') (o : OthAt K n h b ys dss H) : OthAt K n h b ys dss H' := ⟨ex_l e o.at_, o.pd.mono (dE_mono K) e, o.full⟩
theorem OthAt.get {K : PySem.W.Frag} {n h m : Nat} {b : Addr} {ys : List V} {dss : List (List Nat)} {H : Hp} {x : V} (o : OthAt K n h b ys dss H) (e : ys[m]? = some x) : ∃ p ds, x = .ref p ∧ SqL K H p (natsV ds) ∧ FullD n h ds := by
  have l := (List.getElem?_eq_some_iff.mp e).1
  have l2 : m < dss.length := by rw [o.pd.length]; exact l
  obtain ⟨y, q1, p, q2, q3⟩ := o.pd.get (List.getElem?_eq_getElem l2)
  rw [e] at q1
  cases q1
  exact ⟨p, _, q2, q3, o.full _ (List.getElem_mem l2)⟩
section
variable {K : PySem.W.Frag} {H : Hp} {σ : L2.St} {ta tb tl te : TE} {a p : Addr} {T : List (List Int)} {h n : Nat} {E : XK} {ds : List Nat} {ns : List Int}
theorem c_Lshares (g : GT K H a T h n) (hp : SqL K H p (natsV ds)) (f : FullD n h ds) (e1 : Ev ta σ H (.ref a)) (e2 : Ev tb σ H (.ref p)) : EvL (tCall (sp_L_shares K) [] E (tCons ta (tCons tb tNil))) σ H (intsV (shs (wt T) n h (Dn ds))) :=
  el_callL (ea_cons e1 (ea_cons e2 ea_nil)) fun H1 e Q k => ⟨a, p, T, h, n, ds, rfl, g.mono e, ex_l e hp, f, k⟩
theorem c_Lscore (hp : SqL K H p (intsV ns)) (lim : ∀ x, x ∈ ns → 0 ≤ x ∧ x ≤ 100000000000000) (e1 : Ev ta σ H (.ref p)) : EvU (tCall (sp_L_score K) [] E (tCons ta tNil)) σ H [.int (cntL ns), .int (prdL ns)] :=
  eu_callU (ea_cons e1 ea_nil) fun H1 e Q k => ⟨p, ns, rfl, ex_l e hp, lim, k⟩
end
theorem full_whole {n h : Nat} {ds : List Nat} (f : FullD n h ds) : Whole n h (Dn ds) := dn_whole f.1 f.2
def sp_L_none_better (K : PySem.W.Frag) : Sp := fun vs H Q _ => ∃ a p b T h n ds ys dss, vs = [.ref a, .ref p, .ref b] ∧ GT K H a T h n ∧ SqL K H p (natsV ds) ∧ FullD n h ds ∧ OthAt K n h b ys dss H ∧ Best (wt T) n h (Dn ds) ∧ RetV (.bl true) H Q
abbrev N_L_none_better : List Str := ["_law_table", "_law_deal", "_law_others", "_law_shares_here", "_law_other", "_law_theirs", "_law_less", "_law_hand"]
theorem sc_L_none_better : FnScope N_L_none_better ["_law_table", "_law_deal", "_law_others"] (defScope s_L_none_better) := ⟨rfl, rfl, rfl, by decide +kernel, rfl, by decide +kernel, by decide +kernel⟩
theorem ok_L_none_better {P : Program} {w : World} {K : PySem.W.Frag} {mg : Str → Option Value} {base : Heap} (TT : Top K mg) (O_L_shares : Ok P w K mg base 1 "_law_shares" ["_law_table", "_law_deal"] [] (sp_L_shares K)) : Ok P w K mg base 2 "_law_none_better" ["_law_table", "_law_deal", "_law_others"] [] (sp_L_none_better K) := by
  refine TT.ok (d := d_L_none_better) 80 53 rfl rfl rfl rfl rfl sc_L_none_better (fun _ _ _ _ _ _ us hl => match us, hl with | [_, _, _], _ => rfl) (fun vs H Q E h => ?_) (fun cdv A outer s H vs Q E hr h => ?_)
  · obtain ⟨a, p, b, T, h, n, ds, ys, dss, rfl, _⟩ := h; rfl
  · obtain ⟨a, p, b, T, h, n, ds, ys, dss, rfl, g, hp, f, o, best, k⟩ := h
    refine ⟨_, (pss_cons (ps_set (i := 3) sc_L_none_better.nd rfl (Or.inr rfl) (pe_cl O_L_shares (hr.mono (by decide)) rfl (pa_cons (pv 0) (pa_cons (pv 1) pa_nil))))
  (pss_cons (ps_for PassesOwn.never rfl (wList K (pv 2)) (pg_name (i := 4) sc_L_none_better.nd rfl (Or.inl rfl) (Or.inr rfl)) (pss_cons (ps_set (i := 5) sc_L_none_better.nd rfl (Or.inr rfl) (pe_cl O_L_shares (hr.mono (by decide)) rfl (pa_cons (pv 0) (pa_cons (pv 4) pa_nil))))
  (pss_cons (ps_setLc (i := 6) (own := [("_law_hand", 7)]) rfl sc_L_none_better.nd rfl rfl (sw_true rfl rfl rfl (by decide +kernel)) (pi_range1 rfl (TT.free 71) (pa_cons (cLen K (TT.free 70) (pa_cons (pv 0) pa_nil)) pa_nil)) (blkOk_by (N := N_L_none_better) (sc := defScope s_L_none_better) (by decide +kernel)) (fun _ _ _ _ _ => (pg_name (i := 7) sc_L_none_better.nd rfl (Or.inl rfl) (Or.inr rfl))) (fun _ _ _ _ _ => pts_one (pt_cmpR op_lt (pe_ix (ixL K) (pv 5) (pv 7) (fun _ _ => rfl)) (pe_ix (ixL K) (pv 3) (pv 7) (fun _ _ => rfl)) (nomark _))) (fun _ _ _ _ _ => (pv 7)))
  (pss_one (ps_if (PW.pt (pw_and (pt_cmpR (neD K hr.units) (pv 5) (pv 3) (nomark _)) (pw_and1 (pt_cmpR (eqD K hr.units) (pv 6) (pe_lst pa_nil) (nomark _))))) (pss_one (ps_ret pe_bl)) pss_nil)))))
  (pss_one (ps_ret pe_bl)))), ?_⟩
    have h4 := g.2.h4
    refine q_asgL (c_Lshares g hp f (ev_var rfl) (ev_var rfl)) fun ps H1 nps e1 hps => ?_
    refine q_forLn (xs := ys) (ev_var rfl) (ex_l e1 o.at_) (fun m σ' H' => ∃ v4 v5 v6, σ' = [some (.ref a), some (.ref p), some (.ref b), some (.ref ps), v4, v5, v6, none] ∧ Ex H1 H') (fun H2 e2 => ⟨none, none, none, rfl, e2⟩) (fun m σ' H' _ ⟨_, _, _, _, e⟩ => ex_l (e1.trans e) o.at_) (fun m x σ' H' hx pr => ?_) (fun σ' H' pr => ?_)
    · obtain ⟨v4, v5, v6, rfl, ex⟩ := pr
      obtain ⟨q, es, rfl, hq, fe⟩ := (o.mono (e1.trans ex)).get hx
      refine q_asgL (c_Lshares (g.mono (e1.trans ex)) hq fe (ev_var rfl) (ev_var rfl)) fun pt H2 npt e2 hpt => ?_
      have ex2 := ex.trans e2
      have hw := wk_range1 (ta := tCons (tCB (rLenS K) (tCons (tVar 0) tNil)) tNil) (j := 7) (n := h) (σ := [some (.ref a), some (.ref p), some (.ref b), some (.ref ps), some (.ref q), some (.ref pt), v6, none]) (ea_cons (ev_lenTab (g.mono (e1.trans ex2)) (ev_var rfl)) ea_nil) (by omega)
      have z := el_lc (tt := tTest (tOp (rI0 fun i j => .bl (decide (i < j))) (tOp (rIxL K) (tVar 5) (tVar 7)) (tOp (rIxL K) (tVar 3) (tVar 7)))) (te := tVar 7) (vs := [7]) (fun i => decide (shr (wt T) n (Dn es) i < shr (wt T) n (Dn ds) i)) (fun i => .int (i : Int)) hw (by omega) (fun _ => rfl)
        (fun i H3 e3 hi => et_test (ev_op (ev_op (ev_var rfl) (ev_var rfl) (rv_ixL (sq_of (e3 pt _ hpt)) (atI_nat (intsV_get (shs_at hi))))) (ev_op (ev_var rfl) (ev_var rfl) (rv_ixL (sq_of (e3 ps _ (ex2 ps _ hps))) (atI_nat (intsV_get (shs_at hi))))) rv_I0)) (fun i H3 e3 hi _ => ev_var rfl)
      have ek : kept h (fun i => decide (shr (wt T) n (Dn es) i < shr (wt T) n (Dn ds) i)) (fun (i : Nat) => V.int (i : Int)) = intsV (((List.range h).filter fun i => decide (shr (wt T) n (Dn es) i < shr (wt T) n (Dn ds) i)).map fun (i : Nat) => (i : Int)) := by
        unfold kept intsV
        rw [List.map_map]
        rfl
      rw [ek] at z
      refine q_asgL z fun pl H3 npl e3 hpl => ?_
      refine s_when (b := false) ?_ (fun z => nomatch z) (fun _ H4 e4 => ⟨_, _, _, rfl, (ex2.trans e3).trans e4⟩)
      refine et_is (et_and (et_test (ev_op (ev_var rfl) (ev_var rfl) (rv_neI (sq_of (e3 pt _ hpt)) (sq_of (e3 ps _ (ex2 ps _ hps)))))) (fun _ => et_test (ev_opL (ev_var rfl) (el_lst ea_nil (by decide)) fun u H4 hu e4 => rv_eqI (ms := []) (sq_of (e4 pl _ hpl)) (sq_of hu)))) ?_
      by_cases em : ((List.range h).filter fun i => decide (shr (wt T) n (Dn es) i < shr (wt T) n (Dn ds) i)) = []
      · have le : ∀ i, i < h → shr (wt T) n (Dn ds) i ≤ shr (wt T) n (Dn es) i := fun i hi => by
          have := List.filter_eq_nil_iff.mp em i (List.mem_range.mpr hi)
          have : ¬ shr (wt T) n (Dn es) i < shr (wt T) n (Dn ds) i := fun z => this (decide_eq_true z)
          omega
        have eq := best _ (full_whole fe) le
        have es2 : shs (wt T) n h (Dn es) = shs (wt T) n h (Dn ds) := by
          unfold shs
          exact List.map_congr_left fun i m => eq i (List.mem_range.mp m)
        rw [es2, decide_eq_true rfl]
        rfl
      · have : ¬ (((List.range h).filter fun i => decide (shr (wt T) n (Dn es) i < shr (wt T) n (Dn ds) i)).map fun (i : Nat) => (i : Int)) = [] := fun z => em (List.map_eq_nil_iff.mp z)
        rw [decide_eq_false this, Bool.and_false]
    · obtain ⟨v4, v5, v6, rfl, ex⟩ := pr
      exact s_ret ev_c fun H2 e2 => k H2 ((e1.trans ex).trans e2)
end Lk

namespace Lk
open PySem PySem.Spec PyProof.Rows L2 Evl LE
/-! ### what the law looks at, more -/
theorem heapsI (T : List (List Int)) (n i j : Nat) (D : Nat → Option Nat) : (((List.range n).filter fun t => decide (D t = some j)).map (wt T i)).sum = val (wt T) n D i j := by
  rw [sum_filter]
  refine S_congr fun t _ => ?_
  by_cases h : D t = some j
  · rw [if_pos (decide_eq_true h), if_pos h]
  · rw [if_neg (by rw [decide_eq_false h]; decide), if_neg h]
theorem dn_dec {ds : List Nat} {t j : Nat} (ht : t < ds.length) : decide (V.int ((ds.getD t 0 : Nat) : Int) = V.int (j : Int)) = decide (Dn ds t = some j) := by
  have e : Dn ds t = some (ds.getD t 0) := getD_at ht
  rw [e, dec_nat]
  by_cases h : ds.getD t 0 = j
  · rw [h]; simp
  · rw [decide_eq_false fun z => h (Option.some.inj z)]
    exact beq_eq_false_iff_ne.mpr h
theorem et_eqn {t : TT} {σ : L2.St} {H : Hp} (h : EvT t σ H false) : EvT t σ H false := h
def sp_L_fair (K : PySem.W.Frag) : Sp := fun vs H Q _ => ∃ a p T h n ds, vs = [.ref a, .ref p] ∧ GT K H a T h n ∧ SqL K H p (natsV ds) ∧ FullD n h ds ∧ EF1 (wt T) n h (Dn ds) ∧ RetV (.bl true) H Q
abbrev N_L_fair : List Str := ["_law_table", "_law_deal", "_law_one", "_law_own", "_law_other", "_law_seen", "_law_thing"]
theorem sc_L_fair : FnScope N_L_fair ["_law_table", "_law_deal"] (defScope s_L_fair) := ⟨rfl, rfl, rfl, by decide +kernel, rfl, by decide +kernel, by decide +kernel⟩
theorem ok_L_fair {P : Program} {w : World} {K : PySem.W.Frag} {mg : Str → Option Value} {base : Heap} (TT : Top K mg)  : Ok P w K mg base 1 "_law_fair" ["_law_table", "_law_deal"] [] (sp_L_fair K) := by
  refine TT.ok (d := d_L_fair) 79 52 rfl rfl rfl rfl rfl sc_L_fair (fun _ _ _ _ _ _ us hl => match us, hl with | [_, _], _ => rfl) (fun vs H Q E h => ?_) (fun cdv A outer s H vs Q E hr h => ?_)
  · obtain ⟨a, p, T, h, n, ds, rfl, _⟩ := h; rfl
  · obtain ⟨a, p, T, h, n, ds, rfl, g, hp, f, ef, k⟩ := h
    refine ⟨_, (pss_cons (ps_for PassesOwn.never rfl (pi_range1 rfl (TT.free 71) (pa_cons (cLen K (TT.free 70) (pa_cons (pv 0) pa_nil)) pa_nil)) (pg_name (i := 2) sc_L_fair.nd rfl (Or.inr rfl) (Or.inl rfl)) (pss_cons (ps_set (i := 3) sc_L_fair.nd rfl (Or.inl rfl) (cSum K (TT.free 72) (pa_cons (pe_lc (own := [("_law_thing", 6)]) rfl sc_L_fair.nd (pi_range1 rfl (TT.free 71) (pa_cons (cLen K (TT.free 70) (pa_cons (pv 1) pa_nil)) pa_nil)) (blkOk_by (N := N_L_fair) (sc := defScope s_L_fair) (by decide +kernel)) (fun _ _ _ _ _ => (pg_name (i := 6) sc_L_fair.nd rfl (Or.inl rfl) (Or.inr rfl))) (fun _ _ _ _ _ => pts_one (pt_cmpR op_eq (pe_ix (ixL K) (pv 1) (pv 6) (fun _ _ => rfl)) (pv 2) (nomark _))) (fun _ _ _ _ _ => (pe_ix (ixL K) (pe_ix (ixL K) (pv 0) (pv 2) (fun _ _ => rfl)) (pv 6) (fun _ _ => rfl)))) pa_nil)))
  (pss_one (ps_for PassesOwn.never rfl (pi_range1 rfl (TT.free 71) (pa_cons (cLen K (TT.free 70) (pa_cons (pv 0) pa_nil)) pa_nil)) (pg_name (i := 4) sc_L_fair.nd rfl (Or.inr rfl) (Or.inl rfl)) (pss_cons (ps_setLc (i := 5) (own := [("_law_thing", 6)]) rfl sc_L_fair.nd rfl rfl (sw_true rfl rfl rfl (by decide +kernel)) (pi_range1 rfl (TT.free 71) (pa_cons (cLen K (TT.free 70) (pa_cons (pv 1) pa_nil)) pa_nil)) (blkOk_by (N := N_L_fair) (sc := defScope s_L_fair) (by decide +kernel)) (fun _ _ _ _ _ => (pg_name (i := 6) sc_L_fair.nd rfl (Or.inl rfl) (Or.inr rfl))) (fun _ _ _ _ _ => pts_one (pt_cmpR op_eq (pe_ix (ixL K) (pv 1) (pv 6) (fun _ _ => rfl)) (pv 4) (nomark _))) (fun _ _ _ _ _ => (pe_ix (ixL K) (pe_ix (ixL K) (pv 0) (pv 2) (fun _ _ => rfl)) (pv 6) (fun _ _ => rfl))))
  (pss_one (ps_if (PW.pt (pw_and (pt_cmpR op_ne (pv 4) (pv 2) (nomark _)) (pw_and (pt_cmpR (neD K hr.units) (pv 5) (pe_lst pa_nil) (nomark _)) (pw_and1 (pt_cmpR op_gt (pe_op op_sub (cSum K (TT.free 72) (pa_cons (pv 5) pa_nil)) (cMax K (TT.free 75) (pa_cons (pv 5) pa_nil))) (pv 3) (nomark _)))))) (pss_one (ps_ret pe_bl)) pss_nil)))))))
  (pss_one (ps_ret pe_bl))), ?_⟩
    have h4 := g.2.h4
    have n12 := g.2.n12
    have fl := f.1
    -- what a heap is worth to i, as a list
    have heap : ∀ (i j : Nat) (σ' : L2.St) (H' : Hp) (tj : TE), Ex H H' → i < h → σ'[0]? = some (some (V.ref a)) → σ'[1]? = some (some (V.ref p)) → σ'[2]? = some (some (V.int (i : Int))) → σ'.length = 7 → σ'[6]? = some none →
        (∀ t H3, Ev tj (σ'.set 6 (some (.int (t : Int)))) H3 (V.int (j : Int))) → EvL (tLc (iRng1 (tCons (tCB (rLenS K) (tCons (tVar 1) tNil)) tNil)) (gName 6) (tTest (tOp rEq (tOp (rIxL K) (tVar 1) (tVar 6)) tj)) (tOp (rIxL K) (tOp (rIxL K) (tVar 0) (tVar 2)) (tVar 6)) [6]) σ' H' (intsV (((List.range n).filter fun t => decide (Dn ds t = some j)).map (wt T i))) := fun i j σ' H' tj e hi s0 s1 s2 sl s6 hj => by
      have wp : wipe σ' [6] = σ' := by
        obtain ⟨x0, x1, x2, x3, x4, x5, x6, rfl⟩ : ∃ x0 x1 x2 x3 x4 x5 x6, σ' = [x0, x1, x2, x3, x4, x5, x6] := by
          match σ', sl with
          | [x0, x1, x2, x3, x4, x5, x6], _ => exact ⟨_, _, _, _, _, _, _, rfl⟩
        have : x6 = none := by simpa using s6
        rw [this]
        rfl
      have hw := wk_range1 (ta := tCons (tCB (rLenS K) (tCons (tVar 1) tNil)) tNil) (j := 6) (n := n) (σ := σ') (H := H') (ea_cons (by have z := ev_lenNt (K := K) (ta := tVar 1) (σ := σ') (ex_l e hp) (ev_var s1); rw [fl] at z; exact z) ea_nil) (by omega)
      have look : ∀ (t : Nat) (u : Nat) (v : Option V), u ≠ 6 → σ'[u]? = some v → (σ'.set 6 (some (.int (t : Int))))[u]? = some v := fun t u v ne e => by rw [List.getElem?_set_ne (Ne.symm ne)]; exact e
      have at6 : ∀ t : Nat, (σ'.set 6 (some (V.int (t : Int))))[6]? = some (some (.int (t : Int))) := fun t => by rw [List.getElem?_set_self (by omega)]
      have z := el_lc (tt := tTest (tOp rEq (tOp (rIxL K) (tVar 1) (tVar 6)) tj)) (te := tOp (rIxL K) (tOp (rIxL K) (tVar 0) (tVar 2)) (tVar 6)) (vs := [6]) (fun t => decide (Dn ds t = some j)) (fun t => .int (wt T i t)) hw (by omega) (fun t => by
          rw [wp]
          show wipe (σ'.set 6 _) [6] = σ'
          have := wp
          show (σ'.set 6 _).set 6 none = σ'
          rw [List.set_set]
          exact wp)
        (fun t H3 e3 ht => by
          rw [wp]
          refine et_is (et_test (ev_op (ev_op (ev_var (look t 1 _ (by decide) s1)) (ev_var (at6 t)) (rv_ixL (ex_l (e.trans e3) hp) (atI_nat (natsV_get (getD_at (d := 0) (by omega)))))) (hj t H3) (rv_eq rfl))) (dn_dec (by omega)))
        (fun t H3 e3 ht _ => by
          rw [wp]
          exact ev_cell (g.mono (e.trans e3)) hi ht (ev_var (look t 0 _ (by decide) s0)) (ev_var (look t 2 _ (by decide) s2)) (ev_var (at6 t)))
      have ek : kept n (fun t => decide (Dn ds t = some j)) (fun t => V.int (wt T i t)) = intsV (((List.range n).filter fun t => decide (Dn ds t = some j)).map (wt T i)) := by
        unfold kept intsV
        rw [List.map_map]
        rfl
      rw [ek] at z
      exact z
    refine q_forR1 (n := (h : Int)) (ea_cons (ev_lenTab g (ev_var rfl)) ea_nil) (by omega) (fun i σ' H' => ∃ v2 v3 v4 v5, σ' = [some (.ref a), some (.ref p), v2, v3, v4, v5, none] ∧ Ex H H') (fun H1 e1 => ⟨none, none, none, none, rfl, e1⟩) (fun i σ' H' hi pr => ?_) (fun σ' H' pr => ?_)
    · obtain ⟨v2, v3, v4, v5, rfl, ex⟩ := pr
      have hi' : i < h := by omega
      have own := heap i i [some (.ref a), some (.ref p), some (.int (i : Int)), v3, v4, v5, none] H' (tVar 2) ex hi' rfl rfl rfl rfl rfl fun t H3 => ev_var rfl
      refine q_asg (v := .int (val (wt T) n (Dn ds) i i)) (ev_is (ev_sumN own) (by rw [heapsI])) fun H2 e2 => ?_
      refine s_forR1 (n := (h : Int)) (ea_cons (ev_lenTab (g.mono (ex.trans e2)) (ev_var rfl)) ea_nil) (by omega) (fun j σ' H' => ∃ v4 v5, σ' = [some (.ref a), some (.ref p), some (.int (i : Int)), some (.int (val (wt T) n (Dn ds) i i)), v4, v5, none] ∧ Ex H H') (fun H3 e3 => ⟨v4, v5, rfl, (ex.trans e2).trans e3⟩) (fun j σ' H' hj pr => ?_) (fun σ' H' pr => ?_)
      · obtain ⟨v4, v5, rfl, ex3⟩ := pr
        have hj' : j < h := by omega
        have seen := heap i j [some (.ref a), some (.ref p), some (.int (i : Int)), some (.int (val (wt T) n (Dn ds) i i)), some (.int (j : Int)), v5, none] H' (tVar 4) ex3 hi' rfl rfl rfl rfl rfl fun t H3 => ev_var rfl
        refine q_asgL seen fun ps H4 nps e4 hps => ?_
        refine s_when (b := false) ?_ (fun z => nomatch z) (fun _ H5 e5 => ⟨_, _, rfl, (ex3.trans e4).trans e5⟩)
        by_cases ne : j = i
        · exact et_is (et_and (b := false) (et_test (ev_op (ev_var rfl) (ev_var rfl) (rv_ne rfl))) (fun z => by rw [ne] at z; simp at z)) (Bool.and_false _)
        · rcases ef i j hi' hj' (Ne.symm ne) with no | ⟨gg, hg, eg, le⟩
          · have e0 : ((List.range n).filter fun t => decide (Dn ds t = some j)).map (wt T i) = [] := by
              rw [List.map_eq_nil_iff, List.filter_eq_nil_iff]
              intro t m
              rw [decide_eq_true_iff]
              exact no t (List.mem_range.mp m)
            rw [e0] at hps
            exact et_is (et_and (b := false) (et_test (ev_op (ev_var rfl) (ev_var rfl) (rv_ne rfl))) (fun _ => et_is (et_and (b := false) (et_test (ev_opL (ev_var rfl) (el_lst ea_nil (by decide)) fun u H5 hu e5 => rv_neI (ns := []) (ms := []) (sq_of (e5 ps _ hps)) (sq_of hu))) (fun z => by simp at z)) (Bool.and_false _))) (Bool.and_false _)
          · have mg : wt T i gg ∈ ((List.range n).filter fun t => decide (Dn ds t = some j)).map (wt T i) := List.mem_map_of_mem (List.mem_filter.mpr ⟨List.mem_range.mpr hg, decide_eq_true eg⟩)
            have nn : ((List.range n).filter fun t => decide (Dn ds t = some j)).map (wt T i) ≠ [] := List.ne_nil_of_mem mg
            have hs := heapsI T n i j (Dn ds)
            generalize (((List.range n).filter fun t => decide (Dn ds t = some j)).map (wt T i)) = NS at *
            refine et_is (et_and (b := false) (et_test (ev_op (ev_var rfl) (ev_var rfl) (rv_ne rfl))) (fun _ => et_is (et_and (b := false) (et_test (ev_opL (ev_var rfl) (el_lst ea_nil (by decide)) fun u H5 hu e5 => rv_neI (ns := NS) (ms := []) (sq_of (e5 ps _ hps)) (sq_of hu))) (fun _ => ?_)) (Bool.and_false _))) (Bool.and_false _)
            refine et_test (ev_opP1 (R := fun v _ => ∃ x, v = V.int (NS.sum - x) ∧ ∃ k, V.int x = V.int k ∧ (k ∈ NS ∧ ∀ j', j' ∈ NS → j' ≤ k)) (ep_subP (M := fun k => k ∈ NS ∧ ∀ j', j' ∈ NS → j' ≤ k) (ev_sum (ev_var rfl) (sq_of hps)) (ep_max (ev_var rfl) (sq_of hps) nn)) (fun H5 e5 => ev_var rfl) fun v H5 e5 r => ?_)
            obtain ⟨x, ev, kk, ex', mk1, top⟩ := r
            subst ev
            cases ex'
            refine rv_f (p := fun i j => decide (j < i)) (decide_eq_false ?_)
            have := top _ mg
            omega
      · obtain ⟨v4, v5, rfl, ex3⟩ := pr
        exact ⟨_, _, _, _, rfl, ex3⟩
    · obtain ⟨v2, v3, v4, v5, rfl, ex⟩ := pr
      exact s_ret ev_c fun H2 e2 => k H2 (ex.trans e2)
def sp_L_halved (K : PySem.W.Frag) : Sp := fun vs H Q _ => ∃ a p b T h n ds ys dss, vs = [.ref a, .ref p, .ref b] ∧ GT K H a T h n ∧ SqL K H p (natsV ds) ∧ FullD n h ds ∧ OthAt K n h b ys dss H ∧ Half (wt T) n h (Dn ds) ∧ RetV (.bl true) H Q
abbrev N_L_halved : List Str := ["_law_table", "_law_deal", "_law_partings", "_law_shares_here", "_law_owners", "_law_hand", "_law_heaps", "_law_thing", "_law_at"]
theorem sc_L_halved : FnScope N_L_halved ["_law_table", "_law_deal", "_law_partings"] (defScope s_L_halved) := ⟨rfl, rfl, rfl, by decide +kernel, rfl, by decide +kernel, by decide +kernel⟩
theorem ok_L_halved {P : Program} {w : World} {K : PySem.W.Frag} {mg : Str → Option Value} {base : Heap} (TT : Top K mg) (O_L_shares : Ok P w K mg base 1 "_law_shares" ["_law_table", "_law_deal"] [] (sp_L_shares K)) : Ok P w K mg base 2 "_law_halved" ["_law_table", "_law_deal", "_law_partings"] [] (sp_L_halved K) := by
  refine TT.ok (d := d_L_halved) 81 54 rfl rfl rfl rfl rfl sc_L_halved (fun _ _ _ _ _ _ us hl => match us, hl with | [_, _, _], _ => rfl) (fun vs H Q E h => ?_) (fun cdv A outer s H vs Q E hr h => ?_)
  · obtain ⟨a, p, b, T, h, n, ds, ys, dss, rfl, _⟩ := h; rfl
  · obtain ⟨a, p, b, T, h, n, ds, ys, dss, rfl, g, hp, f, o, half, k⟩ := h
    refine ⟨_, (pss_cons (ps_set (i := 3) sc_L_halved.nd rfl (Or.inl rfl) (pe_cl O_L_shares (hr.mono (by decide)) rfl (pa_cons (pv 0) (pa_cons (pv 1) pa_nil))))
  (pss_cons (ps_for PassesOwn.never rfl (wList K (pv 2)) (pg_name (i := 4) sc_L_halved.nd rfl (Or.inl rfl) (Or.inr rfl)) (pss_one (ps_for PassesOwn.never rfl (pi_range1 rfl (TT.free 71) (pa_cons (cLen K (TT.free 70) (pa_cons (pv 0) pa_nil)) pa_nil)) (pg_name (i := 5) sc_L_halved.nd rfl (Or.inl rfl) (Or.inr rfl)) (pss_cons (ps_set (i := 6) sc_L_halved.nd rfl (Or.inl rfl) (pe_op op_rep (pe_lst (pa_cons pe_int pa_nil)) (cLen K (TT.free 70) (pa_cons (pv 0) pa_nil))))
  (pss_cons (ps_for PassesOwn.never rfl (pi_range1 rfl (TT.free 71) (pa_cons (cLen K (TT.free 70) (pa_cons (pv 4) pa_nil)) pa_nil)) (pg_name (i := 7) sc_L_halved.nd rfl (Or.inl rfl) (Or.inr rfl)) (pss_cons (ps_set (i := 8) sc_L_halved.nd rfl (Or.inl rfl) (pe_ix (ixL K) (pv 4) (pv 7) (fun _ _ => rfl)))
  (pss_one (ps_asg (pe_op op_add (pe_ix (ixL K) (pv 6) (pv 8) (fun _ _ => rfl)) (pe_ix (ixL K) (pe_ix (ixL K) (pv 0) (pv 5) (fun _ _ => rfl)) (pv 7) (fun _ _ => rfl))) (pg_sub (pv 6) (pv 8) set_list)))))
  (pss_one (ps_if (pt_cmpR op_lt (pe_op op_mul pe_int (pe_ix (ixL K) (pv 3) (pv 5) (fun _ _ => rfl))) (cMin K (TT.free 74) (pa_cons (pv 6) pa_nil)) (nomark _)) (pss_one (ps_ret pe_bl)) pss_nil)))))))
  (pss_one (ps_ret pe_bl)))), ?_⟩
    have h4 := g.2.h4
    have h1' := g.2.h1
    have n12 := g.2.n12
    refine q_asgL (c_Lshares g hp f (ev_var rfl) (ev_var rfl)) fun ps H1 nps e1 hps => ?_
    refine q_forLn (xs := ys) (ev_var rfl) (ex_l e1 o.at_) (fun m σ' H' => ∃ v4 v5 v6 v7 v8, σ' = [some (.ref a), some (.ref p), some (.ref b), some (.ref ps), v4, v5, v6, v7, v8] ∧ Ex H1 H') (fun H2 e2 => ⟨none, none, none, none, none, rfl, e2⟩) (fun m σ' H' _ ⟨_, _, _, _, _, _, e⟩ => ex_l (e1.trans e) o.at_) (fun m x σ' H' hx pr => ?_) (fun σ' H' pr => ?_)
    · obtain ⟨v4, v5, v6, v7, v8, rfl, ex⟩ := pr
      obtain ⟨q, es, rfl, hq, fe⟩ := (o.mono (e1.trans ex)).get hx
      refine s_forR1 (n := (h : Int)) (ea_cons (ev_lenTab (g.mono (e1.trans ex)) (ev_var rfl)) ea_nil) (by omega) (fun i σ' H2 => ∃ v5 v6 v7 v8, σ' = [some (.ref a), some (.ref p), some (.ref b), some (.ref ps), some (.ref q), v5, v6, v7, v8] ∧ Ex H1 H2 ∧ Ex H' H2) (fun H3 e3 => ⟨v5, v6, v7, v8, rfl, ex.trans e3, e3⟩) (fun i σ' H3 hi pr => ?_) (fun σ' H3 pr => ?_)
      · obtain ⟨v5, v6, v7, v8, rfl, ex3, ex3'⟩ := pr
        have hi' : i < h := by omega
        refine q_asgL (el_rep (n := h) ev_c (ev_lenTab (g.mono (e1.trans ex3)) (ev_var rfl)) (by omega)) fun pz H4 npz e4 hpz => ?_
        have npz1 : H1 pz = none := fresh_back ex3 npz
        refine q_forR1 (n := ((es.length : Nat) : Int)) (ea_cons (ev_lenNt (ex_l (ex3'.trans e4) hq) (ev_var rfl)) ea_nil) (by rw [fe.1]; omega) (fun m σ' H5 => ∃ v7 v8, σ' = [some (.ref a), some (.ref p), some (.ref b), some (.ref ps), some (.ref q), some (.int (i : Int)), some (.ref pz), v7, v8] ∧ Ex H1 H5 ∧ Ex H' H5 ∧ H5 pz = some (.lst (intsV (heapsL (wt T) m h (Dn es) i))))
          (fun H5 e5 => ⟨v7, v8, rfl, (ex3.trans e4).trans e5, (ex3'.trans e4).trans e5, by rw [e5 pz _ hpz, heaps_zero]⟩) (fun m σ' H5 hm pr => ?_) (fun σ' H5 pr => ?_)
        · obtain ⟨v7, v8, rfl, ex5, ex5', hz⟩ := pr
          have hm' : m < es.length := by omega
          have ho : es.getD m 0 < h := fe.2 _ (getD_mem hm')
          have ed : Dn es m = some (es.getD m 0) := getD_at hm'
          have hl : (heapsL (wt T) m h (Dn es) i).length = h := by unfold heapsL; rw [List.length_map, List.length_range]
          refine q_asg (ev_op (ev_var rfl) (ev_var rfl) (rv_ixL (ex_l ex5' hq) (atI_nat (natsV_get (getD_at (d := 0) hm'))))) fun H6 e6 => ?_
          refine s_setL (xs := intsV (heapsL (wt T) m h (Dn es) i)) (j := es.getD m 0) (v := .int (val (wt T) m (Dn es) i (es.getD m 0) + wt T i m)) (e6 pz _ hz) (ev_add (ev_op (ev_var rfl) (ev_var rfl) (rv_ixL (sq_of (e6 pz _ hz)) (atI_nat (intsV_get (heaps_at ho))))) (ev_cell (g.mono ((e1.trans ex5).trans e6)) hi' (by rw [← fe.1]; exact hm') (ev_var rfl) (ev_var rfl) (ev_var rfl))) (ev_var rfl) (ev_var rfl) (by rw [intsV_len, hl]; exact ho) fun H7 e7 => ⟨_, _, rfl, Ex.mut ((ex5.trans e6).trans e7) npz1, Ex.mut ((ex5'.trans e6).trans e7) (fresh_back ex3' npz), ?_⟩
          rw [upd_same, intsV_set, heaps_step ed ho]
        · obtain ⟨v7, v8, rfl, ex5, ex5', hz⟩ := pr
          rw [Int.toNat_natCast, fe.1] at hz
          obtain ⟨j, hj, le⟩ := half _ (full_whole fe) i hi'
          have mj : val (wt T) n (Dn es) i j ∈ heapsL (wt T) n h (Dn es) i := List.mem_of_getElem? (heaps_at hj)
          refine s_when (b := false) ?_ (fun z => nomatch z) (fun _ H6 e6 => ⟨_, _, _, _, rfl, ex5.trans e6, ex5'.trans e6⟩)
          refine et_test (ev_opP (ev_mulS ev_c (ev_op (ev_var rfl) (ev_var rfl) (rv_ixL (sq_of (ex5 ps _ hps)) (atI_nat (intsV_get (shs_at hi'))))) (by omega) (by omega)) (ep_min (ev_var rfl) (sq_of hz) (List.ne_nil_of_mem mj)) fun v H6 e6 ⟨kk, ev, mk1, top⟩ => ?_)
          subst ev
          refine rv_f (p := fun i j => decide (i < j)) (decide_eq_false ?_)
          have := top _ mj
          omega
      · obtain ⟨v5, v6, v7, v8, rfl, ex3, ex3'⟩ := pr
        exact ⟨_, _, _, _, _, rfl, ex3⟩
    · obtain ⟨v4, v5, v6, v7, v8, rfl, ex⟩ := pr
      exact s_ret ev_c fun H2 e2 => k H2 ((e1.trans ex).trans e2)
theorem shr_lim {T : List (List Int)} {h n : Nat} (o : TabOk T h n) (D : Nat → Option Nat) : ∀ x, x ∈ shs (wt T) n h D → 0 ≤ x ∧ x ≤ 100000000000000 := fun x m => by
  obtain ⟨i, _, rfl⟩ := List.mem_map.mp m
  refine ⟨val_nonneg (wt_pos o), ?_⟩
  have z : shr (wt T) n D i ≤ S n fun _ => 1000000000000 := S_le fun t _ => by
    have a := wt_pos o i t
    have b := wt_big o i t
    split <;> omega
  rw [S_const] at z
  have := o.n12
  omega
def sp_L_greatest (K : PySem.W.Frag) : Sp := fun vs H Q _ => ∃ a p b T h n ds ys dss, ∃ w : Str, vs = [.ref a, .ref p, .ref b, .str w] ∧ GT K H a T h n ∧ SqL K H p (natsV ds) ∧ FullD n h ds ∧ OthAt K n h b ys dss H ∧ (w = "products" → ProdTop (wt T) n h (Dn ds)) ∧ (w = "leasts" → LeastTop (wt T) n h (Dn ds)) ∧ RetV (.bl true) H Q
abbrev N_L_greatest : List Str := ["_law_table", "_law_deal", "_law_others", "_law_word", "_law_shares_here", "_law_other", "_law_theirs"]
theorem sc_L_greatest : FnScope N_L_greatest ["_law_table", "_law_deal", "_law_others", "_law_word"] (defScope s_L_greatest) := ⟨rfl, rfl, rfl, by decide +kernel, rfl, by decide +kernel, by decide +kernel⟩
theorem ok_L_greatest {P : Program} {w : World} {K : PySem.W.Frag} {mg : Str → Option Value} {base : Heap} (TT : Top K mg) (O_L_shares : Ok P w K mg base 1 "_law_shares" ["_law_table", "_law_deal"] [] (sp_L_shares K)) (O_L_score : Ok P w K mg base 1 "_law_score" ["_law_shares_here"] [] (sp_L_score K)) : Ok P w K mg base 2 "_law_greatest" ["_law_table", "_law_deal", "_law_others", "_law_word"] [] (sp_L_greatest K) := by
  refine TT.ok (d := d_L_greatest) 83 56 rfl rfl rfl rfl rfl sc_L_greatest (fun _ _ _ _ _ _ us hl => match us, hl with | [_, _, _, _], _ => rfl) (fun vs H Q E h => ?_) (fun cdv A outer s H vs Q E hr h => ?_)
  · obtain ⟨a, p, b, T, h, n, ds, ys, dss, w, rfl, _⟩ := h; rfl
  · obtain ⟨a, p, b, T, h, n, ds, ys, dss, w', rfl, g, hp, f, o, tp, tl, k⟩ := h
    refine ⟨_, (pss_cons (ps_set (i := 4) sc_L_greatest.nd rfl (Or.inl rfl) (pe_cl O_L_shares (hr.mono (by decide)) rfl (pa_cons (pv 0) (pa_cons (pv 1) pa_nil))))
  (pss_cons (ps_for PassesOwn.never rfl (wList K (pv 2)) (pg_name (i := 5) sc_L_greatest.nd rfl (Or.inl rfl) (Or.inr rfl)) (pss_cons (ps_set (i := 6) sc_L_greatest.nd rfl (Or.inl rfl) (pe_cl O_L_shares (hr.mono (by decide)) rfl (pa_cons (pv 0) (pa_cons (pv 5) pa_nil))))
  (pss_cons (ps_if (PW.pt (pw_and (pt_cmpR op_eq (pv 3) pe_str (nomark _)) (pw_and1 (pt_cmpR (gtP K hr.units) (pe_cl O_L_score (hr.mono (by decide)) rfl (pa_cons (pv 6) pa_nil)) (pe_cl O_L_score (hr.mono (by decide)) rfl (pa_cons (pv 4) pa_nil)) (nomark _))))) (pss_one (ps_ret pe_bl)) pss_nil)
  (pss_one (ps_if (PW.pt (pw_and (pt_cmpR op_eq (pv 3) pe_str (nomark _)) (pw_and1 (pt_cmpR (gtI K hr.units) (cSorted K (TT.free 73) (pa_cons (pv 6) pa_nil)) (cSorted K (TT.free 73) (pa_cons (pv 4) pa_nil)) (nomark _))))) (pss_one (ps_ret pe_bl)) pss_nil)))))
  (pss_one (ps_ret pe_bl)))), ?_⟩
    have h4 := g.2.h4
    refine q_asgL (c_Lshares g hp f (ev_var rfl) (ev_var rfl)) fun ps H1 nps e1 hps => ?_
    refine q_forLn (xs := ys) (ev_var rfl) (ex_l e1 o.at_) (fun m σ' H' => ∃ v5 v6, σ' = [some (.ref a), some (.ref p), some (.ref b), some (.str w'), some (.ref ps), v5, v6] ∧ Ex H1 H') (fun H2 e2 => ⟨none, none, rfl, e2⟩) (fun m σ' H' _ ⟨_, _, _, e⟩ => ex_l (e1.trans e) o.at_) (fun m x σ' H' hx pr => ?_) (fun σ' H' pr => ?_)
    · obtain ⟨v5, v6, rfl, ex⟩ := pr
      obtain ⟨q, es, rfl, hq, fe⟩ := (o.mono (e1.trans ex)).get hx
      refine q_asgL (c_Lshares (g.mono (e1.trans ex)) hq fe (ev_var rfl) (ev_var rfl)) fun pt H2 npt e2 hpt => ?_
      have hps2 := e2 ps _ (ex ps _ hps)
      refine q_when (b := false) ?_ (fun z => nomatch z) (fun _ H3 e3 => ?_)
      · by_cases c : w' = "products"
        · refine et_is (et_and (b := false) (et_test (ev_op (ev_var rfl) ev_c (rv_eq rfl))) (fun _ => ?_)) (Bool.and_false _)
          have top := tp c _ (full_whole fe)
          refine et_test (ev_opUU (c_Lscore (sq_of hpt) (shr_lim g.2 _) (ev_var rfl)) (c_Lscore (sq_of hps2) (shr_lim g.2 _) (ev_var rfl)) fun u1 u2 H3 hu1 hu2 e3 => ?_)
          have r := rv_gtP (K := K) (st_of hu1) (st_of hu2)
          unfold shs at r
          rw [cntL_F, prdL_F, cntL_F, prdL_F] at r
          have t2 : pLt (cntF h fun i => shr (wt T) n (Dn ds) i) (prdF h fun i => shr (wt T) n (Dn ds) i) (cntF h fun i => shr (wt T) n (Dn es) i) (prdF h fun i => shr (wt T) n (Dn es) i) = false := top
          rw [t2] at r
          exact r
        · exact et_is (et_and (b := false) (et_test (ev_op (ev_var rfl) ev_c (rv_eq rfl))) (fun z => absurd (of_decide_eq_true z) fun y => c (by injection y))) (Bool.and_false _)
      · refine s_when (b := false) ?_ (fun z => nomatch z) (fun _ H4 e4 => ⟨_, _, rfl, ((ex.trans e2).trans e3).trans e4⟩)
        by_cases c : w' = "leasts"
        · refine et_is (et_and (b := false) (et_test (ev_op (ev_var rfl) ev_c (rv_eq rfl))) (fun _ => ?_)) (Bool.and_false _)
          have top := tl c _ (full_whole fe)
          refine et_test (ev_opLL (el_sortedA (ev_var rfl) (sq_of (e3 pt _ hpt)) (by rw [shs_len]; omega)) (el_sortedA (ev_var rfl) (sq_of (e3 ps _ hps2)) (by rw [shs_len]; omega)) fun u1 u2 H4 hu1 hu2 e4 => ?_)
          have r := rv_gtI (K := K) (ns := srt (shs (wt T) n h (Dn es))) (ms := srt (shs (wt T) n h (Dn ds))) (sq_of hu1) (sq_of hu2)
          rw [top] at r
          exact r
        · exact et_is (et_and (b := false) (et_test (ev_op (ev_var rfl) ev_c (rv_eq rfl))) (fun z => absurd (of_decide_eq_true z) fun y => c (by injection y))) (Bool.and_false _)
    · obtain ⟨v5, v6, rfl, ex⟩ := pr
      exact s_ret ev_c fun H2 e2 => k H2 ((e1.trans ex).trans e2)
end Lk

namespace Lk
open PySem PySem.Spec PyProof.Rows L2 Evl LE
/-! ### numbers of the law -/
def NatB (k : Nat) (v : V) (_ : Hp) : Prop := ∃ c : Nat, v = .int (c : Int) ∧ c < k
abbrev rMod : R2 := rI (fun _ j => 0 < j) fun i j => .int (i % j)
abbrev rPow : R2 := rI CPow fun i j => .int (i ^ j.toNat)
section
variable {K : PySem.W.Frag} {H : Hp} {σ : L2.St} {ta tb tl te : TE} {a p l : Addr} {E : XK} {i j c : Int} {k m : Nat} {ns : List Int} {xs : List V} {R : V → Hp → Prop}
theorem ev_mod (h1 : Ev ta σ H (.int i)) (h2 : Ev tb σ H (.int j)) (hj : 0 < j) : Ev (tOp rMod ta tb) σ H (.int (i % j)) := ev_op h1 h2 (rv_I hj)
theorem ev_modN (h1 : Ev ta σ H (.int (k : Int))) (h2 : Ev tb σ H (.int (m : Int))) (hj : 0 < m) : Ev (tOp rMod ta tb) σ H (.int ((k % m : Nat) : Int)) := ev_is (ev_mod h1 h2 (by omega)) (by rw [Int.natCast_emod])
theorem ev_pow24 : Ev (tOp rPow (tC (.int 10)) (tC (.int 24))) σ H (.int 1000000000000000000000000) := ev_is (ev_op ev_c ev_c (rv_I (C := CPow) ⟨by decide, by decide, by decide⟩)) (by decide +kernel)
theorem ev_pow12 : Ev (tOp rPow (tC (.int 10)) (tC (.int 12))) σ H (.int 1000000000000) := ev_is (ev_op ev_c ev_c (rv_I (C := CPow) ⟨by decide, by decide, by decide⟩)) (by decide +kernel)
theorem ev_pow9 : Ev (tOp rPow (tC (.int 10)) (tC (.int 9))) σ H (.int 1000000000) := ev_is (ev_op ev_c ev_c (rv_I (C := CPow) ⟨by decide, by decide, by decide⟩)) (by decide +kernel)
/-- what is not below 0 -/
theorem nat_of (h : 0 ≤ c) : ∃ k : Nat, c = (k : Int) := ⟨c.toNat, (Int.toNat_of_nonneg h).symm⟩
theorem ep_mod (ha : EvP ta σ H R) (hr : ∀ v H', R v H' → ∃ c : Nat, v = .int (c : Int)) (hk : 0 < k) : EvP (tOp rMod ta (tC (.int (k : Int)))) σ H (NatB k) := fun H1 e Q q =>
  ha H1 e _ fun v H2 e2 r => by
    obtain ⟨c, ev⟩ := hr v H2 r
    subst ev
    exact (ev_c (v := .int (k : Int)) (σ := σ)) H2 (Ex.refl _) _ fun H3 e3 => ⟨(c : Int), (k : Int), rfl, rfl, by omega, q _ H3 (e2.trans e3) ⟨c % k, by rw [Int.natCast_emod], Nat.mod_lt _ hk⟩⟩
theorem ep_mul (ha : EvP ta σ H R) (hr : ∀ v H', R v H' → ∃ c : Nat, v = .int (c : Int)) (hk : k < 1000000000) : EvP (tOp (rI CMul fun i j => .int (i * j)) ta (tC (.int (k : Int)))) σ H (fun v _ => ∃ c : Nat, v = .int (c : Int)) := fun H1 e Q q =>
  ha H1 e _ fun v H2 e2 r => by
    obtain ⟨c, ev⟩ := hr v H2 r
    subst ev
    exact (ev_c (v := .int (k : Int)) (σ := σ)) H2 (Ex.refl _) _ fun H3 e3 => ⟨(c : Int), (k : Int), rfl, rfl, .inr ⟨by omega, by omega⟩, q _ H3 (e2.trans e3) ⟨c * k, by rw [Int.natCast_mul]⟩⟩
theorem ep_addc (hb : EvP tb σ H (NatB k)) : EvP (tOp (rI0 fun i j => .int (i + j)) (tC (.int (m : Int))) tb) σ H (fun v _ => ∃ c : Nat, v = .int ((m + c : Nat) : Int) ∧ c < k) := fun H1 e Q q =>
  (ev_c (v := .int (m : Int)) (σ := σ)) H1 (Ex.refl _) _ fun H2 e2 => hb H2 (e.trans e2) _ fun v H3 e3 ⟨c, ev, lt⟩ => by
    subst ev
    exact ⟨(m : Int), (c : Int), rfl, rfl, q _ H3 (e2.trans e3) ⟨c, by rw [Int.natCast_add], lt⟩⟩
theorem natB_nat {v : V} {H' : Hp} (r : NatB k v H') : ∃ c : Nat, v = .int (c : Int) := let ⟨c, e, _⟩ := r; ⟨c, e⟩
theorem natsV_appI {ts : List Nat} (h : 0 ≤ c) : natsV ts ++ [V.int c] = natsV (ts ++ [c.toNat]) := by
  obtain ⟨k, rfl⟩ := nat_of h
  rw [natsV_app, Int.toNat_natCast]
theorem first_at {x : Int} : ∀ {ns : List Int}, x ∈ ns → ∃ j, j < ns.length ∧ ns[j]? = some x ∧ ∀ m, m < j → ns[m]? ≠ some x
  | [], h => absurd h List.not_mem_nil
  | y :: ns, h => by
    by_cases e : y = x
    · exact ⟨0, by simp, by rw [e]; rfl, fun m hm => absurd hm (Nat.not_lt_zero m)⟩
    · obtain ⟨j, h1, h2, h3⟩ := first_at ((List.mem_cons.mp h).resolve_left fun z => e z.symm)
      refine ⟨j + 1, by rw [List.length_cons]; omega, by simpa using h2, fun m hm => ?_⟩
      cases m with
      | zero => simpa using e
      | succ m => simpa using h3 m (by omega)
theorem flat_ints (ns : List Int) : (intsV ns).all flatV = true := by
  unfold intsV
  rw [List.all_map, List.all_eq_true]
  intro _ _
  rfl
/-- xs.index(x) of an x in it -/
theorem ep_index {M : Int → Prop} (ha : Ev ta σ H (.ref l)) (hl : SqL K H l (intsV ns)) (hb : EvP tb σ H (fun v _ => ∃ k, v = .int k ∧ k ∈ ns ∧ M k)) : EvP (tBM K "list" (rIndex K) ta (tCons tb tNil)) σ H (NatB ns.length) := fun H1 e Q q =>
  ha H1 e _ fun H2 e2 => ⟨Or.inl ⟨rfl, _, ex_l (e.trans e2) hl⟩, hb H2 (e.trans e2) _ fun v H3 e3 ⟨k, ev, mk1, _⟩ => by
    subst ev
    obtain ⟨j, h1, h2, h3⟩ := first_at mk1
    exact ⟨l, intsV ns, .int k, j, .int k, rfl, rfl, ex_l ((e.trans e2).trans e3) hl, rfl, flat_ints ns, intsV_get h2, by show (k == k) = true; simp, fun m z hm hz => by
      obtain ⟨u, hu, rfl⟩ := intsV_at hz
      show (u == k) = false
      exact beq_eq_false_iff_ne.mpr fun w => h3 m hm (by rw [hu, w]), q _ H3 (e2.trans e3) ⟨j, rfl, h1⟩⟩⟩
end
def sp_L_cell_at (K : PySem.W.Frag) : Sp := fun vs H Q _ => ∃ s cs, ∃ k : Nat, vs = [.ref s, .int (k : Int)] ∧ SqL K H s (intsV cs) ∧ RetP (NatB 1000000000000000000000000) H Q
abbrev N_L_cell_at : List Str := ["_law_script", "_law_k"]
theorem sc_L_cell_at : FnScope N_L_cell_at ["_law_script", "_law_k"] (defScope s_L_cell_at) := ⟨rfl, rfl, rfl, by decide +kernel, rfl, by decide +kernel, by decide +kernel⟩
theorem ok_L_cell_at {P : Program} {w : World} {K : PySem.W.Frag} {mg : Str → Option Value} {base : Heap} (TT : Top K mg)  : Ok P w K mg base 1 "_law_cell_at" ["_law_script", "_law_k"] [] (sp_L_cell_at K) := by
  refine TT.ok (d := d_L_cell_at) 74 47 rfl rfl rfl rfl rfl sc_L_cell_at (fun _ _ _ _ _ _ us hl => match us, hl with | [_, _], _ => rfl) (fun vs H Q E h => ?_) (fun cdv A outer s H vs Q E hr h => ?_)
  · obtain ⟨s, cs, k, rfl, _⟩ := h; rfl
  · obtain ⟨s', cs, m, rfl, hs, k⟩ := h
    refine ⟨_, (pss_cons (ps_if (pt_cmpR op_lt (pv 1) (cLen K (TT.free 70) (pa_cons (pv 0) pa_nil)) (nomark _)) (pss_one (ps_ret (pe_op op_mod (pe_ix (ixL K) (pv 0) (pv 1) (fun _ _ => rfl)) (pe_op op_pow pe_int pe_int)))) pss_nil)
  (pss_one (ps_ret pe_int))), ?_⟩
    have hl := ev_len (σ := [some (.ref s'), some (.int (m : Int))]) (ta := tVar 0) (ev_var rfl) hs
    rw [intsV_len] at hl
    refine q_when (et_test (ev_op (ev_var rfl) hl rv_I0)) (fun z H1 e1 => ?_) (fun z H1 e1 => ?_)
    · have z := of_decide_eq_true z
      have lm : m < cs.length := by omega
      refine s_ret (ev_mod (ev_op (ev_var rfl) (ev_var rfl) (rv_ixL (ex_l e1 hs) (atI_nat (intsV_get (List.getElem?_eq_getElem lm))))) ev_pow24 (by omega)) fun H2 e2 => k _ H2 (e1.trans e2) ?_
      obtain ⟨c, ec⟩ := nat_of (Int.emod_nonneg cs[m] (show (1000000000000000000000000 : Int) ≠ 0 by omega))
      refine ⟨c, by rw [ec], ?_⟩
      have := Int.emod_lt_of_pos cs[m] (show (0 : Int) < 1000000000000000000000000 by omega)
      omega
    · exact s_ret ev_c fun H2 e2 => k _ H2 (e1.trans e2) ⟨0, rfl, by omega⟩
section
variable {K : PySem.W.Frag} {H : Hp} {σ : L2.St} {ta tb : TE} {s : Addr} {cs : List Int} {k : Nat} {E : XK}
theorem c_cell (hs : SqL K H s (intsV cs)) (e1 : Ev ta σ H (.ref s)) (e2 : Ev tb σ H (.int (k : Int))) : EvP (tCall (sp_L_cell_at K) [] E (tCons ta (tCons tb tNil))) σ H (NatB 1000000000000000000000000) :=
  ep_callP (ea_cons e1 (ea_cons e2 ea_nil)) fun H1 e Q q => ⟨s, cs, k, rfl, ex_l e hs, q⟩
end
def sp_L_numbers (K : PySem.W.Frag) : Sp := fun vs H Q _ => ∃ s cs, ∃ m : Nat, vs = [.ref s, .int (m : Int)] ∧ SqL K H s (intsV cs) ∧ cs.length ≤ 1000 ∧ m ≤ 1000 ∧ RetP (NatsAt fun ns => ns.length = m) H Q
abbrev N_L_numbers : List Str := ["_law_cells", "_law_many", "_law_numbers_here", "_law_k", "_law_cell", "_law_at"]
theorem sc_L_numbers : FnScope N_L_numbers ["_law_cells", "_law_many"] (defScope s_L_numbers) := ⟨rfl, rfl, rfl, by decide +kernel, rfl, by decide +kernel, by decide +kernel⟩
theorem ok_L_numbers {P : Program} {w : World} {K : PySem.W.Frag} {mg : Str → Option Value} {base : Heap} (TT : Top K mg)  : Ok P w K mg base 1 "_law_numbers" ["_law_cells", "_law_many"] [] (sp_L_numbers K) := by
  refine TT.ok (d := d_L_numbers) 75 48 rfl rfl rfl rfl rfl sc_L_numbers (fun _ _ _ _ _ _ us hl => match us, hl with | [_, _], _ => rfl) (fun vs H Q E h => ?_) (fun cdv A outer s H vs Q E hr h => ?_)
  · obtain ⟨s, cs, k, rfl, _⟩ := h; rfl
  · obtain ⟨s', cs, many, rfl, hs, cl, ml, k⟩ := h
    refine ⟨_, (pss_cons (ps_set (i := 2) sc_L_numbers.nd rfl (Or.inl rfl) (pe_lst pa_nil))
  (pss_cons (ps_for PassesOwn.never rfl (pi_range1 rfl (TT.free 71) (pa_cons (pv 1) pa_nil)) (pg_name (i := 3) sc_L_numbers.nd rfl (Or.inl rfl) (Or.inr rfl)) (pss_cons (ps_set (i := 4) sc_L_numbers.nd rfl (Or.inl rfl) pe_int)
  (Evl.pss_cut (ps_if (pt_cmpR op_gt (cLen K (TT.free 70) (pa_cons (pv 0) pa_nil)) pe_int (nomark _)) (pss_one (ps_set (i := 4) sc_L_numbers.nd rfl (Or.inl rfl) (pe_op op_mod (pe_ix (ixL K) (pv 0) (pe_op op_mod (pv 3) (cLen K (TT.free 70) (pa_cons (pv 0) pa_nil))) (fun _ _ => rfl)) (pe_op op_pow pe_int pe_int)))) pss_nil)
  (pss_one (ps_expr (eBM K PySem.F.plainAttrs_list PySem.F.slot_list_append PySem.F.type_list_append mt_append (pv 2) (pa_cons (pe_op op_mod (pe_op op_mul (pe_op op_add (pv 4) (pe_op op_mul (pe_op op_mul (pv 3) (pv 3)) pe_int)) pe_int) pe_int) pa_nil)))))))
  (pss_cons (ps_for PassesOwn.never rfl (pi_range2 rfl (TT.free 71) (pa_cons (pv 1) (pa_cons (cLen K (TT.free 70) (pa_cons (pv 0) pa_nil)) pa_nil))) (pg_name (i := 3) sc_L_numbers.nd rfl (Or.inl rfl) (Or.inr rfl)) (pss_one (ps_if (pt_cmpR op_gt (pv 1) pe_int (nomark _)) (pss_cons (ps_set (i := 5) sc_L_numbers.nd rfl (Or.inl rfl) (pe_op op_mod (pv 3) (pv 1)))
  (pss_cons (ps_set (i := 4) sc_L_numbers.nd rfl (Or.inl rfl) (pe_op op_mod (pe_ix (ixL K) (pv 0) (pv 3) (fun _ _ => rfl)) (pe_op op_pow pe_int pe_int)))
  (pss_one (ps_asg (pe_op op_mod (pe_op op_add (pe_op op_mul (pe_ix (ixL K) (pv 2) (pv 5) (fun _ _ => rfl)) pe_int) (pv 4)) pe_int) (pg_sub (pv 2) (pv 5) set_list))))) pss_nil)))
  (pss_one (ps_ret (pv 2)))))), ?_⟩
    have lenC : ∀ σ' H', Ex H H' → σ'[0]? = some (some (V.ref s')) → Ev (tCB (rLenS K) (tCons (tVar 0) tNil)) σ' H' (.int ((cs.length : Nat) : Int)) := fun σ' H' e z => ev_is (ev_len (ev_var z) (ex_l e hs)) (by rw [intsV_len])
    refine q_asgL (el_lst ea_nil (by decide)) fun an H1 nan e1 han => ?_
    refine q_forR1 (n := (many : Int)) (ea_cons (ev_var rfl) ea_nil) (by omega) (fun m σ' H' => ∃ ns v3 v4, σ' = [some (.ref s'), some (.int (many : Int)), some (.ref an), v3, v4, none] ∧ Ex H H' ∧ H' an = some (.lst (natsV ns)) ∧ ns.length = m)
      (fun H2 e2 => ⟨[], none, none, rfl, e1.trans e2, e2 an _ han, rfl⟩) (fun m σ' H' hm pr => ?_) (fun σ' H' pr => ?_)
    · obtain ⟨ns, v3, v4, rfl, ex, hn, len⟩ := pr
      refine q_asg ev_c fun H2 e2 => ?_
      refine q_cut (M := fun σ' H' => ∃ c : Nat, σ' = [some (.ref s'), some (.int (many : Int)), some (.ref an), some (.int (m : Int)), some (.int (c : Int)), none] ∧ Ex H2 H') ?_ fun σ' H3 pr => ?_
      · refine s_when (et_test (ev_op (lenC _ _ (ex.trans e2) rfl) ev_c rv_I0)) (fun z H3 e3 => ?_) (fun z H3 e3 => ⟨7, rfl, e3⟩)
        have z := of_decide_eq_true z
        have ix : m % cs.length < cs.length := Nat.mod_lt _ (by omega)
        refine s_asg (ev_mod (ev_op (ev_var rfl) (ev_modN (ev_var rfl) (lenC _ _ ((ex.trans e2).trans e3) rfl) (by omega)) (rv_ixL (ex_l ((ex.trans e2).trans e3) hs) (atI_nat (intsV_get (List.getElem?_eq_getElem ix))))) ev_pow24 (by omega)) fun H4 e4 => ?_
        obtain ⟨c, ec⟩ := nat_of (Int.emod_nonneg cs[m % cs.length] (show (1000000000000000000000000 : Int) ≠ 0 by omega))
        rw [ec]
        exact ⟨c, rfl, e3.trans e4⟩
      · obtain ⟨c, rfl, e3⟩ := pr
        have cm1 : CMul (m : Int) (m : Int) := .inr ⟨by omega, by omega⟩
        have cm2 : CMul ((m : Int) * (m : Int)) 7919 := .inr ⟨by omega, by omega⟩
        have cm3 : CMul ((c : Int) + (m : Int) * (m : Int) * 7919) 48271 := .inr ⟨by omega, by omega⟩
        refine s_app (xs := natsV ns) (e3 an _ (e2 an _ hn)) (ev_var rfl) (ev_mod (ev_op (ev_add (ev_var rfl) (ev_op (ev_op (ev_var rfl) (ev_var rfl) (rv_I cm1)) ev_c (rv_I cm2))) ev_c (rv_I cm3)) ev_c (by omega)) (by rw [natsV_len]; omega) fun H4 e4 => ⟨_, _, _, rfl, Ex.mut (((ex.trans e2).trans e3).trans e4) nan, by rw [upd_same, natsV_appI (Int.emod_nonneg _ (by omega))], by rw [List.length_append, List.length_singleton, len]⟩
    · obtain ⟨ns, v3, v4, rfl, ex, hn, len⟩ := pr
      rw [Int.toNat_natCast] at len
      refine q_forR2 (lo := (many : Int)) (n := ((cs.length : Nat) : Int)) (ea_cons (ev_var rfl) (ea_cons (lenC _ _ ex rfl) ea_nil)) ⟨by omega, by omega, by omega, by omega⟩ (fun m σ' H' => ∃ ns v3 v4 v5, σ' = [some (.ref s'), some (.int (many : Int)), some (.ref an), v3, v4, v5] ∧ Ex H H' ∧ H' an = some (.lst (natsV ns)) ∧ ns.length = many)
        (fun H2 e2 => ⟨ns, v3, v4, none, rfl, ex.trans e2, e2 an _ hn, len⟩) (fun m σ' H' hm pr => ?_) (fun σ' H' pr => ?_)
      · obtain ⟨ns, v3, v4, v5, rfl, ex, hn, len⟩ := pr
        have lm : many + m < cs.length := by omega
        have ek : (many : Int) + (m : Int) = ((many + m : Nat) : Int) := by omega
        refine s_when (et_test (ev_op (ev_var rfl) ev_c rv_I0)) (fun z H2 e2 => ?_) (fun z H2 e2 => ⟨ns, _, _, _, rfl, ex.trans e2, e2 an _ hn, len⟩)
        have z := of_decide_eq_true z
        have ix : (many + m) % many < many := Nat.mod_lt _ (by omega)
        refine q_asg (ev_modN (k := many + m) (m := many) (ev_is (ev_var rfl) (by rw [ek])) (ev_var rfl) (by omega)) fun H3 e3 => ?_
        refine q_asg (ev_mod (ev_op (ev_var rfl) (ev_is (ev_var rfl) (by rw [ek])) (rv_ixL (ex_l ((ex.trans e2).trans e3) hs) (atI_nat (intsV_get (List.getElem?_eq_getElem lm))))) ev_pow24 (by omega)) fun H4 e4 => ?_
        have hn4 := e4 an _ (e3 an _ (e2 an _ hn))
        have cm : CMul ((ns.getD ((many + m) % many) 0 : Nat) : Int) 69621 := .inr ⟨by omega, by omega⟩
        refine s_setL (xs := natsV ns) (j := (many + m) % many) (v := .int ((((ns.getD ((many + m) % many) 0 : Nat) : Int) * 69621 + cs[many + m] % 1000000000000000000000000) % 2305843009213693951)) hn4 (ev_mod (ev_add (ev_op (ev_op (ev_var rfl) (ev_var rfl) (rv_ixL (sq_of hn4) (atI_nat (natsV_get (getD_at (by omega)))))) ev_c (rv_I cm)) (ev_var rfl)) ev_c (by omega)) (ev_var rfl) (ev_var rfl) (by rw [natsV_len]; omega) fun H5 e5 => ?_
        obtain ⟨c, ec⟩ := nat_of (Int.emod_nonneg (((ns.getD ((many + m) % many) 0 : Nat) : Int) * 69621 + cs[many + m] % 1000000000000000000000000) (show (2305843009213693951 : Int) ≠ 0 by omega))
        rw [ec]
        refine ⟨ns.set ((many + m) % many) c, _, _, _, rfl, Ex.mut ((((ex.trans e2).trans e3).trans e4).trans e5) nan, ?_, by rw [List.length_set]; exact len⟩
        rw [upd_same]
        unfold natsV
        rw [List.map_set]
      · obtain ⟨ns, v3, v4, v5, rfl, ex, hn, len⟩ := pr
        exact s_ret (ev_var rfl) fun H2 e2 => k _ H2 (ex.trans e2) ⟨an, ns, rfl, e2 an _ hn, len⟩
def sp_L_choices (K : PySem.W.Frag) : Sp := fun vs H Q _ => ∃ a T h n, ∃ c : Int, vs = [.int c, .ref a] ∧ GT K H a T h n ∧ RetN (DealV h n fun _ => True) H Q
theorem el_col {K : PySem.W.Frag} {H : Hp} {a : Addr} {T : List (List Int)} {h n t j : Nat} {σ : L2.St} {tt : TE} (g : GT K H a T h n) (ht : t < n) (s1 : Ev tt σ H (.ref a)) (w : ∀ x, wipe ((wipe σ [j]).set j (some x)) [j] = wipe σ [j]) (tt' : TE)
    (hv : ∀ x H1, Ev (tVar j) ((wipe σ [j]).set j (some x)) H1 x) (h4 : ∀ x H1, Ev tt' ((wipe σ [j]).set j (some x)) H1 (.int (t : Int))) : EvL (tLc (iList K tt) (gName j) tYes (tOp (rIxL K) (tVar j) tt') [j]) σ H (intsV ((List.range h).map fun i => wt T i t)) := by
  obtain ⟨⟨rs, g1, g2, g3⟩, o⟩ := id g
  have rl : rs.length = h := by rw [g2, o.len]
  have hw := wk_list (K := K) (j := j) (tl := tt) (σ := σ) (H := H) s1 g1
  rw [List.length_map, rl] at hw
  have z := el_lc (tt := tYes) (te := tOp (rIxL K) (tVar j) tt') (vs := [j]) (fun _ => true) (fun i => .int (wt T i t)) hw (by have := o.h4; omega) (fun i => w _) (fun i H3 e3 hi => et_yes rfl) (fun i H3 e3 hi _ => by
    have hi1 : i < rs.length := by omega
    have hi2 : i < T.length := by rw [← g2]; exact hi1
    have r1 := g3 i rs[i] T[i] (List.getElem?_eq_getElem hi1) (List.getElem?_eq_getElem hi2)
    have er : (rs.map V.ref).getD i .non = .ref rs[i] := by
      rw [List.getD_eq_getElem?_getD, List.getElem?_map, List.getElem?_eq_getElem hi1]
      rfl
    have rowl := o.rows T[i] (List.getElem_mem hi2)
    have wv : wt T i t = T[i][t]'(by omega) := by
      unfold wt
      rw [List.getD_eq_getElem?_getD (l := T), List.getElem?_eq_getElem hi2]
      show T[i].getD t 0 = _
      rw [List.getD_eq_getElem?_getD, List.getElem?_eq_getElem (by omega)]
      rfl
    exact ev_op (ev_is (hv _ H3) er) (h4 _ H3) (rv_ixL (ex_l e3 r1) (atI_nat (intsV_get (by rw [List.getElem?_eq_getElem (by omega), wv])))))
  rw [kept_all] at z
  have e0 : (List.range h).map (fun i => V.int (wt T i t)) = intsV ((List.range h).map fun i => wt T i t) := by
    unfold intsV
    rw [List.map_map]
    rfl
  rw [e0] at z
  exact z
abbrev N_L_choices : List Str := ["_law_cell", "_law_table", "_law_owners", "_law_rest", "_law_thing", "_law_owner", "_law_worths", "_law_row"]
theorem sc_L_choices : FnScope N_L_choices ["_law_cell", "_law_table"] (defScope s_L_choices) := ⟨rfl, rfl, rfl, by decide +kernel, rfl, by decide +kernel, by decide +kernel⟩
theorem ok_L_choices {P : Program} {w : World} {K : PySem.W.Frag} {mg : Str → Option Value} {base : Heap} (TT : Top K mg)  : Ok P w K mg base 1 "_law_choices" ["_law_cell", "_law_table"] [] (sp_L_choices K) := by
  refine TT.ok (d := d_L_choices) 77 50 rfl rfl rfl rfl rfl sc_L_choices (fun _ _ _ _ _ _ us hl => match us, hl with | [_, _], _ => rfl) (fun vs H Q E h => ?_) (fun cdv A outer s H vs Q E hr h => ?_)
  · obtain ⟨a, T, h, n, c, rfl, _⟩ := h; rfl
  · obtain ⟨a, T, h, n, c, rfl, g, k⟩ := h
    refine ⟨_, (pss_cons (ps_set (i := 2) sc_L_choices.nd rfl (Or.inl rfl) (pe_lst pa_nil))
  (pss_cons (ps_set (i := 3) sc_L_choices.nd rfl (Or.inl rfl) (pe_op op_mul (pe_op op_mod (pv 0) (pe_op op_pow pe_int pe_int)) pe_int))
  (pss_cons (ps_for PassesOwn.never rfl (pi_range1 rfl (TT.free 71) (pa_cons (cLen K (TT.free 70) (pa_cons (pe_ix (ixL K) (pv 1) pe_int (fun _ _ => rfl)) pa_nil)) pa_nil)) (pg_name (i := 4) sc_L_choices.nd rfl (Or.inr rfl) (Or.inl rfl)) (pss_cons (ps_set (i := 5) sc_L_choices.nd rfl (Or.inl rfl) (pe_op op_mod (pv 3) (cLen K (TT.free 70) (pa_cons (pv 1) pa_nil))))
  (pss_cons (ps_set (i := 3) sc_L_choices.nd rfl (Or.inl rfl) (pe_op op_fdiv (pv 3) (cLen K (TT.free 70) (pa_cons (pv 1) pa_nil))))
  (Evl.pss_cut (ps_if (pt_cmpR op_eq (pe_op op_mod (pv 3) pe_int) pe_int (nomark _)) (pss_cons (ps_setLc (i := 6) (own := [("_law_row", 7)]) rfl sc_L_choices.nd rfl rfl (sw_true rfl rfl rfl (by decide +kernel)) (wList K (pv 1)) (blkOk_by (N := N_L_choices) (sc := defScope s_L_choices) (by decide +kernel)) (fun _ _ _ _ _ => (pg_name (i := 7) sc_L_choices.nd rfl (Or.inl rfl) (Or.inr rfl))) (fun _ _ _ _ _ => pts_nil) (fun _ _ _ _ _ => (pe_ix (ixL K) (pv 7) (pv 4) (fun _ _ => rfl))))
  (pss_one (ps_set (i := 5) sc_L_choices.nd rfl (Or.inl rfl) (eBM K PySem.F.plainAttrs_list PySem.F.slot_list_index PySem.F.type_list_index (mIndex K) (pv 6) (pa_cons (cMax K (TT.free 75) (pa_cons (pv 6) pa_nil)) pa_nil))))) pss_nil)
  (pss_cons (ps_set (i := 3) sc_L_choices.nd rfl (Or.inl rfl) (pe_op op_fdiv (pv 3) pe_int))
  (pss_one (ps_expr (eBM K PySem.F.plainAttrs_list PySem.F.slot_list_append PySem.F.type_list_append mt_append (pv 2) (pa_cons (pv 5) pa_nil)))))))))
  (pss_one (ps_ret (pv 2)))))), ?_⟩
    have h4 := g.2.h4
    have h1 := g.2.h1
    have n12 := g.2.n12
    refine q_asgL (el_lst ea_nil (by decide)) fun ao H1 nao e1 hao => ?_
    have cm : CMul (c % 1000000000000000000000000) 48271 := .inr ⟨by omega, by omega⟩
    refine q_asg (ev_op (ev_mod (ev_var rfl) ev_pow24 (by omega)) ev_c (rv_I cm)) fun H2 e2 => ?_
    obtain ⟨r0, er0⟩ := nat_of (Int.mul_nonneg (Int.emod_nonneg c (show (1000000000000000000000000 : Int) ≠ 0 by omega)) (show (0 : Int) ≤ 48271 by omega))
    rw [er0]
    refine q_forR1 (n := (n : Int)) (ea_cons (ev_lenRow (g.mono (e1.trans e2)) (ev_var rfl)) ea_nil) (by omega) (fun m σ' H' => ∃ (r : Nat) (os : List Nat) (v4 v5 v6 : Option V), σ' = [some (.int c), some (.ref a), some (.ref ao), some (.int (r : Int)), v4, v5, v6, none] ∧ Ex H H' ∧ H' ao = some (.lst (natsV os)) ∧ os.length = m ∧ ∀ x, x ∈ os → x < h)
      (fun H3 e3 => ⟨r0, [], none, none, none, rfl, (e1.trans e2).trans e3, e3 ao _ (e2 ao _ hao), rfl, fun x m => absurd m List.not_mem_nil⟩) (fun m σ' H' hm pr => ?_) (fun σ' H' pr => ?_)
    · obtain ⟨r, os, v4, v5, v6, rfl, ex, ho, len, lt⟩ := pr
      refine q_asg (ev_modN (ev_var rfl) (ev_lenTab (g.mono ex) (ev_var rfl)) (by omega)) fun H3 e3 => ?_
      have cd : CDiv (r : Int) (h : Int) := ⟨by omega, by omega⟩
      refine q_asg (v := .int ((r / h : Nat) : Int)) (ev_is (ev_op (ev_var rfl) (ev_lenTab (g.mono (ex.trans e3)) (ev_var rfl)) (rv_I cd)) (by rw [Int.natCast_ediv])) fun H4 e4 => ?_
      refine q_cut (M := fun σ' H' => ∃ (o : Nat) (v6 : Option V), σ' = [some (.int c), some (.ref a), some (.ref ao), some (.int ((r / h : Nat) : Int)), some (.int (m : Int)), some (.int (o : Int)), v6, none] ∧ Ex H4 H' ∧ o < h) ?_ fun σ' H5 pr => ?_
      · refine s_when (et_test (ev_op (ev_mod (ev_var rfl) ev_c (by omega)) ev_c (rv_eq rfl))) (fun z H5 e5 => ?_) (fun z H5 e5 => ⟨r % h, v6, rfl, e5, Nat.mod_lt _ (by omega)⟩)
        have ex5 := ((ex.trans e3).trans e4).trans e5
        refine q_asgL (el_col (t := m) (g.mono ex5) (by omega) (ev_var rfl) (fun x => rfl) _ (fun x H1 => ev_var rfl) (fun x H1 => ev_var rfl)) fun aw H6 naw e6 haw => ?_
        have ne : (List.range h).map (fun i => wt T i m) ≠ [] := by
          intro z
          rw [List.map_eq_nil_iff, List.range_eq_nil] at z
          omega
        refine s_asgP (ep_index (M := fun k => ∀ j, j ∈ (List.range h).map (fun i => wt T i m) → j ≤ k) (ev_var rfl) (sq_of haw) (ep_max (ev_var rfl) (sq_of haw) ne)) fun v H7 e7 ⟨o, ev, ol⟩ => ?_
        subst ev
        rw [List.length_map, List.length_range] at ol
        exact ⟨o, _, rfl, (e5.trans e6).trans e7, ol⟩
      · obtain ⟨o, v6, rfl, e5, ol⟩ := pr
        have cd4 : CDiv ((r / h : Nat) : Int) 4 := ⟨by omega, by omega⟩
        refine q_asg (v := .int ((r / h / 4 : Nat) : Int)) (ev_is (ev_op (ev_var rfl) ev_c (rv_I cd4)) (by rw [Int.natCast_ediv (r / h) 4]; rfl)) fun H6 e6 => ?_
        have e := ((e3.trans e4).trans e5).trans e6
        refine s_app (xs := natsV os) (e ao _ ho) (ev_var rfl) (ev_var rfl) (by rw [natsV_len]; omega) fun H7 e7 => ⟨_, os ++ [o], _, _, _, rfl, Ex.mut ((ex.trans e).trans e7) nao, by rw [upd_same, natsV_app], by rw [List.length_append, List.length_singleton, len], fun x mx => ?_⟩
        rcases List.mem_append.mp mx with z | z
        · exact lt x z
        · rw [List.mem_singleton.mp z]; exact ol
    · obtain ⟨r, os, v4, v5, v6, rfl, ex, ho, len, lt⟩ := pr
      rw [Int.toNat_natCast] at len
      exact s_ret (ev_var rfl) fun H3 e3 => k _ H3 (ex.trans e3) ⟨ao, os, rfl, by rw [newp_at nao]; exact e3 ao _ ho, len, lt, trivial⟩
end Lk

namespace Lk
open PySem PySem.Spec PyProof.Rows L2 Evl LE
/-! ### tables of the law -/
def rE (K : PySem.W.Frag) (row : List Int) (v : V) (H : Hp) : Prop := ∃ p, v = .ref p ∧ SqL K H p (intsV row)
theorem rE_mono (K : PySem.W.Frag) (row : List Int) : Mono (rE K row) := fun v H H' e ⟨p, h1, h2⟩ => ⟨p, h1, ex_l e h2⟩
theorem pd_refs {K : PySem.W.Frag} {H : Hp} : ∀ {T : List (List Int)} {ys : List V}, Paired (fun x v => rE K x v H) T ys → ∃ rs : List Addr, ys = rs.map V.ref ∧ rs.length = T.length ∧ ∀ (i : Nat) (r : Addr) (row : List Int), rs[i]? = some r → T[i]? = some row → SqL K H r (intsV row) := by
  intro T
  induction T with
  | nil => intro ys h; cases h; exact ⟨[], rfl, rfl, fun i r row e => by simp at e⟩
  | cons x T ih =>
    intro ys h
    cases h with
    | cons r t =>
      obtain ⟨p, e1, e2⟩ := r
      obtain ⟨rs, e3, e4, e5⟩ := ih t
      refine ⟨p :: rs, by rw [e1, e3]; rfl, by rw [List.length_cons, List.length_cons, e4], fun i r row h1 h2 => ?_⟩
      cases i with
      | zero => simp at h1 h2; rw [← h1, ← h2]; exact e2
      | succ i => exact e5 i r row (by simpa using h1) (by simpa using h2)
theorem tab_of {K : PySem.W.Frag} {H : Hp} {T : List (List Int)} {ys : List V} {a : Addr} (ha : SqL K H a ys) (pd : Pd (rE K) T ys H) : TabAt K H a T := by
  obtain ⟨rs, e1, e2, e3⟩ := pd_refs pd
  exact ⟨rs, by rw [← e1]; exact ha, e2, e3⟩
def GTv (K : PySem.W.Frag) (h n : Nat) (v : V) (H : Hp) : Prop := ∃ a T, v = .ref a ∧ GT K H a T h n
def sp_L_rows (K : PySem.W.Frag) : Sp := fun vs H Q _ => ∃ s cs, ∃ h n : Nat, vs = [.ref s, .int (h : Int), .int (n : Int)] ∧ SqL K H s (intsV cs) ∧ 1 ≤ h ∧ h ≤ 4 ∧ n ≤ 12 ∧ RetP (GTv K h n) H Q
theorem intsV_app (ns : List Int) (x : Int) : intsV ns ++ [V.int x] = intsV (ns ++ [x]) := by
  unfold intsV
  rw [List.map_append]
  rfl
abbrev N_L_rows : List Str := ["_law_script", "_law_hands", "_law_things", "_law_numbers_here", "_law_rows_here", "_law_hand", "_law_row", "_law_thing", "_law_number", "_law_worth"]
theorem sc_L_rows : FnScope N_L_rows ["_law_script", "_law_hands", "_law_things"] (defScope s_L_rows) := ⟨rfl, rfl, rfl, by decide +kernel, rfl, by decide +kernel, by decide +kernel⟩
theorem ok_L_rows {P : Program} {w : World} {K : PySem.W.Frag} {mg : Str → Option Value} {base : Heap} (TT : Top K mg) (O_L_numbers : Ok P w K mg base 1 "_law_numbers" ["_law_cells", "_law_many"] [] (sp_L_numbers K)) : Ok P w K mg base 2 "_law_rows" ["_law_script", "_law_hands", "_law_things"] [] (sp_L_rows K) := by
  refine TT.ok (d := d_L_rows) 76 49 rfl rfl rfl rfl rfl sc_L_rows (fun _ _ _ _ _ _ us hl => match us, hl with | [_, _, _], _ => rfl) (fun vs H Q E h => ?_) (fun cdv A outer s H vs Q E hr h => ?_)
  · obtain ⟨s, cs, h, n, rfl, _⟩ := h; rfl
  · obtain ⟨s', cs, h, n, rfl, hs, h1, h4, n12, k⟩ := h
    refine ⟨_, (pss_cons (ps_set (i := 3) sc_L_rows.nd rfl (Or.inl rfl) (pe_cl O_L_numbers (hr.mono (by decide)) rfl (pa_cons (pe_slice (slL K) (pv 0) po_none (po_some pe_int)) (pa_cons (pe_op op_mul (pv 1) (pv 2)) pa_nil))))
  (pss_cons (ps_set (i := 4) sc_L_rows.nd rfl (Or.inl rfl) (pe_lst pa_nil))
  (pss_cons (ps_for PassesOwn.never rfl (pi_range1 rfl (TT.free 71) (pa_cons (pv 1) pa_nil)) (pg_name (i := 5) sc_L_rows.nd rfl (Or.inl rfl) (Or.inr rfl)) (pss_cons (ps_set (i := 6) sc_L_rows.nd rfl (Or.inl rfl) (pe_lst pa_nil))
  (pss_cons (ps_for PassesOwn.never rfl (pi_range1 rfl (TT.free 71) (pa_cons (pv 2) pa_nil)) (pg_name (i := 7) sc_L_rows.nd rfl (Or.inl rfl) (Or.inr rfl)) (pss_cons (ps_set (i := 8) sc_L_rows.nd rfl (Or.inl rfl) (pe_ix (ixL K) (pv 3) (pe_op op_add (pe_op op_mul (pv 5) (pv 2)) (pv 7)) (fun _ _ => rfl)))
  (pss_cons (ps_set (i := 9) sc_L_rows.nd rfl (Or.inl rfl) (pe_op op_mod (pe_op op_fdiv (pv 8) pe_int) (pe_op op_add (pe_op op_pow pe_int pe_int) pe_int)))
  (Evl.pss_cut (ps_if (pt_cmpR op_lt (pe_op op_mod (pv 8) pe_int) pe_int (nomark _)) (pss_one (ps_set (i := 9) sc_L_rows.nd rfl (Or.inl rfl) (pe_op op_mod (pe_op op_fdiv (pv 8) pe_int) pe_int))) pss_nil)
  (Evl.pss_cut (ps_if (pt_cmpR op_eq (pe_op op_mod (pv 8) pe_int) pe_int (nomark _)) (pss_one (ps_set (i := 9) sc_L_rows.nd rfl (Or.inl rfl) pe_int)) pss_nil)
  (Evl.pss_cut (ps_if (PW.pt (pw_and (pt_cmpR op_eq (pe_op op_mod (pv 8) pe_int) pe_int (nomark _)) (pw_and1 (pt_cmpR op_gt (pv 5) pe_int (nomark _))))) (pss_one (ps_set (i := 9) sc_L_rows.nd rfl (Or.inl rfl) (pe_ix (ixL K) (pe_ix (ixL K) (pv 4) (pe_op op_sub (pv 5) pe_int) (fun _ _ => rfl)) (pv 7) (fun _ _ => rfl)))) pss_nil)
  (Evl.pss_cut (ps_if (PW.pt (pw_and (pt_cmpR op_eq (pe_op op_mod (pv 8) pe_int) pe_int (nomark _)) (pw_and1 (pt_cmpR op_gt (pv 7) pe_int (nomark _))))) (pss_one (ps_set (i := 9) sc_L_rows.nd rfl (Or.inl rfl) (pe_ix (ixL K) (pv 6) (pe_op op_sub (pv 7) pe_int) (fun _ _ => rfl)))) pss_nil)
  (pss_one (ps_expr (eBM K PySem.F.plainAttrs_list PySem.F.slot_list_append PySem.F.type_list_append mt_append (pv 6) (pa_cons (pv 9) pa_nil)))))))))))
  (pss_one (ps_expr (eBM K PySem.F.plainAttrs_list PySem.F.slot_list_append PySem.F.type_list_append mt_append (pv 4) (pa_cons (pv 6) pa_nil)))))))
  (pss_one (ps_ret (pv 4)))))), ?_⟩
    have hn : h * n ≤ 48 := Nat.mul_le_mul h4 n12
    have cmh : CMul (h : Int) (n : Int) := .inr ⟨by omega, by omega⟩
    have tk := el_take (K := K) (i := 63) (ta := tVar 0) (tb := tC (.int 63)) (σ := [some (.ref s'), some (.int (h : Int)), some (.int (n : Int)), none, none, none, none, none, none, none]) (ev_var rfl) hs ev_c
    have etk : (intsV cs).take 63 = intsV (cs.take 63) := by unfold intsV; rw [List.map_take]
    rw [etk] at tk
    refine q_asgP (R := NatsAt fun ns => ns.length = h * n) (fun H1 e Q q => tk H1 e _ fun p H2 _ e2 hp => (ev_is (w := .int ((h * n : Nat) : Int)) (ev_op (ev_var (σ := [some (.ref s'), some (.int (h : Int)), some (.int (n : Int)), none, none, none, none, none, none, none]) (i := 1) rfl) (ev_var (i := 2) rfl) (rv_I cmh)) (by rw [Int.natCast_mul])) H2 (Ex.refl _) _ fun H3 e3 => ⟨p, cs.take 63, h * n, rfl, sq_of (e3 p _ hp), by rw [List.length_take]; omega, by omega, fun v H4 e4 r => q v H4 ((e2.trans e3).trans e4) r⟩) fun v H1 e1 ⟨an, ns, ev, han, nl⟩ => ?_
    subst ev
    refine q_asgL (el_lst ea_nil (by decide)) fun ar H2 nar e2 har => ?_
    have ex2 := e1.trans e2
    have nar0 : H ar = none := fresh_back e1 nar
    have dna : an ≠ ar := ne_of_none han nar
    refine q_forR1 (n := (h : Int)) (ea_cons (ev_var rfl) ea_nil) (by omega) (fun i σ' H' => ∃ (rs : List Addr) (T : List (List Int)) (v5 v6 v7 v8 v9 : Option V), σ' = [some (.ref s'), some (.int (h : Int)), some (.int (n : Int)), some (.ref an), some (.ref ar), v5, v6, v7, v8, v9] ∧ Ex H H' ∧ H' an = some (.lst (natsV ns)) ∧ H' ar = some (.lst (rs.map V.ref)) ∧ rs.length = i ∧ T.length = i ∧
        (∀ r, r ∈ rs → r ≠ ar) ∧ (∀ (j : Nat) (r : Addr) (row : List Int), rs[j]? = some r → T[j]? = some row → H' r = some (.lst (intsV row))) ∧ ∀ row, row ∈ T → row.length = n ∧ ∀ x, x ∈ row → 0 ≤ x ∧ x ≤ 1000000000000)
      (fun H3 e3 => ⟨[], [], none, none, none, none, none, rfl, ex2.trans e3, e3 an _ (e2 an _ han), e3 ar _ har, rfl, rfl, fun r m => absurd m List.not_mem_nil, fun j r row e => by simp at e, fun row m => absurd m List.not_mem_nil⟩) (fun i σ' H' hi pr => ?_) (fun σ' H' pr => ?_)
    · obtain ⟨rs, T, v5, v6, v7, v8, v9, rfl, ex, han', har', rl, tl, rne, rat, ok⟩ := pr
      have hi' : i < h := by omega
      refine q_asgL (el_lst ea_nil (by decide)) fun aw H3 naw e3 haw => ?_
      have naw0 : H aw = none := fresh_back ex naw
      have daw : aw ≠ ar := (ne_of_none har' naw).symm
      refine q_forR1 (n := (n : Int)) (ea_cons (ev_var rfl) ea_nil) (by omega) (fun t σ' H4 => ∃ (row : List Int) (v7 v8 v9 : Option V), σ' = [some (.ref s'), some (.int (h : Int)), some (.int (n : Int)), some (.ref an), some (.ref ar), some (.int (i : Int)), some (.ref aw), v7, v8, v9] ∧ Ex H' H4 ∧ H4 aw = some (.lst (intsV row)) ∧ row.length = t ∧ ∀ x, x ∈ row → 0 ≤ x ∧ x ≤ 1000000000000)
        (fun H4 e4 => ⟨[], v7, v8, v9, rfl, e3.trans e4, e4 aw _ haw, rfl, fun x m => absurd m List.not_mem_nil⟩) (fun t σ' H4 ht pr => ?_) (fun σ' H4 pr => ?_)
      · obtain ⟨row, v7, v8, v9, rfl, ex4, haw4, wl, wok⟩ := pr
        have ht' : t < n := by omega
        have ix : i * n + t < ns.length := by
          rw [nl]
          have := Nat.mul_le_mul_right n (show i + 1 ≤ h by omega)
          rw [Nat.add_mul, Nat.one_mul] at this
          omega
        have cmi : CMul (i : Int) (n : Int) := .inr ⟨by omega, by omega⟩
        generalize hnum : ns.getD (i * n + t) 0 = num
        have ln : natsV ns ≠ [] := by
          intro z
          have := congrArg List.length z
          rw [natsV_len, List.length_nil] at this
          omega
        refine q_asg (v := .int (num : Int)) (ev_op (ev_var rfl) (ev_is (w := .int ((i * n + t : Nat) : Int)) (ev_add (ev_op (ev_var rfl) (ev_var rfl) (rv_I cmi)) (ev_var rfl)) (by rw [Int.natCast_add, Int.natCast_mul])) (rv_ixL (sq_of (ex4 an _ han')) (atI_nat (natsV_get (by rw [← hnum]; exact getD_at ix))))) fun H5 e5 => ?_
        have cd8 : CDiv (num : Int) 8 := ⟨by omega, by omega⟩
        have m12 : ∀ c : Int, 0 ≤ c % (1000000000000 + 1) ∧ c % (1000000000000 + 1) ≤ 1000000000000 := fun c => by omega
        refine q_asg (ev_mod (ev_op (ev_var rfl) ev_c (rv_I cd8)) (ev_add ev_pow12 ev_c) (by omega)) fun H6 e6 => ?_
        obtain ⟨x0, ex0, x0a, x0b⟩ : ∃ x0 : Int, ((num : Int) / 8) % (1000000000000 + 1) = x0 ∧ 0 ≤ x0 ∧ x0 ≤ 1000000000000 := ⟨_, rfl, m12 _⟩
        rw [ex0]
        have e56 := e5.trans e6
        refine q_cut (M := fun σ' H7 => ∃ x : Int, σ' = [some (.ref s'), some (.int (h : Int)), some (.int (n : Int)), some (.ref an), some (.ref ar), some (.int (i : Int)), some (.ref aw), some (.int (t : Int)), some (.int (num : Int)), some (.int x)] ∧ Ex H6 H7 ∧ 0 ≤ x ∧ x ≤ 1000000000000) ?_ fun σ' H7 pr => ?_
        · refine s_when (et_test (ev_op (ev_mod (ev_var rfl) ev_c (by omega)) ev_c rv_I0)) (fun z H7 e7 => ?_) (fun z H7 e7 => ⟨x0, rfl, e7, x0a, x0b⟩)
          exact s_asg (ev_mod (ev_op (ev_var rfl) ev_c (rv_I cd8)) ev_c (by omega)) fun H8 e8 => ⟨_, rfl, e7.trans e8, by omega, by omega⟩
        obtain ⟨x1, rfl, e7, x1a, x1b⟩ := pr
        refine q_cut (M := fun σ' H8 => ∃ x : Int, σ' = [some (.ref s'), some (.int (h : Int)), some (.int (n : Int)), some (.ref an), some (.ref ar), some (.int (i : Int)), some (.ref aw), some (.int (t : Int)), some (.int (num : Int)), some (.int x)] ∧ Ex H6 H8 ∧ 0 ≤ x ∧ x ≤ 1000000000000) ?_ fun σ' H8 pr => ?_
        · refine s_when (et_test (ev_op (ev_mod (ev_var rfl) ev_c (by omega)) ev_c (rv_eq rfl))) (fun z H8 e8 => ?_) (fun z H8 e8 => ⟨x1, rfl, e7.trans e8, x1a, x1b⟩)
          exact s_asg ev_c fun H9 e9 => ⟨0, rfl, (e7.trans e8).trans e9, by omega, by omega⟩
        obtain ⟨x2, rfl, e8, x2a, x2b⟩ := pr
        refine q_cut (M := fun σ' H9 => ∃ x : Int, σ' = [some (.ref s'), some (.int (h : Int)), some (.int (n : Int)), some (.ref an), some (.ref ar), some (.int (i : Int)), some (.ref aw), some (.int (t : Int)), some (.int (num : Int)), some (.int x)] ∧ Ex H6 H9 ∧ 0 ≤ x ∧ x ≤ 1000000000000) ?_ fun σ' H9 pr => ?_
        · refine s_when (et_and (et_test (ev_op (ev_mod (ev_var rfl) ev_c (by omega)) ev_c (rv_eq rfl))) (fun _ => et_test (ev_op (ev_var rfl) ev_c rv_I0))) (fun z H9 e9 => ?_) (fun z H9 e9 => ⟨x2, rfl, e8.trans e9, x2a, x2b⟩)
          rw [Bool.and_eq_true] at z
          have i0 : 0 < i := by have := of_decide_eq_true z.2; omega
          have l1 : i - 1 < rs.length := by omega
          have l2 : i - 1 < T.length := by omega
          have e49 := ((ex4.trans e56).trans e8).trans e9
          have h1r := e49 _ _ (rat (i - 1) rs[i - 1] T[i - 1] (List.getElem?_eq_getElem l1) (List.getElem?_eq_getElem l2))
          obtain ⟨o1, o2⟩ := ok T[i - 1] (List.getElem_mem l2)
          have l3 : t < T[i - 1].length := by omega
          have mx : T[i - 1].getD t 0 ∈ T[i - 1] := getD_mem l3
          refine s_asg (v := .int (T[i - 1].getD t 0)) (ev_op (ev_op (ev_var rfl) (ev_is (w := .int ((i - 1 : Nat) : Int)) (ev_sub (ev_var rfl) ev_c) (by congr 1; omega)) (rv_ixL (sq_of (e49 ar _ har')) (atI_nat (by rw [List.getElem?_map, List.getElem?_eq_getElem l1]; rfl)))) (ev_var rfl) (rv_ixL (sq_of h1r) (atI_nat (intsV_get (getD_at l3))))) fun H10 e10 => ⟨_, rfl, (e8.trans e9).trans e10, (o2 _ mx).1, (o2 _ mx).2⟩
        obtain ⟨x3, rfl, e9, x3a, x3b⟩ := pr
        refine q_cut (M := fun σ' H10 => ∃ x : Int, σ' = [some (.ref s'), some (.int (h : Int)), some (.int (n : Int)), some (.ref an), some (.ref ar), some (.int (i : Int)), some (.ref aw), some (.int (t : Int)), some (.int (num : Int)), some (.int x)] ∧ Ex H6 H10 ∧ 0 ≤ x ∧ x ≤ 1000000000000) ?_ fun σ' H10 pr => ?_
        · refine s_when (et_and (et_test (ev_op (ev_mod (ev_var rfl) ev_c (by omega)) ev_c (rv_eq rfl))) (fun _ => et_test (ev_op (ev_var rfl) ev_c rv_I0))) (fun z H10 e10 => ?_) (fun z H10 e10 => ⟨x3, rfl, e9.trans e10, x3a, x3b⟩)
          rw [Bool.and_eq_true] at z
          have t0 : 0 < t := by have := of_decide_eq_true z.2; omega
          have l3 : t - 1 < row.length := by omega
          have mx : row.getD (t - 1) 0 ∈ row := getD_mem l3
          have e410 := (e56.trans e9).trans e10
          refine s_asg (v := .int (row.getD (t - 1) 0)) (ev_op (ev_var rfl) (ev_is (w := .int ((t - 1 : Nat) : Int)) (ev_sub (ev_var rfl) ev_c) (by congr 1; omega)) (rv_ixL (sq_of (e410 aw _ haw4)) (atI_nat (intsV_get (getD_at l3))))) fun H11 e11 => ⟨_, rfl, (e9.trans e10).trans e11, (wok _ mx).1, (wok _ mx).2⟩
        obtain ⟨x4, rfl, e10, x4a, x4b⟩ := pr
        have e410 := e56.trans e10
        refine s_app (xs := intsV row) (e410 aw _ haw4) (ev_var rfl) (ev_var rfl) (by rw [intsV_len]; omega) fun H11 e11 => ⟨row ++ [x4], _, _, _, rfl, Ex.mut ((ex4.trans e410).trans e11) naw, by rw [upd_same, intsV_app], by rw [List.length_append, List.length_singleton, wl], fun x mx => ?_⟩
        rcases List.mem_append.mp mx with z | z
        · exact wok x z
        · rw [List.mem_singleton.mp z]; exact ⟨x4a, x4b⟩
      · obtain ⟨row, v7, v8, v9, rfl, ex4, haw4, wl, wok⟩ := pr
        rw [Int.toNat_natCast] at wl
        refine s_app (xs := rs.map V.ref) (ex4 ar _ har') (ev_var rfl) (ev_var rfl) (by rw [List.length_map]; omega) fun H5 e5 => ⟨rs ++ [aw], T ++ [row], _, _, _, _, _, rfl, Ex.mut ((ex.trans ex4).trans e5) nar0, ?_, ?_, by rw [List.length_append, List.length_singleton, rl], by rw [List.length_append, List.length_singleton, tl], fun r m => ?_, fun j r row' h1 h2 => ?_, fun row' m => ?_⟩
        · rw [upd_ne dna]; exact e5 an _ (ex4 an _ han')
        · rw [upd_same, List.map_append]; rfl
        · rcases List.mem_append.mp m with z | z
          · exact rne r z
          · rw [List.mem_singleton.mp z]; exact daw
        · by_cases q : j < i
          · rw [List.getElem?_append_left (by omega)] at h1 h2
            rw [upd_ne (rne r (List.mem_of_getElem? h1))]
            exact e5 r _ (ex4 r _ (rat j r row' h1 h2))
          · have := (List.getElem?_eq_some_iff.mp h1).1
            rw [List.length_append, List.length_singleton] at this
            have ej : j = i := by omega
            subst ej
            rw [List.getElem?_append_right (by omega), rl, Nat.sub_self] at h1
            rw [List.getElem?_append_right (by omega), tl, Nat.sub_self] at h2
            cases h1
            cases h2
            rw [upd_ne daw]
            exact e5 aw _ haw4
        · rcases List.mem_append.mp m with z | z
          · exact ok row' z
          · rw [List.mem_singleton.mp z]; exact ⟨wl, wok⟩
    · obtain ⟨rs, T, v5, v6, v7, v8, v9, rfl, ex, han', har', rl, tl, rne, rat, ok⟩ := pr
      rw [Int.toNat_natCast] at rl tl
      refine s_ret (ev_var rfl) fun H3 e3 => k _ H3 (ex.trans e3) ⟨ar, T, rfl, ⟨rs, sq_of (e3 ar _ har'), by rw [rl, tl], fun j r row a b => sq_of (e3 r _ (rat j r row a b))⟩, ⟨tl, fun row m => (ok row m).1, fun row m x mx => ((ok row m).2 x mx).1, fun row m x mx => ((ok row m).2 x mx).2, h1, h4, n12⟩⟩
def sp_L_great_table (K : PySem.W.Frag) : Sp := fun vs H Q _ => ∃ s cs, vs = [.ref s] ∧ SqL K H s (intsV cs) ∧ RetP (fun v H2 => ∃ h n : Nat, GTv K h n v H2) H Q
section
variable {K : PySem.W.Frag} {H : Hp} {σ : L2.St} {ta tb tc : TE} {s : Addr} {cs : List Int} {h n : Nat} {E : XK}
theorem c_rows (hs : SqL K H s (intsV cs)) (h1 : 1 ≤ h) (h4 : h ≤ 4) (n12 : n ≤ 12) (e1 : Ev ta σ H (.ref s)) (e2 : Ev tb σ H (.int (h : Int))) (e3 : Ev tc σ H (.int (n : Int))) : EvP (tCall (sp_L_rows K) [] E (tCons ta (tCons tb (tCons tc tNil)))) σ H (GTv K h n) :=
  ep_callP (ea_cons e1 (ea_cons e2 (ea_cons e3 ea_nil))) fun H1 e Q q => ⟨s, cs, h, n, rfl, ex_l e hs, h1, h4, n12, q⟩
end
abbrev N_L_great_table : List Str := ["_law_script", "_law_hands", "_law_things", "_law_table", "_law_way", "_law_row", "_law_small", "_law_first", "_law_k", "_law_hand"]
theorem sc_L_great_table : FnScope N_L_great_table ["_law_script"] (defScope s_L_great_table) := ⟨rfl, rfl, rfl, by decide +kernel, rfl, by decide +kernel, by decide +kernel⟩
theorem ok_L_great_table {P : Program} {w : World} {K : PySem.W.Frag} {mg : Str → Option Value} {base : Heap} (TT : Top K mg) (O_L_rows : Ok P w K mg base 2 "_law_rows" ["_law_script", "_law_hands", "_law_things"] [] (sp_L_rows K)) (O_L_cell_at : Ok P w K mg base 1 "_law_cell_at" ["_law_script", "_law_k"] [] (sp_L_cell_at K)) : Ok P w K mg base 3 "_law_great_table" ["_law_script"] [] (sp_L_great_table K) := by
  refine TT.ok (d := d_L_great_table) 85 58 rfl rfl rfl rfl rfl sc_L_great_table (fun _ _ _ _ _ _ us hl => match us, hl with | [_], _ => rfl) (fun vs H Q E h => ?_) (fun cdv A outer s H vs Q E hr h => ?_)
  · obtain ⟨s, cs, rfl, _⟩ := h; rfl
  · obtain ⟨s', cs, rfl, hs, k⟩ := h
    refine ⟨_, (pss_cons (ps_set (i := 1) sc_L_great_table.nd rfl (Or.inl rfl) (pe_op op_add pe_int (pe_op op_mod (pe_cl O_L_cell_at (hr.mono (by decide)) rfl (pa_cons (pv 0) (pa_cons pe_int pa_nil))) pe_int)))
  (pss_cons (ps_set (i := 2) sc_L_great_table.nd rfl (Or.inl rfl) (pe_op op_add pe_int (pe_op op_mod (pe_cl O_L_cell_at (hr.mono (by decide)) rfl (pa_cons (pv 0) (pa_cons pe_int pa_nil))) pe_int)))
  (pss_cons (ps_set (i := 3) sc_L_great_table.nd rfl (Or.inl rfl) (pe_cl O_L_rows (hr.mono (by decide)) rfl (pa_cons (pv 0) (pa_cons (pv 1) (pa_cons (pv 2) pa_nil)))))
  (pss_cons (ps_set (i := 4) sc_L_great_table.nd rfl (Or.inl rfl) (pe_op op_mod (pe_cl O_L_cell_at (hr.mono (by decide)) rfl (pa_cons (pv 0) (pa_cons pe_int pa_nil))) pe_int))
  (pss_cons (ps_if (pt_cmpR op_eq (pv 4) pe_int (nomark _)) (pss_one (ps_ret (pv 3))) pss_nil)
  (pss_cons (ps_set (i := 5) sc_L_great_table.nd rfl (Or.inr rfl) (cListOf K (TT.free 76) (pa_cons (pe_ix (ixL K) (pv 3) pe_int (fun _ _ => rfl)) pa_nil)))
  (Evl.pss_cut (ps_if (pt_cmpR op_gt (pv 4) pe_int (nomark _)) (pss_cons (ps_set (i := 6) sc_L_great_table.nd rfl (Or.inl rfl) (pe_op op_add pe_int (pe_op op_mod (pe_ix (ixL K) (pv 5) pe_int (fun _ _ => rfl)) (pe_op op_pow pe_int pe_int))))
  (pss_cons (ps_set (i := 7) sc_L_great_table.nd rfl (Or.inl rfl) (pe_ix (ixL K) (pv 5) pe_int (fun _ _ => rfl)))
  (pss_cons (ps_set (i := 5) sc_L_great_table.nd rfl (Or.inr rfl) (pe_op op_rep (pe_lst (pa_cons (pv 6) pa_nil)) (pv 2)))
  (pss_one (ps_for PassesOwn.never rfl (pi_range1 rfl (TT.free 71) (pa_cons (pe_op op_sub (pv 1) pe_int) pa_nil)) (pg_name (i := 8) sc_L_great_table.nd rfl (Or.inl rfl) (Or.inr rfl)) (pss_one (ps_asg (pe_op op_mul (pv 6) (pe_op op_add (pe_op op_sub (pv 2) (pv 1)) pe_int)) (pg_sub (pv 5) (pe_op op_mod (pe_op op_add (pv 7) (pv 8)) (pv 2)) set_list)))))))) pss_nil)
  (pss_one (ps_ret (pe_lc (own := [("_law_hand", 9)]) rfl sc_L_great_table.nd (pi_range1 rfl (TT.free 71) (pa_cons (pv 1) pa_nil)) (blkOk_by (N := N_L_great_table) (sc := defScope s_L_great_table) (by decide +kernel)) (fun _ _ _ _ _ => (pg_name (i := 9) sc_L_great_table.nd rfl (Or.inl rfl) (Or.inr rfl))) (fun _ _ _ _ _ => pts_nil) (fun _ _ _ _ _ => (cListOf K (TT.free 76) (pa_cons (pv 5) pa_nil))))))))))))), ?_⟩
    refine q_asgP (ep_addc (m := 3) (ep_mod (k := 2) (c_cell (k := 2) hs (ev_var rfl) ev_c) (fun _ _ r => natB_nat r) (by omega))) fun v H1 e1 ⟨c, ev, hc⟩ => ?_
    subst ev
    refine q_asgP (ep_addc (m := 7) (ep_mod (k := 6) (c_cell (k := 3) (ex_l e1 hs) (ev_var rfl) ev_c) (fun _ _ r => natB_nat r) (by omega))) fun v H2 e2 ⟨d, ev, hd⟩ => ?_
    subst ev
    have hb : 3 ≤ 3 + c ∧ 3 + c ≤ 4 := by omega
    have nb : 7 ≤ 7 + d ∧ 7 + d ≤ 12 := by omega
    generalize 3 + c = h at *
    generalize 7 + d = n at *
    refine q_asgP (c_rows (ex_l (e1.trans e2) hs) (by omega) (by omega) (by omega) (ev_var rfl) (ev_var rfl) (ev_var rfl)) fun v H3 e3 ⟨a, T, ev, g⟩ => ?_
    subst ev
    have ex3 := (e1.trans e2).trans e3
    refine q_asgP (ep_mod (k := 4) (c_cell (k := 4) (ex_l ex3 hs) (ev_var rfl) ev_c) (fun _ _ r => natB_nat r) (by omega)) fun v H4 e4 ⟨w', ev, hw'⟩ => ?_
    subst ev
    refine q_when (et_test (ev_op (ev_var rfl) ev_c (rv_eq rfl))) (fun z H5 e5 => ?_) (fun z H5 e5 => ?_)
    · exact s_ret (ev_var rfl) fun H6 e6 => k _ H6 (((ex3.trans e4).trans e5).trans e6) ⟨h, n, a, T, rfl, g.mono ((e4.trans e5).trans e6)⟩
    have e45 := e4.trans e5
    obtain ⟨rs', r0, row0, r1, r2, r3, r4, r5⟩ := (g.mono e45).row (i := 0) g.2.h1
    have l0 := g.2.rows row0 r4
    refine q_asgL (el_list (ev_op (ev_var rfl) ev_c (rv_ixL r1 (atI_nat (j := 0) r2))) r5) fun aw H6 naw e6 haw => ?_
    have e36 := e45.trans e6
    refine q_cut (M := fun σ' H' => ∃ (ar : Addr) (row : List Int) (v6 v7 v8 : Option V), σ' = [some (.ref s'), some (.int (h : Int)), some (.int (n : Int)), some (.ref a), some (.int (w' : Int)), some (.ref ar), v6, v7, v8, none] ∧ Ex H6 H' ∧ H' ar = some (.lst (intsV row)) ∧ row.length = n ∧ ∀ x, x ∈ row → 0 ≤ x ∧ x ≤ 1000000000000) ?_ fun σ' H7 pr => ?_
    · refine s_when (et_test (ev_op (ev_var rfl) ev_c rv_I0)) (fun z H7 e7 => ?_) (fun z H7 e7 => ⟨aw, row0, none, none, none, rfl, e7, e7 aw _ haw, l0, fun x m => ⟨g.2.pos row0 r4 x m, g.2.big row0 r4 x m⟩⟩)
      have haw7 := e7 aw _ haw
      refine q_asg (ev_add ev_c (ev_mod (ev_op (ev_var rfl) ev_c (rv_ixL (sq_of haw7) (atI_nat (j := 0) (intsV_get (getD_at (d := 0) (show 0 < row0.length by omega)))))) ev_pow9 (by omega))) fun H8 e8 => ?_
      obtain ⟨sm, esm, sma, smb⟩ : ∃ sm : Int, 1 + row0.getD 0 0 % 1000000000 = sm ∧ 0 ≤ sm ∧ sm ≤ 1000000000 := ⟨_, rfl, by omega, by omega⟩
      rw [esm]
      have m1 : row0.getD 1 0 ∈ row0 := getD_mem (by omega)
      obtain ⟨fi, efi⟩ := nat_of (g.2.pos row0 r4 _ m1)
      refine q_asg (v := .int (fi : Int)) (ev_op (ev_var rfl) ev_c (rv_ixL (sq_of (e8 aw _ haw7)) (atI_nat (j := 1) (intsV_get (by rw [← efi]; exact getD_at (by omega)))))) fun H9 e9 => ?_
      refine q_asgL (el_rep (n := n) (ev_var rfl) (ev_var rfl) (by omega)) fun ar H10 nar e10 har => ?_
      have e610 := ((e7.trans e8).trans e9).trans e10
      have nar6 : H6 ar = none := fresh_back ((e7.trans e8).trans e9) nar
      refine s_forR1 (n := (h : Int) - 1) (ea_cons (ev_sub (ev_var rfl) ev_c) ea_nil) (by omega) (fun i σ' H' => ∃ (row : List Int) (v8 : Option V), σ' = [some (.ref s'), some (.int (h : Int)), some (.int (n : Int)), some (.ref a), some (.int (w' : Int)), some (.ref ar), some (.int sm), some (.int (fi : Int)), v8, none] ∧ Ex H6 H' ∧ H' ar = some (.lst (intsV row)) ∧ row.length = n ∧ ∀ x, x ∈ row → 0 ≤ x ∧ x ≤ 1000000000000)
        (fun H11 e11 => ⟨List.replicate n sm, none, rfl, e610.trans e11, by rw [e11 ar _ har]; unfold intsV; rw [List.map_replicate], List.length_replicate .., fun x m => by rw [(List.mem_replicate.mp m).2]; omega⟩) (fun i σ' H11 hi pr => ?_) (fun σ' H11 pr => ?_)
      · obtain ⟨row, v8, rfl, ex11, har', wl, wok⟩ := pr
        have ix : (fi + i) % n < n := Nat.mod_lt _ (by omega)
        have cm : CMul sm ((n : Int) - (h : Int) + 1) := .inr ⟨by omega, by omega⟩
        refine s_setL (xs := intsV row) (j := (fi + i) % n) (v := .int (sm * ((n : Int) - (h : Int) + 1))) har' (ev_op (ev_var rfl) (ev_add (ev_sub (ev_var rfl) (ev_var rfl)) ev_c) (rv_I cm)) (ev_var rfl) (ev_modN (k := fi + i) (m := n) (ev_is (ev_add (ev_var rfl) (ev_var rfl)) (by rw [Int.natCast_add])) (ev_var rfl) (by omega)) (by rw [intsV_len]; omega) fun H12 e12 => ⟨row.set ((fi + i) % n) (sm * ((n : Int) - (h : Int) + 1)), _, rfl, Ex.mut (ex11.trans e12) nar6, by rw [upd_same, intsV_set], by rw [List.length_set]; exact wl, fun x m => ?_⟩
        rcases List.mem_or_eq_of_mem_set m with z | z
        · exact wok x z
        · rw [z]
          have b1 : 0 ≤ (n : Int) - (h : Int) + 1 := by omega
          have b2 : (n : Int) - (h : Int) + 1 ≤ 12 := by omega
          refine ⟨Int.mul_nonneg sma b1, ?_⟩
          have := Int.mul_le_mul smb b2 b1 (by omega)
          omega
      · obtain ⟨row, v8, rfl, ex11, har', wl, wok⟩ := pr
        exact ⟨ar, row, _, _, _, rfl, ex11, har', wl, wok⟩
    · obtain ⟨ar, row, v6, v7, v8, rfl, e67, har, wl, wok⟩ := pr
      have hw := wk_range1 (ta := tCons (tVar 1) tNil) (j := 9) (n := h) (σ := [some (.ref s'), some (.int (h : Int)), some (.int (n : Int)), some (.ref a), some (.int (w' : Int)), some (.ref ar), v6, v7, v8, none]) (H := H7) (ea_cons (ev_var rfl) ea_nil) (by omega)
      have z := en_lc (tt := tYes) (te := tCB (rListS K) (tCons (tVar 5) tNil)) (vs := [9]) (E := rE K) (fun _ => true) (fun _ => row) (rE_mono K) hw (by omega) (fun _ => rfl) (fun i H8 e8 hi => et_yes rfl) (fun i H8 e8 hi _ => (en_el (el_list (ev_var rfl) (sq_of (e8 ar _ har)))).imp fun v N ⟨p, ev, hp⟩ => ⟨p, ev, sq_of hp⟩)
      rw [kept_all] at z
      refine s_retP (en_ep (E := fun v H' => ∃ b ys, v = .ref b ∧ H' b = some (.lst ys) ∧ Pd (rE K) ((List.range h).map fun _ => row) ys H') (fun v H H' e ⟨b, ys, h1, h2, h3⟩ => ⟨b, ys, h1, e b _ h2, h3.mono (rE_mono K) e⟩) z) fun v H8 e8 ⟨b, ys, ev, hb', pd⟩ => k v H8 (((ex3.trans e36).trans e67).trans e8) ⟨h, n, b, _, ev, tab_of (sq_of hb') pd, ?_⟩
      have al : ∀ r, r ∈ (List.range h).map (fun _ => row) → r = row := fun r m => by
        obtain ⟨_, _, e⟩ := List.mem_map.mp m
        exact e.symm
      exact ⟨by rw [List.length_map, List.length_range], fun r m => by rw [al r m]; exact wl, fun r m x mx => by rw [al r m] at mx; exact (wok x mx).1, fun r m x mx => by rw [al r m] at mx; exact (wok x mx).2, by omega, by omega, by omega⟩
end Lk

namespace Lk
open PySem PySem.Spec PyProof.Rows L2 Evl LE
/-! ### the law's own deals, and what is kept -/
def PairOk (n : Nat) (y : V) (H : Hp) : Prop := ∃ t i, ∃ j : Nat, y = .ref t ∧ H t = some (.tup [.int i, .int (j : Int)]) ∧ j < n
theorem pairOk_upd {n : Nat} {y : V} {H : Hp} {l : Addr} {xs : List V} {o : HO} (hl : H l = some (.lst xs)) (h : PairOk n y H) : PairOk n y (upd H l o) := by
  obtain ⟨t, i, j, e, ht, lt⟩ := h
  exact ⟨t, i, j, e, by rw [upd_ne (ne_of ht hl (by intro q; cases q))]; exact ht, lt⟩
theorem pairOk_mono {n : Nat} {y : V} {H H' : Hp} (e : Ex H H') (h : PairOk n y H) : PairOk n y H' := by
  obtain ⟨t, i, j, ey, ht, lt⟩ := h
  exact ⟨t, i, j, ey, e t _ ht, lt⟩
theorem ep_sortedP {K : PySem.W.Frag} {te : TE} {σ : L2.St} {H : Hp} {n : Nat} {ps po : Addr} {o1 o2 : HO} (hps : H ps = some o1) (hpo : H po = some o2) (z : EvN te σ H (fun v N => ∃ b zs, v = .ref b ∧ N b = some (.lst zs) ∧ ∀ y, y ∈ zs → PairOk n y N)) :
    EvP (tCB (rSortedP K) (tCons te tNil)) σ H (fun v H2 => ∃ a ys, v = .ref a ∧ H2 a = some (.lst ys) ∧ (a ≠ ps ∧ a ≠ po ∧ ∀ y, y ∈ ys → PairOk n y H2)) := fun H3 e3 Q q => z H3 e3 _ fun v H4 e4 ⟨b, zs, ev, hb, pk⟩ => ⟨b, zs, by rw [ev], sq_of (newp_ex b _ hb), fun x m => by
    obtain ⟨t, i, j, h1, h2, _⟩ := pk x m
    exact ⟨t, i, (j : Int), h1, newp_ex t _ h2⟩, fun ys p pm hp => q _ _ (e4.trans (Ex.new hp)) ⟨p, ys, rfl, upd_same, (ne_of_none ((e3.trans e4) ps _ hps) hp).symm, (ne_of_none ((e3.trans e4) po _ hpo) hp).symm, fun y m => pairOk_mono (Ex.new hp) (pairOk_mono newp_ex (pk y (pm.mem_iff.mp m)))⟩⟩
def sp_L_poorest_first (K : PySem.W.Frag) : Sp := fun vs H Q _ => ∃ r row, ∃ h n : Nat, vs = [.ref r, .int (h : Int)] ∧ SqL K H r (intsV row) ∧ row.length = n ∧ 1 ≤ h ∧ h ≤ 4 ∧ n ≤ 12 ∧ RetN (DealV h n fun _ => True) H Q
abbrev N_L_poorest_first : List Str := ["_law_row", "_law_heaps", "_law_sums", "_law_owners", "_law_less", "_law_thing", "_law_at"]
theorem sc_L_poorest_first : FnScope N_L_poorest_first ["_law_row", "_law_heaps"] (defScope s_L_poorest_first) := ⟨rfl, rfl, rfl, by decide +kernel, rfl, by decide +kernel, by decide +kernel⟩
theorem ok_L_poorest_first {P : Program} {w : World} {K : PySem.W.Frag} {mg : Str → Option Value} {base : Heap} (TT : Top K mg)  : Ok P w K mg base 1 "_law_poorest_first" ["_law_row", "_law_heaps"] [] (sp_L_poorest_first K) := by
  refine TT.ok (d := d_L_poorest_first) 86 59 rfl rfl rfl rfl rfl sc_L_poorest_first (fun _ _ _ _ _ _ us hl => match us, hl with | [_, _], _ => rfl) (fun vs H Q E h => ?_) (fun cdv A outer s H vs Q E hr h => ?_)
  · obtain ⟨r, row, h, n, rfl, _⟩ := h; rfl
  · obtain ⟨r, row, h, n, rfl, hr', rl, h1, h4, n12, k⟩ := h
    refine ⟨_, (pss_cons (ps_set (i := 2) sc_L_poorest_first.nd rfl (Or.inl rfl) (pe_op op_rep (pe_lst (pa_cons pe_int pa_nil)) (pv 1)))
  (pss_cons (ps_set (i := 3) sc_L_poorest_first.nd rfl (Or.inl rfl) (pe_op op_rep (pe_lst (pa_cons pe_int pa_nil)) (cLen K (TT.free 70) (pa_cons (pv 0) pa_nil))))
  (pss_cons (ps_for PassesOwn.never rfl (wList K (cSortedP K (TT.free 73) (pa_cons (pe_lc (own := [("_law_thing", 5)]) rfl sc_L_poorest_first.nd (pi_range1 rfl (TT.free 71) (pa_cons (cLen K (TT.free 70) (pa_cons (pv 0) pa_nil)) pa_nil)) (blkOk_by (N := N_L_poorest_first) (sc := defScope s_L_poorest_first) (by decide +kernel)) (fun _ _ _ _ _ => (pg_name (i := 5) sc_L_poorest_first.nd rfl (Or.inl rfl) (Or.inr rfl))) (fun _ _ _ _ _ => pts_nil) (fun _ _ _ _ _ => (pe_tup (pa_cons (pe_op op_sub pe_int (pe_ix (ixL K) (pv 0) (pv 5) (fun _ _ => rfl))) (pa_cons (pv 5) pa_nil))))) pa_nil))) (gT2 K (n := 2) (pgs_cons (pg_name (i := 4) sc_L_poorest_first.nd rfl (Or.inl rfl) (Or.inr rfl)) (pgs_cons (pg_name (i := 5) sc_L_poorest_first.nd rfl (Or.inl rfl) (Or.inr rfl)) pgs_nil))) (pss_cons (ps_set (i := 6) sc_L_poorest_first.nd rfl (Or.inl rfl) (eBM K PySem.F.plainAttrs_list PySem.F.slot_list_index PySem.F.type_list_index (mIndex K) (pv 2) (pa_cons (cMin K (TT.free 74) (pa_cons (pv 2) pa_nil)) pa_nil)))
  (pss_cons (ps_asg (pv 6) (pg_sub (pv 3) (pv 5) set_list))
  (pss_one (ps_asg (pe_op op_sub (pe_ix (ixL K) (pv 2) (pv 6) (fun _ _ => rfl)) (pv 4)) (pg_sub (pv 2) (pv 6) set_list))))))
  (pss_one (ps_ret (pv 3)))))), ?_⟩
    have lenR : ∀ σ' H', Ex H H' → σ'[0]? = some (some (V.ref r)) → Ev (tCB (rLenS K) (tCons (tVar 0) tNil)) σ' H' (.int (n : Int)) := fun σ' H' e z => ev_is (ev_len (ev_var z) (ex_l e hr')) (by rw [intsV_len, rl])
    refine q_asgL (el_rep (n := h) ev_c (ev_var rfl) (by omega)) fun ps H1 nps e1 hps => ?_
    refine q_asgL (el_rep (n := n) ev_c (lenR _ _ e1 rfl) (by omega)) fun po H2 npo e2 hpo => ?_
    have npo0 : H po = none := fresh_back e1 npo
    have dso : ps ≠ po := ne_of_none hps npo
    have hps2 := e2 ps _ hps
    have ex2 := e1.trans e2
    have hw := wk_range1 (ta := tCons (tCB (rLenS K) (tCons (tVar 0) tNil)) tNil) (j := 5) (n := n) (σ := [some (.ref r), some (.int (h : Int)), some (.ref ps), some (.ref po), none, none, none]) (H := H2) (ea_cons (lenR _ _ ex2 rfl) ea_nil) (by omega)
    have z := en_lc (tt := tYes) (te := tTup (tCons (tOp (rI0 fun i j => .int (i - j)) (tC (.int 0)) (tOp (rIxL K) (tVar 0) (tVar 5))) (tCons (tVar 5) tNil))) (vs := [5]) (E := fun (j : Nat) v (N : Hp) => ∃ t i, v = .ref t ∧ N t = some (.tup [.int i, .int (j : Int)])) (fun _ => true) (fun j => j)
      (fun j v H H' e ⟨t, i, h1, h2⟩ => ⟨t, i, h1, e t _ h2⟩) hw (by omega) (fun _ => rfl) (fun i H3 e3 hi => et_yes rfl) (fun i H3 e3 hi _ => (en_eu (eu_tup (ea_cons (ev_sub ev_c (ev_op (ev_var rfl) (ev_var rfl) (rv_ixL (ex_l (ex2.trans e3) hr') (atI_nat (intsV_get (getD_at (d := 0) (show i < row.length by omega))))))) (ea_cons (ev_var rfl) ea_nil)) (by show 2 ≤ 100000; decide))).imp fun v N ⟨p, ev, hp⟩ => ⟨p, _, ev, hp⟩)
    rw [kept_all] at z
    have z2 := z.imp (E' := fun v N => ∃ b zs, v = .ref b ∧ N b = some (.lst zs) ∧ ∀ y, y ∈ zs → PairOk n y N) fun v N ⟨b, zs, ev, hb, pd⟩ => ⟨b, zs, ev, hb, fun y m => by
      obtain ⟨i, hi⟩ := List.mem_iff_getElem?.mp m
      have il := (List.getElem?_eq_some_iff.mp hi).1
      have il2 : i < ((List.range n).map fun j => j).length := by rw [pd.length]; exact il
      obtain ⟨y', q1, t, c, q2, q4⟩ := pd.get (List.getElem?_eq_getElem il2)
      rw [hi] at q1
      cases q1
      refine ⟨t, c, _, q2, q4, ?_⟩
      rw [List.length_map, List.length_range] at il2
      rw [List.getElem_map, List.getElem_range]
      exact il2⟩
    refine q_forE (G := fun a ys H3 => a ≠ ps ∧ a ≠ po ∧ ∀ y, y ∈ ys → PairOk n y H3) (ep_sortedP hps2 hpo z2) fun a ys H3 e3 ha gg => ?_
    · obtain ⟨d1, d2, gg⟩ := gg
      refine ⟨fun m σ' H' => ∃ (sums : List Int) (os : List Nat) (v4 v5 v6 : Option V), σ' = [some (.ref r), some (.int (h : Int)), some (.ref ps), some (.ref po), v4, v5, v6] ∧ Ex H H' ∧ H' a = some (.lst ys) ∧ (∀ y, y ∈ ys → PairOk n y H') ∧ H' ps = some (.lst (intsV sums)) ∧ sums.length = h ∧ H' po = some (.lst (natsV os)) ∧ os.length = n ∧ ∀ x, x ∈ os → x < h,
        ⟨List.replicate h 0, List.replicate n 0, none, none, none, rfl, ex2.trans e3, ha, gg, by rw [e3 ps _ hps2]; unfold intsV; rw [List.map_replicate], List.length_replicate .., by rw [e3 po _ hpo]; unfold natsV; rw [List.map_replicate]; rfl, List.length_replicate .., fun x m => by rw [(List.mem_replicate.mp m).2]; omega⟩,
        fun m σ' H' _ ⟨_, _, _, _, _, _, _, h, _⟩ => sq_of h, fun m x σ' H' hx pr => ?_, fun σ' H' pr => ?_⟩
      · obtain ⟨sums, os, v4, v5, v6, rfl, ex, ha', pk, hs, sl, ho, ol, lt⟩ := pr
        obtain ⟨t, c, j, rfl, ht, jn⟩ := pk x (List.mem_of_getElem? hx)
        refine g2_ok (st_of ht) ?_
        have ne : sums ≠ [] := fun z => by rw [z] at sl; simp at sl; omega
        refine q_asgP (ep_index (M := fun k => ∀ j, j ∈ sums → k ≤ j) (ev_var rfl) (sq_of hs) (ep_min (ev_var rfl) (sq_of hs) ne)) fun v H4 e4 ⟨o, ev, ol'⟩ => ?_
        subst ev
        rw [sl] at ol'
        refine q_setL (xs := natsV os) (j := j) (v := .int (o : Int)) (e4 po _ ho) (ev_var rfl) (ev_var rfl) (ev_var rfl) (by rw [natsV_len]; omega) fun H5 e5 => ?_
        have hs5 : upd H5 po (.lst ((natsV os).set j (.int (o : Int)))) ps = some (.lst (intsV sums)) := by rw [upd_ne dso]; exact e5 ps _ (e4 ps _ hs)
        refine s_setL (xs := intsV sums) (j := o) (v := .int (sums.getD o 0 - c)) hs5 (ev_sub (ev_op (ev_var rfl) (ev_var rfl) (rv_ixL (sq_of hs5) (atI_nat (intsV_get (getD_at (by omega)))))) (ev_var rfl)) (ev_var rfl) (ev_var rfl) (by rw [intsV_len]; omega) fun H6 e6 => ⟨sums.set o (sums.getD o 0 - c), os.set j o, _, _, _, rfl, ?_, ?_, fun y m => ?_, by rw [upd_same, intsV_set], by rw [List.length_set]; exact sl, ?_, by rw [List.length_set]; exact ol, fun x m => ?_⟩
        · exact Ex.mut ((Ex.mut ((ex.trans e4).trans e5) npo0).trans e6) nps
        · rw [upd_ne d1]
          refine e6 a _ ?_
          rw [upd_ne d2]
          exact e5 a _ (e4 a _ ha')
        · refine pairOk_upd (e6 ps _ hs5) (pairOk_mono e6 (pairOk_upd (e5 po _ (e4 po _ ho)) (pairOk_mono (e4.trans e5) (pk y m))))
        · rw [upd_ne dso.symm, e6 po _ upd_same]
          unfold natsV
          rw [List.map_set]
        · rcases List.mem_or_eq_of_mem_set m with z | z
          · exact lt x z
          · rw [z]; exact ol'
      · obtain ⟨sums, os, v4, v5, v6, rfl, ex, ha', pk, hs, sl, ho, ol, lt⟩ := pr
        exact s_ret (ev_var rfl) fun H4 e4 => k _ H4 (ex.trans e4) ⟨po, os, rfl, by rw [newp_at npo0]; exact e4 po _ ho, ol, lt, trivial⟩
/-- what the law asks of a good deal -/
structure Kept (i : Kd) (T : List (List Int)) (h n : Nat) (ds : List Nat) : Prop where
  fair : inV (.str "fair") ((kp i).map V.str) = true → EF1 (wt T) n h (Dn ds)
  best : inV (.str "best") ((kp i).map V.str) = true → Best (wt T) n h (Dn ds)
  half : inV (.str "half") ((kp i).map V.str) = true → Half (wt T) n h (Dn ds)
  prod : wd i = "products" → ProdTop (wt T) n h (Dn ds)
  least : wd i = "leasts" → LeastTop (wt T) n h (Dn ds)
theorem kept_of {i : Kd} {T : List (List Int)} {h n : Nat} {ds : List Nat} (o : TabOk T h n) (f : FullD n h ds) (g : Good i T h ds) : Kept i T h n ds := by
  have hw := wt_pos o
  have W := full_whole f
  have fl := f.1
  subst fl
  cases i with
  | dealer => exact ⟨fun z => absurd z (by decide), fun z => absurd z (by decide), fun z => absurd z (by decide), fun z => absurd z (by decide), fun z => absurd z (by decide)⟩
  | turns => exact ⟨fun _ => g, fun z => absurd z (by decide), fun z => absurd z (by decide), fun z => absurd z (by decide), fun z => absurd z (by decide)⟩
  | rings => exact ⟨fun _ => g, fun z => absurd z (by decide), fun z => absurd z (by decide), fun z => absurd z (by decide), fun z => absurd z (by decide)⟩
  | weights => exact ⟨fun z => absurd z (by decide), fun _ => g, fun z => absurd z (by decide), fun z => absurd z (by decide), fun z => absurd z (by decide)⟩
  | ratios => exact ⟨fun _ => g.1, fun _ => g.2, fun z => absurd z (by decide), fun z => absurd z (by decide), fun z => absurd z (by decide)⟩
  | products => exact ⟨fun _ => ef1_of_prod hw W g, fun _ => best_of_prod hw g, fun z => absurd z (by decide), fun _ => g, fun z => absurd z (by decide)⟩
  | leasts => exact ⟨fun z => absurd z (by decide), fun _ => best_of_least g, fun z => absurd z (by decide), fun z => absurd z (by decide), fun _ => g⟩
  | halves => exact ⟨fun z => absurd z (by decide), fun z => absurd z (by decide), fun _ => g, fun z => absurd z (by decide), fun z => absurd z (by decide)⟩
theorem flat_strs (ss : List Str) : (ss.map V.str).all flatV = true := by
  rw [List.all_map, List.all_eq_true]
  intro _ _
  rfl
section
variable {K : PySem.W.Frag} {H : Hp} {σ : L2.St} {ta tb tc td : TE} {a p b : Addr} {T : List (List Int)} {h n : Nat} {ds : List Nat} {ys : List V} {dss : List (List Nat)} {E : XK} {w : Str}
theorem c_Lfair (g : GT K H a T h n) (hp : SqL K H p (natsV ds)) (f : FullD n h ds) (ef : EF1 (wt T) n h (Dn ds)) (e1 : Ev ta σ H (.ref a)) (e2 : Ev tb σ H (.ref p)) : Ev (tCall (sp_L_fair K) [] E (tCons ta (tCons tb tNil))) σ H (.bl true) :=
  ev_callV (ea_cons e1 (ea_cons e2 ea_nil)) fun H1 e Q k => ⟨a, p, T, h, n, ds, rfl, g.mono e, ex_l e hp, f, ef, k⟩
theorem c_Lbest (g : GT K H a T h n) (hp : SqL K H p (natsV ds)) (f : FullD n h ds) (o : OthAt K n h b ys dss H) (ef : Best (wt T) n h (Dn ds)) (e1 : Ev ta σ H (.ref a)) (e2 : Ev tb σ H (.ref p)) (e3 : Ev tc σ H (.ref b)) : Ev (tCall (sp_L_none_better K) [] E (tCons ta (tCons tb (tCons tc tNil)))) σ H (.bl true) :=
  ev_callV (ea_cons e1 (ea_cons e2 (ea_cons e3 ea_nil))) fun H1 e Q k => ⟨a, p, b, T, h, n, ds, ys, dss, rfl, g.mono e, ex_l e hp, f, o.mono e, ef, k⟩
theorem c_Lhalf (g : GT K H a T h n) (hp : SqL K H p (natsV ds)) (f : FullD n h ds) (o : OthAt K n h b ys dss H) (ef : Half (wt T) n h (Dn ds)) (e1 : Ev ta σ H (.ref a)) (e2 : Ev tb σ H (.ref p)) (e3 : Ev tc σ H (.ref b)) : Ev (tCall (sp_L_halved K) [] E (tCons ta (tCons tb (tCons tc tNil)))) σ H (.bl true) :=
  ev_callV (ea_cons e1 (ea_cons e2 (ea_cons e3 ea_nil))) fun H1 e Q k => ⟨a, p, b, T, h, n, ds, ys, dss, rfl, g.mono e, ex_l e hp, f, o.mono e, ef, k⟩
theorem c_Lgreat (g : GT K H a T h n) (hp : SqL K H p (natsV ds)) (f : FullD n h ds) (o : OthAt K n h b ys dss H) (tp : w = "products" → ProdTop (wt T) n h (Dn ds)) (tl : w = "leasts" → LeastTop (wt T) n h (Dn ds)) (e1 : Ev ta σ H (.ref a)) (e2 : Ev tb σ H (.ref p)) (e3 : Ev tc σ H (.ref b)) (e4 : Ev td σ H (.str w)) : Ev (tCall (sp_L_greatest K) [] E (tCons ta (tCons tb (tCons tc (tCons td tNil))))) σ H (.bl true) :=
  ev_callV (ea_cons e1 (ea_cons e2 (ea_cons e3 (ea_cons e4 ea_nil)))) fun H1 e Q k => ⟨a, p, b, T, h, n, ds, ys, dss, w, rfl, g.mono e, ex_l e hp, f, o.mono e, tp, tl, k⟩
/-- [list(row) for row in table] -/
theorem ep_copy {j : Nat} {tt : TE} (g : GT K H a T h n) (s1 : Ev tt σ H (.ref a)) (w : ∀ x, wipe ((wipe σ [j]).set j (some x)) [j] = wipe σ [j]) (hv : ∀ x H1, Ev (tVar j) ((wipe σ [j]).set j (some x)) H1 x) :
    EvP (tLc (iList K tt) (gName j) tYes (tCB (rListS K) (tCons (tVar j) tNil)) [j]) σ H (fun u H2 => ∃ b, u = .ref b ∧ GT K H2 b T h n) := by
  obtain ⟨⟨rs, g1, g2, g3⟩, o⟩ := id g
  have rl : rs.length = h := by rw [g2, o.len]
  have hw := wk_list (K := K) (j := j) (tl := tt) (σ := σ) (H := H) s1 g1
  rw [List.length_map, rl] at hw
  have z := en_lc (tt := tYes) (te := tCB (rListS K) (tCons (tVar j) tNil)) (vs := [j]) (E := rE K) (fun _ => true) (fun i => T.getD i []) (rE_mono K) hw (by have := o.h4; omega) (fun i => w _) (fun i H3 e3 hi => et_yes rfl) (fun i H3 e3 hi _ => by
    have hi1 : i < rs.length := by omega
    have hi2 : i < T.length := by rw [← g2]; exact hi1
    have r1 := g3 i rs[i] T[i] (List.getElem?_eq_getElem hi1) (List.getElem?_eq_getElem hi2)
    have er : (rs.map V.ref).getD i .non = .ref rs[i] := by
      rw [List.getD_eq_getElem?_getD, List.getElem?_map, List.getElem?_eq_getElem hi1]
      rfl
    have et : T.getD i [] = T[i] := by rw [List.getD_eq_getElem?_getD, List.getElem?_eq_getElem hi2]; rfl
    refine (en_el (el_list (ev_is (hv _ H3) er) (ex_l e3 r1))).imp fun v N ⟨p, ev, hp⟩ => ⟨p, ev, ?_⟩
    rw [et]
    exact sq_of hp)
  rw [kept_all] at z
  have eT : (List.range h).map (fun i => T.getD i []) = T := by
    refine List.ext_getElem (by rw [List.length_map, List.length_range, o.len]) fun i a b => ?_
    rw [List.getElem_map, List.getElem_range, List.getD_eq_getElem?_getD, List.getElem?_eq_getElem b]
    rfl
  rw [eT] at z
  exact (en_ep (E := fun v H' => ∃ b ys, v = .ref b ∧ H' b = some (.lst ys) ∧ Pd (rE K) T ys H') (fun v H H' e ⟨b, ys, h1, h2, h3⟩ => ⟨b, ys, h1, e b _ h2, h3.mono (rE_mono K) e⟩) z).imp fun v H' ⟨b, ys, ev, hb, pd⟩ => ⟨b, ev, tab_of (sq_of hb) pd, o⟩
end
def sp_L_keeps (K : PySem.W.Frag) : Sp := fun vs H Q _ => ∃ (i : Kd) (a b : Addr) (T : List (List Int)) (h n : Nat) (ys : List V) (dss : List (List Nat)), vs = [.str (wd i), .ref a, .ref b] ∧ GT K H a T h n ∧ Cond i h n ∧ OthAt K n h b ys dss H ∧ RetV (.bl true) H Q
abbrev N_L_keeps : List Str := ["_law_word", "_law_table", "_law_others", "_law_dealer", "_law_deal", "_law_keeps_here", "_law_row", "_law_hand"]
theorem sc_L_keeps : FnScope N_L_keeps ["_law_word", "_law_table", "_law_others"] (defScope s_L_keeps) := ⟨rfl, rfl, rfl, by decide +kernel, rfl, by decide +kernel, by decide +kernel⟩
theorem ok_L_keeps {P : Program} {w : World} {K : PySem.W.Frag} {mg : Str → Option Value} {base : Heap} (TT : Top K mg) (O_keeps : ∀ i, OkM P w K mg base 1 (nm i) "keeps" ["self"] (sp_keeps i)) (O_deal : ∀ i, OkM P w K mg base (dlv i) (nm i) "deal" ["self", "table"] (sp_deal K i)) (O_dealer_by : Ok P w K mg base 4 "dealer_by" ["word"] [] (sp_dealer_by K)) (O_L_greatest : Ok P w K mg base 2 "_law_greatest" ["_law_table", "_law_deal", "_law_others", "_law_word"] [] (sp_L_greatest K)) (O_L_fair : Ok P w K mg base 1 "_law_fair" ["_law_table", "_law_deal"] [] (sp_L_fair K)) (O_L_none_better : Ok P w K mg base 2 "_law_none_better" ["_law_table", "_law_deal", "_law_others"] [] (sp_L_none_better K)) (O_L_halved : Ok P w K mg base 2 "_law_halved" ["_law_table", "_law_deal", "_law_partings"] [] (sp_L_halved K)) : Ok P w K mg base 10 "_law_keeps" ["_law_word", "_law_table", "_law_others"] [] (sp_L_keeps K) := by
  refine TT.ok (d := d_L_keeps) 84 57 rfl rfl rfl rfl rfl sc_L_keeps (fun _ _ _ _ _ _ us hl => match us, hl with | [_, _, _], _ => rfl) (fun vs H Q E h => ?_) (fun cdv A outer s H vs Q E hr h => ?_)
  · obtain ⟨i, a, b, T, h, n, ys, dss, rfl, _⟩ := h; rfl
  · obtain ⟨i, a, b, T, h, n, ys, dss, rfl, g, c, o, k⟩ := h
    refine ⟨_, (pss_cons (ps_set (i := 3) sc_L_keeps.nd rfl (Or.inl rfl) (pe_cl O_dealer_by (hr.mono (by decide)) rfl (pa_cons (pv 0) pa_nil)))
  (pss_cons (ps_set (i := 4) sc_L_keeps.nd rfl (Or.inl rfl) (pe_cm O_deal (fun i => hr.mono (by cases i <;> decide)) (pv 3) (pa_cons (pe_lc (own := [("_law_row", 6)]) rfl sc_L_keeps.nd (wList K (pv 1)) (blkOk_by (N := N_L_keeps) (sc := defScope s_L_keeps) (by decide +kernel)) (fun _ _ _ _ _ => (pg_name (i := 6) sc_L_keeps.nd rfl (Or.inl rfl) (Or.inr rfl))) (fun _ _ _ _ _ => pts_nil) (fun _ _ _ _ _ => (cListOf K (TT.free 76) (pa_cons (pv 6) pa_nil)))) pa_nil)))
  (pss_cons (ps_set (i := 5) sc_L_keeps.nd rfl (Or.inl rfl) (pe_cm0 O_keeps (fun i => hr.mono (by cases i <;> decide)) (pv 3)))
  (pss_cons (ps_if (PW.pt (pw_or (pt_not (pt_val (cIsi K (TT.free 82) (pa_cons (pv 4) (pa_cons (pe_bltn (v := .ty "list") (by rfl) (TT.free 76) boot_list rfl) pa_nil))))) (pw_or1 (pt_cmpR op_ne (cLen K (TT.free 70) (pa_cons (pv 4) pa_nil)) (cLen K (TT.free 70) (pa_cons (pe_ix (ixL K) (pv 1) pe_int (fun _ _ => rfl)) pa_nil)) (nomark _))))) (pss_one (ps_ret pe_bl)) pss_nil)
  (pss_cons (ps_if (pt_cmpR (neD K hr.units) (pe_lc (own := [("_law_hand", 7)]) rfl sc_L_keeps.nd (wList K (pv 4)) (blkOk_by (N := N_L_keeps) (sc := defScope s_L_keeps) (by decide +kernel)) (fun _ _ _ _ _ => (pg_name (i := 7) sc_L_keeps.nd rfl (Or.inl rfl) (Or.inr rfl))) (fun _ _ _ _ _ => pts_one (pt_cmpR (niS K) (pv 7) (pe_listRg rfl rfl (TT.free 76) (prg_1 rfl (TT.free 71) (cLen K (TT.free 70) (pa_cons (pv 1) pa_nil)))) rfl)) (fun _ _ _ _ _ => (pv 7))) (pe_lst pa_nil) (nomark _)) (pss_one (ps_ret pe_bl)) pss_nil)
  (pss_cons (ps_if (PW.pt (pw_and (pt_cmpR (inS K) pe_str (pv 5) rfl) (pw_and1 (pt_not (pt_val (pe_cl O_L_fair (hr.mono (by decide)) rfl (pa_cons (pv 1) (pa_cons (pv 4) pa_nil)))))))) (pss_one (ps_ret pe_bl)) pss_nil)
  (pss_cons (ps_if (PW.pt (pw_and (pt_cmpR (inS K) pe_str (pv 5) rfl) (pw_and1 (pt_not (pt_val (pe_cl O_L_none_better (hr.mono (by decide)) rfl (pa_cons (pv 1) (pa_cons (pv 4) (pa_cons (pv 2) pa_nil))))))))) (pss_one (ps_ret pe_bl)) pss_nil)
  (pss_cons (ps_if (PW.pt (pw_and (pt_cmpR (inS K) pe_str (pv 5) rfl) (pw_and1 (pt_not (pt_val (pe_cl O_L_halved (hr.mono (by decide)) rfl (pa_cons (pv 1) (pa_cons (pv 4) (pa_cons (pv 2) pa_nil))))))))) (pss_one (ps_ret pe_bl)) pss_nil)
  (pss_one (ps_ret (pe_cl O_L_greatest (hr.mono (by decide)) rfl (pa_cons (pv 1) (pa_cons (pv 4) (pa_cons (pv 2) (pa_cons (pv 0) pa_nil))))))))))))))), ?_⟩
    have h4 := g.2.h4
    have n12 := g.2.n12
    refine q_asgP (ep_callP (ea_cons (ev_var rfl) ea_nil) fun H1 e Q q => ⟨i, rfl, q⟩) fun vd H1 e1 hd => ?_
    refine q_asgP (ep_deal (ev_var rfl) hd (ep_copy (g.mono e1) (ev_var rfl) (fun x => rfl) (fun x H1 => ev_var rfl)) c) fun v H2 e2 ⟨p, ds, ev, hp, l1, l2, good⟩ => ?_
    subst ev
    have f : FullD n h ds := ⟨l1, l2⟩
    have KK := kept_of g.2 f good
    have ex2 := e1.trans e2
    refine q_asgL (el_keeps (ev_var rfl) (dlE_mono K _ _ _ _ e2 hd)) fun pk H3 npk e3 hpk => ?_
    have ex3 := ex2.trans e3
    have hp3 := e3 p _ hp
    refine q_when (b := false) ?_ (fun z => nomatch z) fun _ H4 e4 => ?_
    · refine et_is (et_or (a := false) (et_is (et_not (et_B (b := true) (ev_cb (ea_cons (ev_var rfl) (ea_cons ev_c ea_nil)) ?_))) rfl) (fun _ => et_test (ev_op (ev_lenNt (sq_of hp3) (ev_var rfl)) (ev_lenRow (g.mono ex3) (ev_var rfl)) (rv_ne rfl)))) ?_
      · exact fun H' e Q q => ⟨.ref p, .ty "list", .type "list", .type "list", true, rfl, .ty "list", .base (.lst (e p _ hp3)), rfl, q H' (Ex.refl _)⟩
      · rw [l1]; simp
    have hp4 := e4 p _ hp3
    have ex4 := ex3.trans e4
    refine q_when (b := false) ?_ (fun z => nomatch z) fun _ H5 e5 => ?_
    · have hw := wk_list (K := K) (j := 7) (tl := tVar 4) (σ := [some (.str (wd i)), some (.ref a), some (.ref b), some vd, some (.ref p), some (.ref pk), none, none]) (H := H4) (ev_var rfl) (sq_of hp4)
      rw [natsV_len] at hw
      have z := el_lc (tt := tTest (tOp (rIn K true) (tVar 7) (tLstRg (tRg1 (tCB (rLenS K) (tCons (tVar 1) tNil)))))) (te := tVar 7) (vs := [7]) (fun j => !(List.range h).contains (ds.getD j 0)) (fun j => .int ((ds.getD j 0 : Nat) : Int)) hw (by omega) (fun _ => rfl)
        (fun j H6 e6 hj => et_test (ev_opL (ev_is (ev_var rfl) (natsV_getD hj)) (el_range (ev_lenTab (g.mono (ex4.trans e6)) (ev_var rfl)) (by omega)) fun u H7 hu e7 => rv_niN (sq_of hu))) (fun j H6 e6 hj _ => ev_is (ev_var rfl) (natsV_getD hj))
      have e0 := kept_nats ds fun x => !(List.range h).contains x
      rw [e0] at z
      have e1' : ds.filter (fun x => !(List.range h).contains x) = [] := by
        rw [List.filter_eq_nil_iff]
        intro x m
        rw [List.contains_iff_mem.mpr (List.mem_range.mpr (l2 x m))]
        decide
      rw [e1'] at z
      exact et_is (et_test (ev_opLL z (el_lst ea_nil (by decide)) fun u1 u2 H6 h1' h2' e6 => rv_neI (ns := []) (ms := []) (sq_of h1') (sq_of h2'))) rfl
    have hp5 := e5 p _ hp4
    have ex5 := ex4.trans e5
    have hpk5 := e5 pk _ (e4 pk _ hpk)
    refine q_when (b := false) ?_ (fun z => nomatch z) fun _ H6 e6 => ?_
    · refine et_is (et_and (b := false) (et_test (ev_op ev_c (ev_var rfl) (rv_isL (sq_of hpk5) rfl (flat_strs _)))) (fun z => et_is (et_not (et_B (c_Lfair (g.mono ex5) (sq_of hp5) f (KK.fair z) (ev_var rfl) (ev_var rfl)))) rfl)) (Bool.and_false _)
    have e56 := e6
    have ex6 := ex5.trans e6
    have hp6 := e6 p _ hp5
    refine q_when (b := false) ?_ (fun z => nomatch z) fun _ H7 e7 => ?_
    · refine et_is (et_and (b := false) (et_test (ev_op ev_c (ev_var rfl) (rv_isL (sq_of (e6 pk _ hpk5)) rfl (flat_strs _)))) (fun z => et_is (et_not (et_B (c_Lbest (g.mono ex6) (sq_of hp6) f (o.mono ex6) (KK.best z) (ev_var rfl) (ev_var rfl) (ev_var rfl)))) rfl)) (Bool.and_false _)
    have ex7 := ex6.trans e7
    have hp7 := e7 p _ hp6
    refine q_when (b := false) ?_ (fun z => nomatch z) fun _ H8 e8 => ?_
    · refine et_is (et_and (b := false) (et_test (ev_op ev_c (ev_var rfl) (rv_isL (sq_of (e7 pk _ (e6 pk _ hpk5))) rfl (flat_strs _)))) (fun z => et_is (et_not (et_B (c_Lhalf (g.mono ex7) (sq_of hp7) f (o.mono ex7) (KK.half z) (ev_var rfl) (ev_var rfl) (ev_var rfl)))) rfl)) (Bool.and_false _)
    have ex8 := ex7.trans e8
    exact s_ret (c_Lgreat (g.mono ex8) (sq_of (e8 p _ hp7)) f (o.mono ex8) KK.prod KK.least (ev_var rfl) (ev_var rfl) (ev_var rfl) (ev_var rfl)) fun H9 e9 => k H9 (ex8.trans e9)
end Lk

namespace Lk
open PySem PySem.Spec PyProof.Rows L2 Evl LE
/-! ### the law -/
abbrev dvE (h n : Nat) (_ : Unit) : V → Hp → Prop := DealV h n fun _ => True
theorem dvE_mono (h n : Nat) (u : Unit) : Mono (dvE h n u) := dealV_mono
theorem oth_pd {K : PySem.W.Frag} {h n : Nat} {H : Hp} : ∀ {us : List Unit} {ys : List V}, Paired (fun x v => dvE h n x v H) us ys → ∃ dss, Paired (fun x v => dE K x v H) dss ys ∧ ∀ ds, ds ∈ dss → FullD n h ds := by
  intro us
  induction us with
  | nil => intro ys p; cases p; exact ⟨[], .nil, fun ds m => absurd m List.not_mem_nil⟩
  | cons u us ih =>
    intro ys p
    cases p with
    | cons r t =>
      obtain ⟨dss, q1, q2⟩ := ih t
      obtain ⟨p, ds, e1, e2, e3, e4, _⟩ := r
      refine ⟨ds :: dss, .cons ⟨p, e1, sq_of e2⟩ q1, fun d m => ?_⟩
      rcases List.mem_cons.mp m with z | z
      · rw [z]; exact ⟨e3, e4⟩
      · exact q2 d z
section
variable {K : PySem.W.Frag} {H : Hp} {σ : L2.St} {ta tb tc tl : TE} {a b l : Addr} {T : List (List Int)} {h n k : Nat} {E : XK} {c : Int} {ys : List V} {R : V → Hp → Prop} {G : List V → Hp → Prop} {cs : List Int} {row : List Int}
theorem c_choices (g : GT K H a T h n) (e1 : Ev ta σ H (.int c)) (e2 : Ev tb σ H (.ref a)) : EvN (tCall (sp_L_choices K) [] E (tCons ta (tCons tb tNil))) σ H (DealV h n fun _ => True) :=
  en_callN dealV_mono (ea_cons e1 (ea_cons e2 ea_nil)) fun H1 e Q q => ⟨a, T, h, n, c, rfl, g.mono e, q⟩
theorem c_poor (hr : SqL K H b (intsV row)) (rl : row.length = n) (h1 : 1 ≤ h) (h4 : h ≤ 4) (n12 : n ≤ 12) (e1 : Ev ta σ H (.ref b)) (e2 : Ev tb σ H (.int (h : Int))) : EvN (tCall (sp_L_poorest_first K) [] E (tCons ta (tCons tb tNil))) σ H (DealV h n fun _ => True) :=
  en_callN dealV_mono (ea_cons e1 (ea_cons e2 ea_nil)) fun H1 e Q q => ⟨b, row, h, n, rfl, ex_l e hr, rl, h1, h4, n12, q⟩
theorem ep_catP (m : Mono G) (ha : Ev ta σ H (.ref l)) (hl : H l = some (.lst ys)) (hz : ys.length ≤ 40000) (hb : EvP tb σ H (fun v H2 => ∃ b zs, v = .ref b ∧ H2 b = some (.lst zs) ∧ zs.length ≤ 40000 ∧ G zs H2)) : EvP (tOp rCat ta tb) σ H (fun v H2 => ∃ a zs, v = .ref a ∧ H2 a = some (.lst (ys ++ zs)) ∧ G zs H2) := fun H1 e Q q =>
  ha H1 e _ fun H2 e2 => hb H2 (e.trans e2) _ fun v H3 e3 ⟨b, zs, ev, hb', hl', g⟩ => ⟨l, b, ys, zs, rfl, ev, e3 l _ (e2 l _ (e l _ hl)), hb', sz_of (by omega), fun p hp => q _ _ ((e2.trans e3).trans (Ex.new hp)) ⟨p, zs, rfl, upd_same, m _ _ _ (Ex.new hp) g⟩⟩
theorem ep_modE (ha : EvP ta σ H R) (hr : ∀ v H', R v H' → ∃ c : Nat, v = .int (c : Int)) (hb : ∀ H1, Ex H H1 → Ev tb σ H1 (.int (k : Int))) (hk : 0 < k) : EvP (tOp rMod ta tb) σ H (NatB k) := fun H1 e Q q =>
  ha H1 e _ fun v H2 e2 r => by
    obtain ⟨c, ev⟩ := hr v H2 r
    subst ev
    exact hb H2 (e.trans e2) H2 (Ex.refl _) _ fun H3 e3 => ⟨(c : Int), (k : Int), rfl, rfl, by omega, q _ H3 (e2.trans e3) ⟨c % k, by rw [Int.natCast_emod], Nat.mod_lt _ hk⟩⟩
theorem ep_call3P {sp : Sp} {x y : V} {R' : V → Hp → Prop} (e1 : Ev ta σ H x) (e2 : Ev tb σ H y) (e3 : EvP tc σ H R) (hs : ∀ v H1, Ex H H1 → R v H1 → ∀ Q : VK, RetP R' H1 Q → sp [x, y, v] H1 Q E) : EvP (tCall sp [] E (tCons ta (tCons tb (tCons tc tNil)))) σ H R' := fun H1 e Q q =>
  e1 H1 e _ fun H2 x2 => e2 H2 (e.trans x2) _ fun H3 x3 => e3 H3 ((e.trans x2).trans x3) _ fun v H4 x4 r => hs v H4 (((e.trans x2).trans x3).trans x4) r Q fun w H5 x5 r' => q w H5 (((x2.trans x3).trans x4).trans x5) r'
/-- the choices of some cells -/
theorem en_choices {j : Nat} {tcl tt : TE} (g : GT K H a T h n) (sl : EvL tcl σ H (intsV cs)) (lim : cs.length ≤ 40000) (w : ∀ x, wipe ((wipe σ [j]).set j (some x)) [j] = wipe σ [j]) (hv : ∀ x H1, Ev (tVar j) ((wipe σ [j]).set j (some x)) H1 x)
    (ht : ∀ x H1, Ev tt ((wipe σ [j]).set j (some x)) H1 (.ref a)) : EvP (tLc (iList K tcl) (gName j) tYes (tCall (sp_L_choices K) [] E (tCons (tVar j) (tCons tt tNil))) [j]) σ H (fun v H2 => ∃ b ys, v = .ref b ∧ H2 b = some (.lst ys) ∧ ys.length ≤ cs.length ∧ Pd (dvE h n) ((List.range cs.length).map fun _ => ()) ys H2) := by
  have hw := wk_listN (K := K) (j := j) (tl := tcl) (σ := σ) (H := H) sl
  rw [intsV_len] at hw
  have z := en_lc (tt := tYes) (te := tCall (sp_L_choices K) [] E (tCons (tVar j) (tCons tt tNil))) (vs := [j]) (E := dvE h n) (fun _ => true) (fun _ => ()) (dvE_mono h n) hw lim (fun i => w _) (fun i H3 e3 hi => et_yes rfl) (fun i H3 e3 hi _ =>
    c_choices (c := cs.getD i 0) (g.mono e3) (ev_is (hv _ H3) (intsV_getD hi)) (ht _ H3))
  rw [kept_all] at z
  exact (en_ep (E := fun v H' => ∃ b ys, v = .ref b ∧ H' b = some (.lst ys) ∧ Pd (dvE h n) ((List.range cs.length).map fun _ => ()) ys H') (fun v H H' e ⟨b, ys, h1, h2, h3⟩ => ⟨b, ys, h1, e b _ h2, h3.mono (dvE_mono h n) e⟩) z).imp fun v H' ⟨b, ys, h1, h2, h3⟩ => ⟨b, ys, h1, h2, by rw [← h3.length, List.length_map, List.length_range]; exact Nat.le_refl _, h3⟩
theorem c_Lkeeps {i : Kd} {dss : List (List Nat)} (g : GT K H a T h n) (cd : Cond i h n) (o : OthAt K n h b ys dss H) (e1 : Ev ta σ H (.str (wd i))) (e2 : Ev tb σ H (.ref a)) (e3 : Ev tc σ H (.ref b)) : Ev (tCall (sp_L_keeps K) [] E (tCons ta (tCons tb (tCons tc tNil)))) σ H (.bl true) :=
  ev_callV (ea_cons e1 (ea_cons e2 (ea_cons e3 ea_nil))) fun H1 e Q k => ⟨i, a, b, T, h, n, ys, dss, rfl, g.mono e, cd, o.mono e, k⟩
theorem pd_app {α : Type} {Ed : α → V → Hp → Prop} {xs xs' : List α} {ys ys' : List V} (p : Pd Ed xs ys H) (q : Pd Ed xs' ys' H) : Pd Ed (xs ++ xs') (ys ++ ys') H := p.append q
end
def sp_L_great_kept (K : PySem.W.Frag) : Sp := fun vs H Q _ => ∃ s cs, vs = [.ref s] ∧ SqL K H s (intsV cs) ∧ RetV (.bl true) H Q
theorem intsV_take (ns : List Int) (m : Nat) : (intsV ns).take m = intsV (ns.take m) := by
  unfold intsV
  rw [List.map_take]
abbrev N_L_great_kept : List Str := ["_law_script", "_law_table", "_law_others", "_law_word", "_law_cell", "_law_row"]
theorem sc_L_great_kept : FnScope N_L_great_kept ["_law_script"] (defScope s_L_great_kept) := ⟨rfl, rfl, rfl, by decide +kernel, rfl, by decide +kernel, by decide +kernel⟩
theorem ok_L_great_kept {P : Program} {w : World} {K : PySem.W.Frag} {mg : Str → Option Value} {base : Heap} (TT : Top K mg) (O_L_great_table : Ok P w K mg base 3 "_law_great_table" ["_law_script"] [] (sp_L_great_table K)) (O_L_choices : Ok P w K mg base 1 "_law_choices" ["_law_cell", "_law_table"] [] (sp_L_choices K)) (O_L_poorest_first : Ok P w K mg base 1 "_law_poorest_first" ["_law_row", "_law_heaps"] [] (sp_L_poorest_first K)) (O_L_keeps : Ok P w K mg base 10 "_law_keeps" ["_law_word", "_law_table", "_law_others"] [] (sp_L_keeps K)) : Ok P w K mg base 11 "_law_great_kept" ["_law_script"] [] (sp_L_great_kept K) := by
  refine TT.ok (d := d_L_great_kept) 87 60 rfl rfl rfl rfl rfl sc_L_great_kept (fun _ _ _ _ _ _ us hl => match us, hl with | [_], _ => rfl) (fun vs H Q E h => ?_) (fun cdv A outer s H vs Q E hr h => ?_)
  · obtain ⟨s, cs, rfl, _⟩ := h; rfl
  · obtain ⟨s', cs, rfl, hs, k⟩ := h
    refine ⟨_, (pss_cons (ps_set (i := 1) sc_L_great_kept.nd rfl (Or.inr rfl) (pe_cl O_L_great_table (hr.mono (by decide)) rfl (pa_cons (pv 0) pa_nil)))
  (pss_cons (ps_setLc (i := 2) (own := [("_law_cell", 4)]) rfl sc_L_great_kept.nd rfl rfl (sw_true rfl rfl rfl (by decide +kernel)) (wList K (pe_slice (slL K) (pv 0) po_none (po_some pe_int))) (blkOk_by (N := N_L_great_kept) (sc := defScope s_L_great_kept) (by decide +kernel)) (fun _ _ _ _ _ => (pg_name (i := 4) sc_L_great_kept.nd rfl (Or.inl rfl) (Or.inr rfl))) (fun _ _ _ _ _ => pts_nil) (fun _ _ _ _ _ => (pe_cl O_L_choices (hr.mono (by decide)) rfl (pa_cons (pv 4) (pa_cons (pv 1) pa_nil)))))
  (pss_cons (ps_set (i := 2) sc_L_great_kept.nd rfl (Or.inl rfl) (pe_op op_cat (pv 2) (pe_lc (own := [("_law_row", 5)]) rfl sc_L_great_kept.nd (wList K (pv 1)) (blkOk_by (N := N_L_great_kept) (sc := defScope s_L_great_kept) (by decide +kernel)) (fun _ _ _ _ _ => (pg_name (i := 5) sc_L_great_kept.nd rfl (Or.inl rfl) (Or.inr rfl))) (fun _ _ _ _ _ => pts_nil) (fun _ _ _ _ _ => (pe_cl O_L_poorest_first (hr.mono (by decide)) rfl (pa_cons (pv 5) (pa_cons (cLen K (TT.free 70) (pa_cons (pv 1) pa_nil)) pa_nil)))))))
  (pss_cons (ps_for PassesOwn.never rfl (wList K (pe_lst (pa_cons pe_str (pa_cons pe_str (pa_cons pe_str (pa_cons pe_str pa_nil)))))) (pg_name (i := 3) sc_L_great_kept.nd rfl (Or.inl rfl) (Or.inr rfl)) (pss_one (ps_if (pt_not (pt_val (pe_cl O_L_keeps (hr.mono (by decide)) rfl (pa_cons (pv 3) (pa_cons (pv 1) (pa_cons (pv 2) pa_nil)))))) (pss_one (ps_ret pe_bl)) pss_nil)))
  (pss_one (ps_ret pe_bl)))))), ?_⟩
    refine q_asgP (ep_callP (ea_cons (ev_var rfl) ea_nil) fun H1 e Q q => ⟨s', cs, rfl, ex_l e hs, q⟩) fun v H1 e1 ⟨h, n, a, T, ev, g⟩ => ?_
    subst ev
    have h4 := g.2.h4
    have h1 := g.2.h1
    have n12 := g.2.n12
    have tk := el_take (K := K) (i := 20) (ta := tVar 0) (tb := tC (.int 20)) (σ := [some (.ref s'), some (.ref a), none, none, none, none]) (ev_var rfl) (ex_l e1 hs) ev_c
    rw [intsV_take] at tk
    refine q_asgP (en_choices (j := 4) g tk (by rw [List.length_take]; omega) (fun x => rfl) (fun x H1 => ev_var rfl) (fun x H1 => ev_var rfl)) fun v H2 e2 ⟨b, ys, ev, hb, yl, pd⟩ => ?_
    subst ev
    have yl2 : ys.length ≤ 20 := Nat.le_trans yl (by rw [List.length_take]; omega)
    obtain ⟨⟨rs, g1, g2, g3⟩, o⟩ := id (g.mono e2)
    have rl : rs.length = h := by rw [g2, o.len]
    have hw := wk_list (K := K) (j := 5) (tl := tVar 1) (σ := [some (.ref s'), some (.ref a), some (.ref b), none, none, none]) (H := H2) (ev_var rfl) g1
    rw [List.length_map, rl] at hw
    have z := en_lc (tt := tYes) (te := tCall (sp_L_poorest_first K) [] E0 (tCons (tVar 5) (tCons (tCB (rLenS K) (tCons (tVar 1) tNil)) tNil))) (vs := [5]) (E := dvE h n) (fun _ => true) (fun _ => ()) (dvE_mono h n) hw (by omega) (fun i => rfl) (fun i H3 e3 hi => et_yes rfl) (fun i H3 e3 hi _ => by
      have hi1 : i < rs.length := by omega
      have hi2 : i < T.length := by rw [← g2]; exact hi1
      have r1 := g3 i rs[i] T[i] (List.getElem?_eq_getElem hi1) (List.getElem?_eq_getElem hi2)
      have er : (rs.map V.ref).getD i .non = .ref rs[i] := by
        rw [List.getD_eq_getElem?_getD, List.getElem?_map, List.getElem?_eq_getElem hi1]
        rfl
      exact c_poor (ex_l e3 r1) (o.rows T[i] (List.getElem_mem hi2)) h1 h4 n12 (ev_is (ev_var rfl) er) (ev_lenTab (g.mono (e2.trans e3)) (ev_var rfl)))
    rw [kept_all] at z
    have z2 := (en_ep (E := fun v H' => ∃ b ys, v = .ref b ∧ H' b = some (.lst ys) ∧ Pd (dvE h n) ((List.range h).map fun _ => ()) ys H') (fun v H H' e ⟨b, ys, h1, h2, h3⟩ => ⟨b, ys, h1, e b _ h2, h3.mono (dvE_mono h n) e⟩) z).imp (R' := fun v H' => ∃ b ys, v = .ref b ∧ H' b = some (.lst ys) ∧ ys.length ≤ 40000 ∧ Pd (dvE h n) ((List.range h).map fun _ => ()) ys H') fun v H' ⟨b, ys, h1, h2, h3⟩ => ⟨b, ys, h1, h2, by rw [← h3.length, List.length_map, List.length_range]; omega, h3⟩
    refine q_asgP (ep_catP (G := fun zs H' => Pd (dvE h n) ((List.range h).map fun _ => ()) zs H') (fun zs H H' e p => p.mono (dvE_mono h n) e) (ev_var rfl) hb (by omega) z2) fun v H3 e3 ⟨b2, zs, ev, hb2, pd2⟩ => ?_
    subst ev
    obtain ⟨dss, pd3, full⟩ := oth_pd (K := K) (pd_app (pd.mono (dvE_mono h n) e3) pd2)
    have oth : OthAt K n h b2 (ys ++ zs) dss H3 := ⟨sq_of hb2, pd3, full⟩
    have g3' := g.mono (e2.trans e3)
    refine q_forNLn (el_lst (ea_cons ev_c (ea_cons ev_c (ea_cons ev_c (ea_cons ev_c ea_nil)))) (by decide)) (fun p m σ' H' => ∃ v3, σ' = [some (.ref s'), some (.ref a), some (.ref b2), v3, none, none] ∧ Ex H3 H' ∧ H' p = some (.lst [.str "turns", .str "rings", .str "weights", .str "halves"]))
      (fun p H4 np e4 hp => ⟨none, rfl, e4, hp⟩) (fun p m σ' H' _ ⟨_, _, _, h⟩ => sq_of h) (fun p m x σ' H' hx pr => ?_) (fun p σ' H' pr => ?_)
    · obtain ⟨v3, rfl, ex, hp⟩ := pr
      have mx := List.mem_of_getElem? hx
      obtain ⟨i, ei, ci⟩ : ∃ i : Kd, x = .str (wd i) ∧ Cond i h n := by
        simp only [List.mem_cons, List.not_mem_nil, or_false] at mx
        rcases mx with rfl | rfl | rfl | rfl
        · exact ⟨.turns, rfl, trivial⟩
        · exact ⟨.rings, rfl, trivial⟩
        · exact ⟨.weights, rfl, trivial⟩
        · exact ⟨.halves, rfl, trivial⟩
      subst ei
      exact s_when (b := false) (et_is (et_not (et_B (c_Lkeeps (g3'.mono ex) ci (oth.mono ex) (ev_var rfl) (ev_var rfl) (ev_var rfl)))) rfl) (fun z => nomatch z) fun _ H5 e5 => ⟨_, rfl, ex.trans e5, e5 p _ hp⟩
    · obtain ⟨v3, rfl, ex, hp⟩ := pr
      exact s_ret ev_c fun H5 e5 => k H5 ((((e1.trans e2).trans e3).trans ex).trans e5)
def sp_law (K : PySem.W.Frag) : Sp := fun vs H Q _ => ∃ s cs, vs = [.ref s] ∧ SqL K H s (intsV cs) ∧ RetV (.bl true) H Q
theorem nox_ex {X : Cx} {body : List Stmt} {Z : TS → Prop} (h : ∃ t, PSs X.nox body t ∧ Z t) : ∃ t, PSs X body t ∧ Z t := let ⟨t, h1, h2⟩ := h; ⟨t, h1.nox, h2⟩
abbrev N_law : List Str := ["_law_script", "_law_hands", "_law_most", "_law_table", "_law_others", "_law_words", "_law_word", "_law_cell"]
theorem sc_law : FnScope N_law ["_law_script"] (defScope s_law) := ⟨rfl, rfl, rfl, by decide +kernel, rfl, by decide +kernel, by decide +kernel⟩
theorem ok_law {P : Program} {w : World} {K : PySem.W.Frag} {mg : Str → Option Value} {base : Heap} (TT : Top K mg) (O_L_rows : Ok P w K mg base 2 "_law_rows" ["_law_script", "_law_hands", "_law_things"] [] (sp_L_rows K)) (O_L_great_kept : Ok P w K mg base 11 "_law_great_kept" ["_law_script"] [] (sp_L_great_kept K)) (O_L_choices : Ok P w K mg base 1 "_law_choices" ["_law_cell", "_law_table"] [] (sp_L_choices K)) (O_L_keeps : Ok P w K mg base 10 "_law_keeps" ["_law_word", "_law_table", "_law_others"] [] (sp_L_keeps K)) (O_L_cell_at : Ok P w K mg base 1 "_law_cell_at" ["_law_script", "_law_k"] [] (sp_L_cell_at K)) {fd : FuncData} (F : FunD K "law" "law" (defArgs s_law) (defBody s_law) (defScope s_law) [] [] (He.ga K "law") fd) : FnOk P w K mg base CX0 12 (He.ga K "law") fd ["_law_script"] (sp_law K) := by
  refine F.ok sc_law (fun vs H Q E h => ?_) (fun cdv A outer s H vs Q E hr h => nox_ex ?_)
  · obtain ⟨s, cs, rfl, _⟩ := h; rfl
  · obtain ⟨s', cs, rfl, hs, k⟩ := h
    refine ⟨_, (pss_cons (ps_set (i := 1) sc_law.nd rfl (Or.inl rfl) (pe_op op_add pe_int (pe_op op_mod (pe_op op_mod (pe_op op_mul (pe_cl O_L_cell_at (hr.mono (by decide)) rfl (pa_cons (pv 0) (pa_cons pe_int pa_nil))) pe_int) pe_int) pe_int)))
  (pss_cons (ps_set (i := 2) sc_law.nd rfl (Or.inl rfl) (pe_ix (ixL K) (pe_lst (pa_cons pe_int (pa_cons pe_int (pa_cons pe_int pa_nil)))) (pe_op op_sub (pv 1) pe_int) (fun _ _ => rfl)))
  (pss_cons (ps_set (i := 3) sc_law.nd rfl (Or.inr rfl) (pe_cl O_L_rows (hr.mono (by decide)) rfl (pa_cons (pv 0) (pa_cons (pv 1) (pa_cons (pe_op op_mod (pe_op op_mod (pe_op op_mul (pe_cl O_L_cell_at (hr.mono (by decide)) rfl (pa_cons (pv 0) (pa_cons pe_int pa_nil))) pe_int) pe_int) (pv 2)) pa_nil)))))
  (pss_cons (ps_setLc (i := 4) (own := [("_law_cell", 7)]) rfl sc_law.nd rfl rfl (sw_true rfl rfl rfl (by decide +kernel)) (wList K (pe_slice (slL K) (pv 0) po_none (po_some pe_int))) (blkOk_by (N := N_law) (sc := defScope s_law) (by decide +kernel)) (fun _ _ _ _ _ => (pg_name (i := 7) sc_law.nd rfl (Or.inl rfl) (Or.inr rfl))) (fun _ _ _ _ _ => pts_nil) (fun _ _ _ _ _ => (pe_cl O_L_choices (hr.mono (by decide)) rfl (pa_cons (pv 7) (pa_cons (pv 3) pa_nil)))))
  (pss_cons (ps_set (i := 5) sc_law.nd rfl (Or.inl rfl) (pe_lst (pa_cons pe_str (pa_cons pe_str (pa_cons pe_str (pa_cons pe_str (pa_cons pe_str (pa_cons pe_str (pa_cons pe_str pa_nil)))))))))
  (Evl.pss_cut (ps_if (pt_cmpR op_eq (pv 1) pe_int (nomark _)) (pss_one (ps_expr (eBM K PySem.F.plainAttrs_list PySem.F.slot_list_append PySem.F.type_list_append mt_append (pv 5) (pa_cons pe_str pa_nil)))) pss_nil)
  (pss_cons (ps_for PassesOwn.never rfl (wList K (pv 5)) (pg_name (i := 6) sc_law.nd rfl (Or.inl rfl) (Or.inr rfl)) (pss_one (ps_if (pt_not (pt_val (pe_cl O_L_keeps (hr.mono (by decide)) rfl (pa_cons (pv 6) (pa_cons (pv 3) (pa_cons (pv 4) pa_nil)))))) (pss_one (ps_ret pe_bl)) pss_nil)))
  (pss_one (ps_ret (pe_cl O_L_great_kept (hr.mono (by decide)) rfl (pa_cons (pv 0) pa_nil))))))))))), ?_⟩
    refine q_asgP (ep_addc (m := 2) (ep_mod (k := 3) (ep_mod (k := 2147483647) (ep_mul (k := 16807) (c_cell (k := 0) hs (ev_var rfl) ev_c) (fun _ _ r => natB_nat r) (by omega)) (fun _ _ r => r) (by omega)) (fun _ _ r => natB_nat r) (by omega))) fun v H1 e1 ⟨c, ev, hc⟩ => ?_
    subst ev
    obtain ⟨mo, emo, mo1, few⟩ : ∃ mo : Nat, ([V.int 7, V.int 5, V.int 4] : List V)[c]? = some (.int (mo : Int)) ∧ 0 < mo ∧ mo ≤ 7 ∧ ∀ n, n < mo → (2 + c) ^ n ≤ 100 := by
      rcases (by omega : c = 0 ∨ c = 1 ∨ c = 2) with rfl | rfl | rfl
      · exact ⟨7, rfl, by omega, by omega, fun n hn => Nat.le_trans (Nat.pow_le_pow_right (by omega) (show n ≤ 6 by omega)) (by decide)⟩
      · exact ⟨5, rfl, by omega, by omega, fun n hn => Nat.le_trans (Nat.pow_le_pow_right (by omega) (show n ≤ 4 by omega)) (by decide)⟩
      · exact ⟨4, rfl, by omega, by omega, fun n hn => Nat.le_trans (Nat.pow_le_pow_right (by omega) (show n ≤ 3 by omega)) (by decide)⟩
    have hb : 2 ≤ 2 + c ∧ 2 + c ≤ 4 := by omega
    have ec : c = 2 + c - 2 := by omega
    refine q_asg (v := .int (mo : Int)) (ev_ixN (el_lst (ea_cons ev_c (ea_cons ev_c (ea_cons ev_c ea_nil))) (by decide)) (ev_is (w := .int (c : Int)) (ev_sub (ev_var rfl) ev_c) (by congr 1; omega)) emo) fun H2 e2 => ?_
    have ex2 := e1.trans e2
    clear ec emo
    generalize 2 + c = h at *
    have ct := ep_modE (k := mo) (tb := tVar 2) (ep_mod (k := 2147483629) (ep_mul (k := 39373) (c_cell (E := E0) (ta := tVar 0) (tb := tC (.int 1)) (k := 1) (σ := [some (.ref s'), some (.int (h : Int)), some (.int (mo : Int)), none, none, none, none, none]) (ex_l ex2 hs) (ev_var rfl) ev_c) (fun _ _ r => natB_nat r) (by omega)) (fun _ _ r => r) (by omega)) (fun _ _ r => natB_nat r) (fun H1 e => ev_var rfl) mo1
    refine q_asgP (R := fun v H' => ∃ n, n < mo ∧ GTv K h n v H') (ep_call3P (ev_var rfl) (ev_var rfl) ct fun v H6 e6 ⟨n, ev, ln⟩ Q q => by
      subst ev
      exact ⟨s', cs, h, n, rfl, ex_l (ex2.trans e6) hs, by omega, by omega, by omega, fun w H7 e7 r => q w H7 e7 ⟨n, ln, r⟩⟩) fun v H3 e3 ⟨n, ln, a, T, ev, g⟩ => ?_
    subst ev
    have few := few.2 n ln
    have ex3 := ex2.trans e3
    have tk := el_take (K := K) (i := 63) (ta := tVar 0) (tb := tC (.int 63)) (σ := [some (.ref s'), some (.int (h : Int)), some (.int (mo : Int)), some (.ref a), none, none, none, none]) (ev_var rfl) (ex_l ex3 hs) ev_c
    rw [intsV_take] at tk
    refine q_asgP (en_choices (j := 7) g tk (by rw [List.length_take]; omega) (fun x => rfl) (fun x H1 => ev_var rfl) (fun x H1 => ev_var rfl)) fun v H4 e4 ⟨b, ys, ev, hb', yl, pd⟩ => ?_
    subst ev
    obtain ⟨dss, pd3, full⟩ := oth_pd (K := K) pd
    have oth : OthAt K n h b ys dss H4 := ⟨sq_of hb', pd3, full⟩
    refine q_asgL (el_lst (ea_cons ev_c (ea_cons ev_c (ea_cons ev_c (ea_cons ev_c (ea_cons ev_c (ea_cons ev_c (ea_cons ev_c ea_nil))))))) (by decide)) fun aw H5 naw e5 haw => ?_
    have base : ∀ x, x ∈ ([.str "turns", .str "rings", .str "weights", .str "products", .str "leasts", .str "halves", .str "first"] : List V) → ∃ i : Kd, x = .str (wd i) ∧ Cond i h n := fun x mx => by
      simp only [List.mem_cons, List.not_mem_nil, or_false] at mx
      rcases mx with rfl | rfl | rfl | rfl | rfl | rfl | rfl
      · exact ⟨.turns, rfl, trivial⟩
      · exact ⟨.rings, rfl, trivial⟩
      · exact ⟨.weights, rfl, trivial⟩
      · exact ⟨.products, rfl, few⟩
      · exact ⟨.leasts, rfl, few⟩
      · exact ⟨.halves, rfl, trivial⟩
      · exact ⟨.dealer, rfl, trivial⟩
    have naw0 : H4 aw = none := naw
    refine q_cut (M := fun σ' H' => ∃ ws : List V, σ' = [some (.ref s'), some (.int (h : Int)), some (.int (mo : Int)), some (.ref a), some (.ref b), some (.ref aw), none, none] ∧ Ex H4 H' ∧ H' aw = some (.lst ws) ∧ ∀ x, x ∈ ws → ∃ i : Kd, x = .str (wd i) ∧ Cond i h n) ?_ fun σ' H6 pr => ?_
    · refine s_when (et_test (ev_op (ev_var rfl) ev_c (rv_eq rfl))) (fun z H6 e6 => ?_) (fun z H6 e6 => ⟨_, rfl, e5.trans e6, e6 aw _ haw, base⟩)
      have z := of_decide_eq_true z
      have h2 : h = 2 := by injection z with z; omega
      refine s_app (e6 aw _ haw) (ev_var rfl) ev_c (by decide) fun H7 e7 => ⟨_, rfl, Ex.mut ((e5.trans e6).trans e7) naw0, upd_same, fun x mx => ?_⟩
      rcases List.mem_append.mp mx with y | y
      · exact base x y
      · rw [List.mem_singleton.mp y]; exact ⟨.ratios, rfl, h2⟩
    · obtain ⟨ws, rfl, e6, haw6, ok⟩ := pr
      refine q_forLn (xs := ws) (ev_var rfl) (sq_of haw6) (fun m σ' H' => ∃ v6, σ' = [some (.ref s'), some (.int (h : Int)), some (.int (mo : Int)), some (.ref a), some (.ref b), some (.ref aw), v6, none] ∧ Ex H4 H' ∧ H' aw = some (.lst ws)) (fun H7 e7 => ⟨none, rfl, e6.trans e7, e7 aw _ haw6⟩) (fun m σ' H' _ ⟨_, _, _, h⟩ => sq_of h) (fun m x σ' H' hx pr => ?_) (fun σ' H' pr => ?_)
      · obtain ⟨v6, rfl, ex, hw⟩ := pr
        obtain ⟨i, ei, ci⟩ := ok x (List.mem_of_getElem? hx)
        subst ei
        exact s_when (b := false) (et_is (et_not (et_B (c_Lkeeps (g.mono (e4.trans ex)) ci (oth.mono ex) (ev_var rfl) (ev_var rfl) (ev_var rfl)))) rfl) (fun z => nomatch z) fun _ H8 e8 => ⟨_, rfl, ex.trans e8, e8 aw _ hw⟩
      · obtain ⟨v6, rfl, ex, hw⟩ := pr
        have exx := (ex3.trans e4).trans ex
        exact s_ret (ev_callV (ea_cons (ev_var rfl) ea_nil) fun H8 e8 Q q => ⟨s', cs, rfl, ex_l (exx.trans e8) hs, q⟩) fun H9 e9 => k H9 (exx.trans e9)
end Lk

namespace Lk
open PySem PySem.Spec PyProof.Rows L2 Evl LE
/-! ### every def keeps its promise -/
theorem every {P : Program} {w : World} {K : PySem.W.Frag} {mg : Str → Option Value} {base : Heap} (TT : Top K mg) {fd : FuncData} (F : FunD K "law" "law" (defArgs s_law) (defBody s_law) (defScope s_law) [] [] (He.ga K "law") fd) : FnOk P w K mg base CX0 12 (He.ga K "law") fd ["_law_script"] (sp_law K) := by
  have O_hands_of := ok_hands_of (P := P) (w := w) (base := base) TT 
  have O_things_of := ok_things_of (P := P) (w := w) (base := base) TT 
  have O_heap_of := ok_heap_of (P := P) (w := w) (base := base) TT 
  have O_many_deals := ok_many_deals (P := P) (w := w) (base := base) TT 
  have O_deal_numbered := ok_deal_numbered (P := P) (w := w) (base := base) TT 
  have O_score_of := ok_score_of (P := P) (w := w) (base := base) TT 
  have O_further_cases := ok_further_cases (P := P) (w := w) (base := base) TT 
  have O_comes_ahead := ok_comes_ahead (P := P) (w := w) (base := base) TT 
  have O_is_order := ok_is_order (P := P) (w := w) (base := base) TT 
  have O_dearest_of := ok_dearest_of (P := P) (w := w) (base := base) TT 
  have O_envied_among := ok_envied_among (P := P) (w := w) (base := base) TT 
  have O_L_cell_at := ok_L_cell_at (P := P) (w := w) (base := base) TT 
  have O_L_numbers := ok_L_numbers (P := P) (w := w) (base := base) TT 
  have O_L_choices := ok_L_choices (P := P) (w := w) (base := base) TT 
  have O_L_shares := ok_L_shares (P := P) (w := w) (base := base) TT 
  have O_L_fair := ok_L_fair (P := P) (w := w) (base := base) TT 
  have O_L_score := ok_L_score (P := P) (w := w) (base := base) TT 
  have O_L_poorest_first := ok_L_poorest_first (P := P) (w := w) (base := base) TT 
  have O_check_hand := ok_check_hand (P := P) (w := w) (base := base) TT O_hands_of
  have O_check_thing := ok_check_thing (P := P) (w := w) (base := base) TT O_things_of
  have O_nothing_dealt := ok_nothing_dealt (P := P) (w := w) (base := base) TT O_things_of
  have O_pairs_of := ok_pairs_of (P := P) (w := w) (base := base) TT O_hands_of
  have O_spare_of := ok_spare_of (P := P) (w := w) (base := base) TT O_heap_of
  have O_check_few := ok_check_few (P := P) (w := w) (base := base) TT O_many_deals
  have O_hope_of := ok_hope_of (P := P) (w := w) (base := base) TT O_score_of
  have O_check_weights := ok_check_weights (P := P) (w := w) (base := base) TT O_hands_of
  have O_by_falling := ok_by_falling (P := P) (w := w) (base := base) TT O_comes_ahead
  have O_cut_deal := ok_cut_deal (P := P) (w := w) (base := base) TT O_things_of
  have O_hands_in_rings := ok_hands_in_rings (P := P) (w := w) (base := base) TT O_envied_among
  have O_ring_turned := ok_ring_turned (P := P) (w := w) (base := base) TT O_hands_of
  have O_L_rows := ok_L_rows (P := P) (w := w) (base := base) TT O_L_numbers
  have O_L_none_better := ok_L_none_better (P := P) (w := w) (base := base) TT O_L_shares
  have O_L_halved := ok_L_halved (P := P) (w := w) (base := base) TT O_L_shares
  have O_L_greatest := ok_L_greatest (P := P) (w := w) (base := base) TT O_L_shares O_L_score
  have O_worth_of := ok_worth_of (P := P) (w := w) (base := base) TT O_check_hand O_check_thing
  have O_thing_given := ok_thing_given (P := P) (w := w) (base := base) TT O_check_thing O_check_hand
  have O_by_weights := ok_by_weights (P := P) (w := w) (base := base) TT O_check_weights O_things_of O_hands_of
  have O_paper_by := ok_paper_by (P := P) (w := w) (base := base) TT O_hope_of O_further_cases
  have O_by_turns := ok_by_turns (P := P) (w := w) (base := base) TT O_nothing_dealt O_things_of O_dearest_of O_hands_of O_is_order
  have O_L_great_table := ok_L_great_table (P := P) (w := w) (base := base) TT O_L_rows O_L_cell_at
  have O_share_of := ok_share_of (P := P) (w := w) (base := base) TT O_worth_of O_heap_of
  have O_heap_seen := ok_heap_seen (P := P) (w := w) (base := base) TT O_worth_of O_heap_of
  have O_is_half_enough := ok_is_half_enough (P := P) (w := w) (base := base) TT O_worth_of
  have O_one_for := ok_one_for (P := P) (w := w) (base := base) TT O_worth_of
  have O_by_product := ok_by_product (P := P) (w := w) (base := base) TT O_check_few O_hope_of O_paper_by O_further_cases
  have O_word : ∀ i, OkM P w K mg base 1 (nm i) "word" ["self"] (sp_word i) := fun i => match i with | .dealer => ok_Dealer_word TT | .turns => ok_Turns_word TT | .rings => ok_Rings_word TT | .weights => ok_Weights_word TT | .ratios => ok_Ratios_word TT | .products => ok_Products_word TT | .leasts => ok_Leasts_word TT | .halves => ok_Halves_word TT
  have O_dealer_by := ok_dealer_by (P := P) (w := w) (base := base) TT O_word (ok_Turns_init TT) (ok_Rings_init TT) (ok_Weights_init TT)
  have O_shares_of := ok_shares_of (P := P) (w := w) (base := base) TT O_share_of O_hands_of
  have O_envies := ok_envies (P := P) (w := w) (base := base) TT O_heap_seen O_share_of
  have O_envies_but := ok_envies_but (P := P) (w := w) (base := base) TT O_share_of O_heap_seen
  have O_bag_for := ok_bag_for (P := P) (w := w) (base := base) TT O_is_half_enough
  have O_envies_of := ok_envies_of (P := P) (w := w) (base := base) TT O_pairs_of O_envies
  have O_envies_beyond := ok_envies_beyond (P := P) (w := w) (base := base) TT O_spare_of O_envies_but
  have O_by_halves := ok_by_halves (P := P) (w := w) (base := base) TT O_nothing_dealt O_hands_of O_things_of O_one_for O_bag_for
  have O_by_leasts := ok_by_leasts (P := P) (w := w) (base := base) TT O_check_few O_deal_numbered O_shares_of O_many_deals
  have O_is_fair := ok_is_fair (P := P) (w := w) (base := base) TT O_envies_beyond O_pairs_of
  have O_ring_of := ok_ring_of (P := P) (w := w) (base := base) TT O_envies_of O_hands_in_rings O_envied_among O_hands_of
  have O_unenvied_of := ok_unenvied_of (P := P) (w := w) (base := base) TT O_envies_of O_hands_of
  have O_by_ratios := ok_by_ratios (P := P) (w := w) (base := base) TT O_by_falling O_envies O_hands_of O_cut_deal O_is_fair O_things_of
  have O_by_rings := ok_by_rings (P := P) (w := w) (base := base) TT O_nothing_dealt O_is_order O_ring_of O_unenvied_of O_thing_given O_things_of O_ring_turned
  have O_keeps : ∀ i, OkM P w K mg base 1 (nm i) "keeps" ["self"] (sp_keeps i) := fun i => match i with | .dealer => ok_Dealer_keeps TT | .turns => ok_Turns_keeps TT | .rings => ok_Rings_keeps TT | .weights => ok_Weights_keeps TT | .ratios => ok_Ratios_keeps TT | .products => ok_Products_keeps TT | .leasts => ok_Leasts_keeps TT | .halves => ok_Halves_keeps TT
  have O_deal : ∀ i, OkM P w K mg base (dlv i) (nm i) "deal" ["self", "table"] (sp_deal K i) := fun i => match i with | .dealer => ok_Dealer_deal TT O_things_of | .turns => ok_Turns_deal TT O_by_turns | .rings => ok_Rings_deal TT O_by_rings | .weights => ok_Weights_deal TT O_by_weights O_hands_of | .ratios => ok_Ratios_deal TT O_by_ratios | .products => ok_Products_deal TT O_by_product | .leasts => ok_Leasts_deal TT O_by_leasts | .halves => ok_Halves_deal TT O_by_halves
  have O_L_keeps := ok_L_keeps (P := P) (w := w) (base := base) TT O_keeps O_deal O_dealer_by O_L_greatest O_L_fair O_L_none_better O_L_halved
  have O_L_great_kept := ok_L_great_kept (P := P) (w := w) (base := base) TT O_L_great_table O_L_choices O_L_poorest_first O_L_keeps
  exact ok_law TT O_L_rows O_L_great_kept O_L_choices O_L_keeps O_L_cell_at F
theorem facts {P : Program} {w : World} {K : PySem.W.Frag} {h : Heap} {mg : Str → Option Value} {f : Addr} (X : K.In h) (G : h.Ns mainGlobals mg) (hfa : mg ("law" : Str) = some (.ref f)) (c : Says K) :
    ∃ fd : FuncData, (∀ (s : Shared) (v : Value), BindsTo s fd ⟨[v], []⟩ [("_law_script", v)]) ∧ ∀ base : Heap, K.In base → base.Ns mainGlobals mg → FnOk P w K mg base CX0 12 f fd ["_law_script"] (sp_law K) := by
  have TT : Top K mg := ⟨c.1, c.2, ⟨h, X, G⟩⟩
  obtain ⟨fd, F⟩ := c.1.def_ 88 (d := d_law) rfl
  have e := hfa.symm.trans (TT.glo 61)
  cases e
  have e1 : d_law.dvs K = [] := rfl
  have e2 : d_law.kws K = [] := rfl
  rw [e1, e2] at F
  have b := FunD.bindsA (ps := ["_law_script"]) F fun _ _ _ _ _ _ us hl => match us, hl with | [_], _ => rfl
  exact ⟨fd, fun s v => b s [v] rfl, fun base _ _ => every TT F⟩
end Lk

open PySem PySem.W PySem.Calls PyProof.Rows
theorem PySem.Challenge.cw_leastenvy_k74_whole_dealers_keep_holds : PySem.Challenge.rw_leastenvy_k74_whole_dealers_keep.Holds := by
  w_on; o_law
  refine HandSHeadRun.head_any (r := OpenLaw.row PySem.Challenge.rw_leastenvy_k74_whole_dealers_keep) (q := view (OpenLaw.row PySem.Challenge.rw_leastenvy_k74_whole_dealers_keep).prog [Lk.iLaw]) (H := Lk.hk) (ob := Lk.ob) (M := 7000) (loose := Lk.loose) (d := HandSHeadRun.topDef (OpenLaw.row PySem.Challenge.rw_leastenvy_k74_whole_dealers_keep).prog Lk.iLaw) (kwd := []) Lk.ob_eq
    (by kernel_rfl) (fun s => by kernel_rfl) Lk.run (by kernel_rfl) (by kernel_rfl) (by kernel_rfl) (by rfl) (by first | assumption | decide +kernel) (by decide +kernel) ⟨rfl, rfl, rfl, rfl, rfl, by decide +kernel⟩ ?hw ?hc
  case hw => w_witness2
  case hc =>
    refine L2.walk_ofE (l := PySem.Challenge.rw_leastenvy_k74_whole_dealers_keep) (n := 63) (k := 12) (x := "_law_script") (CX := L2.CX0) rfl (by decide) (by kernel_rfl) ⟨rfl, by decide, by decide⟩ ?F (fun _ _ _ _ z => z)
    intro w mg fa h Y G hmg0
    obtain ⟨K, KX, c⟩ := Y
    have hmg : mg ("law" : PySem.Str) = some (.ref fa) := by
      have e : (HandSHeadRun.topDef (OpenLaw.row PySem.Challenge.rw_leastenvy_k74_whole_dealers_keep).prog Lk.iLaw).name = ("law" : PySem.Str) := by kernel_rfl
      rw [← e]
      exact hmg0
    obtain ⟨fd, hb, hF⟩ := Lk.facts (P := (PySem.Challenge.rw_leastenvy_k74_whole_dealers_keep).prog) (w := w) KX G hmg c
    exact ⟨K, fd, Lk.sp_law K, KX, hb, fun H a ns hl _ hS => ⟨a, ns, rfl, hS, fun _ _ => rfl⟩, hF⟩
