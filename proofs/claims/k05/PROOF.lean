import PyProof.Rows.All
import Wide.All
import OpenK.AllK
import Wide.FinOn
import KE.KStateDown
import Lean
import KE.SortData
import KE.SortKeyHeap
import PyProof.Rows.SetFrom
import HandS.ForMost
import HandS.Exc
import HandS.TryOnly
import HandS.ExcOwn
import HandS.WordsExc
import HandS.Defaults
import HandS.IsInst
import HandS.Style
import HandS.TupLe
import HandS.TupAny
import HandS.SortInts
import HandS.SetFor
import HandS.Strs
import HandS.Wide
import HandS.Head0
import HandS.Head1
import HandS.Head2
import HandS.HeadEnd
import HandS.HeadHook1
import HandS.HeadHook2
import HandS.Walk
import KE.Datum
import HandS.Nested
import HandS.Conv
import HandS.Lambda
import KE.KLam
import KE.KSortKey
import HandS.HeadHook4
import HandS.HeadWalk
import HandS.EndTab
import HandS.NestedK
import PySem.Challenge.RW_spantolls_k05_answers_by_hand
set_option Elab.async false
set_option linter.all false
set_option maxRecDepth 100000
set_option maxHeartbeats 4000000
namespace Spn

/-! ### sums by index -/
def sumTo : Nat → (Nat → Int) → Int
  | 0, _ => 0
  | n + 1, f => sumTo n f + f n
theorem sumTo_congr {n : Nat} {f g : Nat → Int} (h : ∀ i, i < n → f i = g i) : sumTo n f = sumTo n g := by
  induction n with
  | zero => rfl
  | succ n ih => rw [sumTo, sumTo, ih fun i hi => h i (Nat.lt_succ_of_lt hi), h n (Nat.lt_succ_self n)]
theorem sumTo_add (n : Nat) (f g : Nat → Int) : sumTo n (fun i => f i + g i) = sumTo n f + sumTo n g := by
  induction n with
  | zero => rfl
  | succ n ih => simp only [sumTo, ih]; omega
theorem sumTo_sub (n : Nat) (f g : Nat → Int) : sumTo n (fun i => f i - g i) = sumTo n f - sumTo n g := by
  induction n with
  | zero => rfl
  | succ n ih => simp only [sumTo, ih]; omega
theorem sumTo_mul (n : Nat) (c : Int) (f : Nat → Int) : sumTo n (fun i => c * f i) = c * sumTo n f := by
  induction n with
  | zero => simp [sumTo]
  | succ n ih => simp only [sumTo, ih, Int.mul_add]
theorem sumTo_le {n : Nat} {f g : Nat → Int} (h : ∀ i, i < n → f i ≤ g i) : sumTo n f ≤ sumTo n g := by
  induction n with
  | zero => exact Int.le_refl _
  | succ n ih =>
    have a := ih fun i hi => h i (Nat.lt_succ_of_lt hi)
    have b := h n (Nat.lt_succ_self n)
    simp only [sumTo]; omega
theorem sumTo_zero (n : Nat) : sumTo n (fun _ => 0) = 0 := by
  induction n with
  | zero => rfl
  | succ n ih => rw [sumTo, ih]; rfl
theorem sumTo_nonneg {n : Nat} {f : Nat → Int} (h : ∀ i, i < n → 0 ≤ f i) : 0 ≤ sumTo n f := by
  have := sumTo_le (f := fun _ => 0) (g := f) h
  rwa [sumTo_zero] at this
theorem sumTo_const (n : Nat) (c : Int) : sumTo n (fun _ => c) = n * c := by
  induction n with
  | zero => simp [sumTo]
  | succ n ih =>
    rw [sumTo, ih, Int.natCast_succ, Int.add_mul]
    omega
theorem sumTo_swap (n m : Nat) (f : Nat → Nat → Int) : sumTo n (fun i => sumTo m fun j => f i j) = sumTo m fun j => sumTo n fun i => f i j := by
  induction n with
  | zero => simp only [sumTo]; rw [sumTo_zero]
  | succ n ih => simp only [sumTo, ih, sumTo_add]
theorem sumTo_mem {n : Nat} {f : Nat → Int} (h : ∀ i, i < n → 0 ≤ f i) {i : Nat} (hi : i < n) : f i ≤ sumTo n f := by
  induction n with
  | zero => omega
  | succ n ih =>
    have hn := h n (Nat.lt_succ_self n)
    have h0 := sumTo_nonneg (n := n) (f := f) fun i hi => h i (Nat.lt_succ_of_lt hi)
    by_cases e : i = n
    · subst e; simp only [sumTo]; omega
    · have := ih (fun i hi => h i (Nat.lt_succ_of_lt hi)) (by omega)
      simp only [sumTo]; omega
/-- where nothing is below nought and all together is nought, each is nought -/
theorem sumTo_eq_zero {n : Nat} {f : Nat → Int} (h : ∀ i, i < n → 0 ≤ f i) (e : sumTo n f ≤ 0) {i : Nat} (hi : i < n) : f i = 0 := by
  have a := sumTo_mem h hi
  have b := h i hi
  omega
/-- one place changed -/
theorem sumTo_upd {n : Nat} {f g : Nat → Int} {i : Nat} (hi : i < n) (h : ∀ j, j < n → j ≠ i → f j = g j) : sumTo n f = sumTo n g + (f i - g i) := by
  induction n with
  | zero => omega
  | succ n ih =>
    by_cases e : i = n
    · subst e
      have : sumTo i f = sumTo i g := sumTo_congr fun j hj => h j (Nat.lt_succ_of_lt hj) (Nat.ne_of_lt hj)
      simp only [sumTo, this]; omega
    · have a := ih (by omega) fun j hj => h j (Nat.lt_succ_of_lt hj)
      have b := h n (Nat.lt_succ_self n) (fun q => e q.symm)
      simp only [sumTo, a, b]; omega
/-- differences from a to b -/
theorem sumTo_tele (φ : Nat → Int) (a b : Nat) (hab : a ≤ b) : ∀ L, b ≤ L → sumTo L (fun j => if a ≤ j ∧ j < b then φ (j + 1) - φ j else 0) = φ b - φ a := by
  have low : ∀ L, L ≤ a → sumTo L (fun j => if a ≤ j ∧ j < b then φ (j + 1) - φ j else 0) = 0 := fun L hL => by
    rw [sumTo_congr (g := fun _ => 0) fun j hj => if_neg (by omega), sumTo_zero]
  have mid : ∀ L, a ≤ L → L ≤ b → sumTo L (fun j => if a ≤ j ∧ j < b then φ (j + 1) - φ j else 0) = φ L - φ a := by
    intro L h1
    induction L with
    | zero =>
      intro _
      have : a = 0 := by omega
      subst this
      simp [sumTo]
    | succ L ih =>
      intro h2
      by_cases e : a = L + 1
      · subst e
        rw [low _ (Nat.le_refl _)]; omega
      · rw [sumTo, ih (by omega) (by omega), if_pos (by omega)]; omega
  intro L hL
  induction L with
  | zero =>
    have e : b = 0 := by omega
    subst e
    have e : a = 0 := by omega
    subst e
    simp [sumTo]
  | succ L ih =>
    by_cases e : b = L + 1
    · subst e; exact mid _ hab (Nat.le_refl _)
    · rw [sumTo, ih (by omega), if_neg (by omega)]; omega
theorem sumTo_tele0 (φ : Nat → Int) (L : Nat) : sumTo L (fun j => φ (j + 1) - φ j) = φ L - φ 0 := by
  have := sumTo_tele φ 0 L (Nat.zero_le _) L (Nat.le_refl _)
  rw [← this]
  exact sumTo_congr fun j hj => (if_pos ⟨Nat.zero_le _, hj⟩).symm

/-! ### the net of days -/
structure Net where
  n : Nat
  L : Nat
  fi : Nat → Nat
  ei : Nat → Nat
  p : Nat → Int
  lt : ∀ i, i < n → fi i < ei i
  le : ∀ i, i < n → ei i ≤ L
  pos : ∀ i, i < n → 0 ≤ p i
namespace Net
variable (N : Net)
def cov (i j : Nat) : Int := if N.fi i ≤ j ∧ j < N.ei i then 1 else 0
def cover (tk : Nat → Bool) (j : Nat) : Int := sumTo N.n fun i => if tk i = true then N.cov i j else 0
def Flow (id : Nat → Int) (tk : Nat → Bool) (k : Int) : Prop := ∀ j, j < N.L → 0 ≤ id j ∧ id j + N.cover tk j = k
structure Feas (φ : Nat → Int) (id : Nat → Int) (tk : Nat → Bool) : Prop where
  up : ∀ j, j < N.L → φ j ≤ φ (j + 1)
  back : ∀ j, j < N.L → 0 < id j → φ (j + 1) ≤ φ j
  no : ∀ i, i < N.n → tk i = false → φ (N.fi i) + N.p i ≤ φ (N.ei i)
  yes : ∀ i, i < N.n → tk i = true → φ (N.ei i) - N.p i ≤ φ (N.fi i)
variable {N}
theorem cov_nonneg (i j : Nat) : 0 ≤ N.cov i j := by unfold cov; split <;> omega
theorem cov_le (i j : Nat) : N.cov i j ≤ 1 := by unfold cov; split <;> omega
theorem cover_nonneg (tk : Nat → Bool) (j : Nat) : 0 ≤ N.cover tk j := sumTo_nonneg fun i _ => by
  split
  · exact cov_nonneg i j
  · exact Int.le_refl _
theorem toll_sum (φ : Nat → Int) {i : Nat} (hi : i < N.n) : sumTo N.L (fun j => (φ (j + 1) - φ j) * N.cov i j) = φ (N.ei i) - φ (N.fi i) := by
  rw [← sumTo_tele φ (N.fi i) (N.ei i) (Nat.le_of_lt (N.lt i hi)) N.L (N.le i hi)]
  refine sumTo_congr fun j _ => ?_
  unfold cov
  split <;> simp
/-- the tolls of all that is taken, by days -/
theorem swap_tolls (φ : Nat → Int) (tk : Nat → Bool) : sumTo N.L (fun j => (φ (j + 1) - φ j) * N.cover tk j) = sumTo N.n fun i => if tk i = true then φ (N.ei i) - φ (N.fi i) else 0 := by
  have e1 : ∀ j, (φ (j + 1) - φ j) * N.cover tk j = sumTo N.n fun i => (φ (j + 1) - φ j) * (if tk i = true then N.cov i j else 0) := fun j => by
    unfold cover
    rw [sumTo_mul]
  rw [sumTo_congr fun j _ => e1 j, sumTo_swap]
  refine sumTo_congr fun i hi => ?_
  by_cases h : tk i = true
  · rw [if_pos h, ← toll_sum φ hi]
    exact sumTo_congr fun j _ => by rw [if_pos h]
  · rw [if_neg h]
    rw [sumTo_congr (g := fun _ => 0) fun j _ => by rw [if_neg h, Int.mul_zero], sumTo_zero]
def gain (N : Net) (φ : Nat → Int) (i : Nat) : Int := max 0 (N.p i - (φ (N.ei i) - φ (N.fi i)))
/-- THE EQUATION: what is taken is worth what the tolls say -/
theorem strong {φ id : Nat → Int} {tk : Nat → Bool} {k : Int} (hf : N.Flow id tk k) (hφ : N.Feas φ id tk) :
    sumTo N.n (fun i => if tk i = true then N.p i else 0) = k * (φ N.L - φ 0) + sumTo N.n (N.gain φ) := by
  have e1 : sumTo N.L (fun j => (φ (j + 1) - φ j) * N.cover tk j) = k * (φ N.L - φ 0) := by
    rw [← sumTo_tele0 φ N.L, ← sumTo_mul]
    refine sumTo_congr fun j hj => ?_
    obtain ⟨h0, h1⟩ := hf j hj
    by_cases hz : 0 < id j
    · have a := hφ.up j hj
      have b := hφ.back j hj hz
      have e : φ (j + 1) - φ j = 0 := by omega
      rw [e]; simp
    · have e : id j = 0 := by omega
      have : N.cover tk j = k := by omega
      rw [this, Int.mul_comm]
  have e2 : sumTo N.n (N.gain φ) = sumTo N.n (fun i => if tk i = true then N.p i else 0) - sumTo N.n (fun i => if tk i = true then φ (N.ei i) - φ (N.fi i) else 0) := by
    rw [← sumTo_sub]
    refine sumTo_congr fun i hi => ?_
    unfold gain
    by_cases h : tk i = true
    · have := hφ.yes i hi h
      rw [if_pos h, if_pos h, Int.max_def]
      split <;> omega
    · have := hφ.no i hi (by simpa using h)
      rw [if_neg h, if_neg h, Int.max_def]
      split <;> omega
  rw [swap_tolls] at e1
  omega
/-- at the start -/
theorem flow_start : N.Flow (fun _ => 0) (fun _ => false) 0 := fun j _ => ⟨Int.le_refl _, by
  unfold cover
  simp [sumTo_zero]⟩
theorem feas_start : ∃ φ, N.Feas φ (fun _ => 0) (fun _ => false) := by
  have hS : 0 ≤ sumTo N.n N.p := sumTo_nonneg N.pos
  refine ⟨fun v => sumTo N.n N.p * v, ⟨fun j _ => ?_, fun j _ h => absurd h (Int.lt_irrefl _), fun i hi _ => ?_, fun i _ h => by cases h⟩⟩
  · show sumTo N.n N.p * (j : Int) ≤ sumTo N.n N.p * ((j + 1 : Nat) : Int)
    exact Int.mul_le_mul_of_nonneg_left (by omega) hS
  · show sumTo N.n N.p * (N.fi i : Int) + N.p i ≤ sumTo N.n N.p * (N.ei i : Int)
    have h1 := N.lt i hi
    have h2 := sumTo_mem N.pos hi
    have h3 : sumTo N.n N.p * ((N.fi i : Int) + 1) ≤ sumTo N.n N.p * (N.ei i : Int) := Int.mul_le_mul_of_nonneg_left (by omega) hS
    rw [Int.mul_add, Int.mul_one] at h3
    omega
/-- as many rooms as requests: all that is worth anything is taken -/
theorem full {φ id : Nat → Int} {tk : Nat → Bool} (hf : N.Flow id tk N.n) (hφ : N.Feas φ id tk) {i : Nat} (hi : i < N.n) (h : tk i = false) : N.p i = 0 := by
  have s := strong hf hφ
  have hL : ∀ j, j < N.L → 0 ≤ φ (j + 1) - φ j := fun j hj => by have := hφ.up j hj; omega
  have all : sumTo N.n N.p ≤ (N.n : Int) * (φ N.L - φ 0) + sumTo N.n (N.gain φ) := by
    have a : sumTo N.n N.p ≤ sumTo N.n (fun i => (φ (N.ei i) - φ (N.fi i)) + N.gain φ i) := sumTo_le fun i _ => by
      unfold gain; rw [Int.max_def]; split <;> omega
    rw [sumTo_add] at a
    have b : sumTo N.n (fun i => φ (N.ei i) - φ (N.fi i)) ≤ (N.n : Int) * (φ N.L - φ 0) := by
      have e := swap_tolls (N := N) φ (fun _ => true)
      have e' : sumTo N.n (fun i => φ (N.ei i) - φ (N.fi i)) = sumTo N.L (fun j => (φ (j + 1) - φ j) * N.cover (fun _ => true) j) := by
        rw [e]; exact sumTo_congr fun i _ => (if_pos rfl).symm
      rw [e', ← sumTo_tele0 φ N.L, ← sumTo_mul]
      refine sumTo_le fun j hj => ?_
      rw [Int.mul_comm]
      refine Int.mul_le_mul_of_nonneg_right ?_ (hL j hj)
      unfold cover
      have : sumTo N.n (fun i => if (fun _ => true) i = true then N.cov i j else 0) ≤ sumTo N.n fun _ => 1 := sumTo_le fun i _ => by
        rw [if_pos rfl]; exact cov_le i j
      rw [sumTo_const] at this
      omega
    omega
  have d : sumTo N.n (fun i => N.p i - if tk i = true then N.p i else 0) ≤ 0 := by
    rw [sumTo_sub]; omega
  have z := sumTo_eq_zero (fun i hi => by
    have := N.pos i hi
    by_cases h : tk i = true
    · rw [if_pos h]; omega
    · rw [if_neg h]; omega) d hi
  simpa [h] using z
/-- .. so that rooms may be added -/
theorem feas_more {φ id : Nat → Int} {tk : Nat → Bool} (hf : N.Flow id tk N.n) (hφ : N.Feas φ id tk) (id' : Nat → Int) : N.Feas (fun _ => 0) id' tk :=
  ⟨fun _ _ => Int.le_refl _, fun _ _ _ => Int.le_refl _, fun i hi h => by rw [full hf hφ hi h]; omega, fun i hi _ => by have := N.pos i hi; omega⟩
theorem flow_more {id : Nat → Int} {tk : Nat → Bool} {k m : Int} (hm : 0 ≤ m) (hf : N.Flow id tk k) : N.Flow (fun j => id j + m) tk (k + m) := fun j hj => by
  obtain ⟨a, b⟩ := hf j hj
  exact ⟨by show 0 ≤ id j + m; omega, by show id j + m + _ = _; omega⟩

/-! ### steps -/
structure Stp where
  s : Nat
  e : Nat
  m : Int
  kd : Int
  ix : Nat
inductive IsStep (N : Net) (id : Nat → Int) (tk : Nat → Bool) : Stp → Prop where
  | on (j : Nat) (h : j < N.L) : IsStep N id tk ⟨j, j + 1, 0, 0, j⟩
  | off (j : Nat) (h : j < N.L) (hi : 0 < id j) : IsStep N id tk ⟨j + 1, j, 0, 1, j⟩
  | take (i : Nat) (h : i < N.n) (ht : tk i = false) : IsStep N id tk ⟨N.fi i, N.ei i, N.p i, 2, i⟩
  | give (i : Nat) (h : i < N.n) (ht : tk i = true) : IsStep N id tk ⟨N.ei i, N.fi i, -N.p i, 3, i⟩
theorem IsStep.le {id : Nat → Int} {tk : Nat → Bool} {st : Stp} (h : N.IsStep id tk st) : st.s ≤ N.L ∧ st.e ≤ N.L := by
  cases h with
  | on j h => exact ⟨Nat.le_of_lt h, h⟩
  | off j h => exact ⟨h, Nat.le_of_lt h⟩
  | take i h => exact ⟨Nat.le_trans (Nat.le_of_lt (N.lt i h)) (N.le i h), N.le i h⟩
  | give i h => exact ⟨N.le i h, Nat.le_trans (Nat.le_of_lt (N.lt i h)) (N.le i h)⟩
theorem IsStep.ok {φ id : Nat → Int} {tk : Nat → Bool} {st : Stp} (h : N.IsStep id tk st) (hφ : N.Feas φ id tk) : φ st.s + st.m ≤ φ st.e := by
  cases h with
  | on j h => have := hφ.up j h; show φ j + 0 ≤ φ (j + 1); omega
  | off j h hi => have := hφ.back j h hi; show φ (j + 1) + 0 ≤ φ j; omega
  | take i h ht => exact hφ.no i h ht
  | give i h ht => have := hφ.yes i h ht; show φ (N.ei i) + -N.p i ≤ φ (N.fi i); omega
theorem Feas.of_steps {φ id : Nat → Int} {tk : Nat → Bool} (h : ∀ st, N.IsStep id tk st → φ st.s + st.m ≤ φ st.e) : N.Feas φ id tk :=
  ⟨fun j hj => by have := h _ (.on j hj); simpa using this, fun j hj hi => by have := h _ (.off j hj hi); simpa using this,
   fun i hi ht => h _ (.take i hi ht), fun i hi ht => by
    have : φ (N.ei i) + -N.p i ≤ φ (N.fi i) := h _ (.give i hi ht)
    omega⟩
theorem IsStep.low {id : Nat → Int} {tk : Nat → Bool} {st : Stp} (h : N.IsStep id tk st) : -(sumTo N.n N.p) ≤ st.m := by
  have hS : 0 ≤ sumTo N.n N.p := sumTo_nonneg N.pos
  cases h with
  | on j h => show -(sumTo N.n N.p) ≤ 0; omega
  | off j h hi => show -(sumTo N.n N.p) ≤ 0; omega
  | take i h ht => have := N.pos i h; show -(sumTo N.n N.p) ≤ N.p i; omega
  | give i h ht => have := sumTo_mem N.pos h; show -(sumTo N.n N.p) ≤ -N.p i; omega
end Net
end Spn
namespace Spn
namespace Net
variable {N : Net}
/-! ### the way that brings most: brought, came, by relaxing -/
/-- came leads from v back to nought in d steps -/
inductive Tr (cm : List (Option Stp)) : Nat → Nat → Prop where
  | root : Tr cm 0 0
  | step {d v : Nat} {st : Stp} (h : cm[v]? = some (some st)) (hv : v ≠ 0) (t : Tr cm d st.s) : Tr cm (d + 1) v
theorem Tr.det {cm : List (Option Stp)} {d v : Nat} (a : Tr cm d v) : ∀ {d'}, Tr cm d' v → d = d' := by
  induction a with
  | root =>
    intro d' b
    cases b with
    | root => rfl
    | step _ hv _ => exact absurd rfl hv
  | step h hv t ih =>
    intro d' b
    cases b with
    | root => exact absurd rfl hv
    | step h' _ t' =>
      rw [h] at h'
      cases h'
      rw [ih t']
def cnt (br : List (Option Int)) : Nat := (br.filter (·.isSome)).length
theorem cnt_le (br : List (Option Int)) : cnt br ≤ br.length := List.length_filter_le _ _
theorem cnt_set : ∀ {br : List (Option Int)} {v : Nat} {x : Int}, br[v]? = some none → cnt (br.set v (some x)) = cnt br + 1
  | [], v, x, h => by simp at h
  | a :: r, 0, x, h => by
    have e : a = none := by simpa using h
    subst e
    simp [cnt]
  | a :: r, v + 1, x, h => by
    have ih := cnt_set (br := r) (v := v) (x := x) (by simpa using h)
    unfold cnt at ih ⊢
    rw [List.set_cons_succ, List.filter_cons, List.filter_cons]
    split <;> simp [ih]
theorem cnt_set' : ∀ {br : List (Option Int)} {v : Nat} {x y : Int}, br[v]? = some (some y) → cnt (br.set v (some x)) = cnt br
  | [], v, x, y, h => by simp at h
  | a :: r, 0, x, y, h => by
    have e : a = some y := by simpa using h
    subst e
    simp [cnt]
  | a :: r, v + 1, x, y, h => by
    have ih := cnt_set' (br := r) (v := v) (x := x) (y := y) (by simpa using h)
    unfold cnt at ih ⊢
    rw [List.set_cons_succ, List.filter_cons, List.filter_cons]
    split <;> simp [ih]

structure BF (N : Net) (φ : Nat → Int) (id : Nat → Int) (tk : Nat → Bool) (br : List (Option Int)) (cm : List (Option Stp)) : Prop where
  lb : br.length = N.L + 1
  lc : cm.length = N.L + 1
  b0 : br[0]? = some (some 0)
  hi : ∀ (v : Nat) (x : Int), br[v]? = some (some x) → x ≤ φ v - φ 0
  lo : ∀ (v : Nat) (x : Int), br[v]? = some (some x) → -(sumTo N.n N.p) * (cnt br : Int) ≤ x
  cm_ok : ∀ (v : Nat) (st : Stp), cm[v]? = some (some st) → N.IsStep id tk st ∧ st.e = v ∧ ∃ x y, br[v]? = some (some x) ∧ br[st.s]? = some (some y) ∧ x ≤ y + st.m
  tr : ∀ (v : Nat) (x : Int), br[v]? = some (some x) → ∃ d, Tr cm d v
/-- what is still to be gained -/
def mu (N : Net) (φ : Nat → Int) (br : List (Option Int)) : Nat → Nat
  | 0 => 0
  | v + 1 => mu N φ br v + (match br[v]? with
    | some (some x) => (φ v - φ 0 - x).toNat
    | _ => (φ v - φ 0 + sumTo N.n N.p * (N.L + 1)).toNat + 1)
theorem mu_congr {φ : Nat → Int} {br br' : List (Option Int)} : ∀ {m : Nat}, (∀ v, v < m → br[v]? = br'[v]?) → mu N φ br m = mu N φ br' m
  | 0, _ => rfl
  | m + 1, h => by
    unfold mu
    rw [mu_congr fun v hv => h v (Nat.lt_succ_of_lt hv), h m (Nat.lt_succ_self m)]
theorem mu_lt {φ : Nat → Int} {br : List (Option Int)} {e : Nat} {x : Int} (he : e < br.length) (hx : x ≤ φ e - φ 0) (hl : -(sumTo N.n N.p) * (N.L + 1) ≤ x) (h : ∀ y, br[e]? = some (some y) → y < x) :
    ∀ m, e < m → mu N φ (br.set e (some x)) m < mu N φ br m
  | 0, hm => by omega
  | m + 1, hm => by
    by_cases q : e = m
    · subst q
      unfold mu
      rw [mu_congr (br := br.set e (some x)) (br' := br) fun v hv => List.getElem?_set_ne (by omega)]
      rw [List.getElem?_set_self he]
      refine Nat.add_lt_add_left ?_ _
      have : br[e]? = some br[e] := List.getElem?_eq_getElem he
      rw [this]
      cases r : br[e] with
      | none =>
        show (φ e - φ 0 - x).toNat < _ + 1
        have : -(sumTo N.n N.p) * ((N.L : Int) + 1) = -(sumTo N.n N.p * ((N.L : Int) + 1)) := Int.neg_mul _ _
        omega
      | some y =>
        have := h y (by rw [this, r])
        show (φ e - φ 0 - x).toNat < (φ e - φ 0 - y).toNat
        omega
    · unfold mu
      rw [List.getElem?_set_ne (by omega)]
      exact Nat.add_lt_add_right (mu_lt he hx hl h m (by omega)) _

theorem BF.start {φ : Nat → Int} {id : Nat → Int} {tk : Nat → Bool} : N.BF φ id tk ((List.replicate (N.L + 1) (none : Option Int)).set 0 (some 0)) (List.replicate (N.L + 1) none) := by
  have hc : ∀ v : Nat, v ≠ 0 → ((List.replicate (N.L + 1) (none : Option Int)).set 0 (some 0))[v]? = some (some 0) → False := fun v hv h => by
    rw [List.getElem?_set_ne (Ne.symm hv), List.getElem?_replicate] at h
    split at h <;> simp at h
  have hx : ∀ (v : Nat) (x : Int), ((List.replicate (N.L + 1) (none : Option Int)).set 0 (some 0))[v]? = some (some x) → v = 0 ∧ x = 0 := fun v x h => by
    by_cases hv : v = 0
    · subst hv
      rw [List.getElem?_set_self (by simp)] at h
      exact ⟨rfl, by simpa using h.symm⟩
    · rw [List.getElem?_set_ne (Ne.symm hv), List.getElem?_replicate] at h
      split at h <;> simp at h
  have hS : 0 ≤ sumTo N.n N.p := sumTo_nonneg N.pos
  refine ⟨by simp, by simp, by rw [List.getElem?_set_self (by simp)], fun v x h => ?_, fun v x h => ?_, fun v st h => ?_, fun v x h => ?_⟩
  · obtain ⟨rfl, rfl⟩ := hx v x h
    omega
  · obtain ⟨rfl, rfl⟩ := hx v x h
    rw [Int.neg_mul]
    have : 0 ≤ sumTo N.n N.p * ((cnt ((List.replicate (N.L + 1) (none : Option Int)).set 0 (some 0)) : Nat) : Int) := Int.mul_nonneg hS (Int.natCast_nonneg _)
    omega
  · rw [List.getElem?_replicate] at h
    split at h <;> simp at h
  · obtain ⟨rfl, rfl⟩ := hx v x h
    exact ⟨0, .root⟩

theorem BF.relax {φ : Nat → Int} {id : Nat → Int} {tk : Nat → Bool} {br : List (Option Int)} {cm : List (Option Stp)} (B : N.BF φ id tk br cm) (hφ : N.Feas φ id tk) {st : Stp} (hs : N.IsStep id tk st) {y : Int} (hy : br[st.s]? = some (some y))
    (he : ∀ x, br[st.e]? = some (some x) → x < y + st.m) : N.BF φ id tk (br.set st.e (some (y + st.m))) (cm.set st.e (some st)) ∧ mu N φ (br.set st.e (some (y + st.m))) (N.L + 1) < mu N φ br (N.L + 1) := by
  have hS : 0 ≤ sumTo N.n N.p := sumTo_nonneg N.pos
  have hel : st.e < br.length := by rw [B.lb]; have := hs.le.2; omega
  have hec : st.e < cm.length := by rw [B.lc]; have := hs.le.2; omega
  have ok := hs.ok hφ
  have yhi := B.hi _ _ hy
  have ylo := B.lo _ _ hy
  have low := hs.low
  have new_hi : y + st.m ≤ φ st.e - φ 0 := by omega
  have e0 : st.e ≠ 0 := fun q => by
    have := he 0 (by rw [q]; exact B.b0)
    rw [q] at new_hi
    omega
  have se : st.s ≠ st.e := fun q => by
    have := he y (by rw [← q]; exact hy)
    rw [q] at ok
    omega
  have cntge : (cnt br : Int) ≤ cnt (br.set st.e (some (y + st.m))) := by
    have g : br[st.e]? = some br[st.e] := List.getElem?_eq_getElem hel
    cases r : br[st.e] with
    | none => rw [cnt_set (by rw [g, r])]; omega
    | some x => rw [cnt_set' (y := x) (by rw [g, r])]; exact Int.le_refl _
  have lomono : -(sumTo N.n N.p) * (cnt (br.set st.e (some (y + st.m))) : Int) ≤ -(sumTo N.n N.p) * (cnt br : Int) := by
    rw [Int.neg_mul, Int.neg_mul]
    have := Int.mul_le_mul_of_nonneg_left cntge hS
    omega
  have new_lo : -(sumTo N.n N.p) * (cnt (br.set st.e (some (y + st.m))) : Int) ≤ y + st.m := by
    have g : br[st.e]? = some br[st.e] := List.getElem?_eq_getElem hel
    cases r : br[st.e] with
    | none =>
      rw [cnt_set (by rw [g, r]), Int.natCast_succ, Int.mul_add, Int.mul_one]
      omega
    | some x =>
      have a := he x (by rw [g, r])
      have b := B.lo _ _ (show br[st.e]? = some (some x) by rw [g, r])
      omega
  have cntL : (cnt (br.set st.e (some (y + st.m))) : Int) ≤ N.L + 1 := by
    have := cnt_le (br.set st.e (some (y + st.m)))
    rw [List.length_set, B.lb] at this
    omega
  -- the slack of a way
  have slack : ∀ d v, Tr cm d v → ∀ x, br[v]? = some (some x) → (∀ z, br[st.e]? = some (some z) → φ v - x < φ st.e - z) → ∃ d', Tr (cm.set st.e (some st)) d' v := by
    intro d v t
    induction t with
    | root => intro _ _ _; exact ⟨0, .root⟩
    | @step d v st' h hv t ih =>
      intro x hx hlt
      obtain ⟨is', e', x', y', hx', hy', le'⟩ := B.cm_ok _ _ h
      rw [hx] at hx'
      cases hx'
      have ok' := is'.ok hφ
      rw [e'] at ok'
      have ne : st.e ≠ v := fun q => by
        have := hlt x (by rw [q]; exact hx)
        rw [q] at this
        omega
      obtain ⟨d', t'⟩ := ih y' hy' fun z hz => by have := hlt z hz; omega
      exact ⟨d' + 1, .step (by rw [List.getElem?_set_ne ne]; exact h) hv t'⟩
  have trS : ∃ d', Tr (cm.set st.e (some st)) d' st.s := by
    obtain ⟨d, t⟩ := B.tr _ _ hy
    refine slack d st.s t y hy fun z hz => ?_
    have := he z hz
    omega
  have trE : ∃ d', Tr (cm.set st.e (some st)) d' st.e := by
    obtain ⟨d', t'⟩ := trS
    exact ⟨d' + 1, .step (List.getElem?_set_self hec) e0 t'⟩
  have trAll : ∀ d v, Tr cm d v → ∃ d', Tr (cm.set st.e (some st)) d' v := by
    intro d v t
    induction t with
    | root => exact ⟨0, .root⟩
    | @step d v st' h hv t ih =>
      by_cases q : st.e = v
      · rw [← q]; exact trE
      · obtain ⟨d', t'⟩ := ih
        exact ⟨d' + 1, .step (by rw [List.getElem?_set_ne q]; exact h) hv t'⟩
  refine ⟨⟨by rw [List.length_set, B.lb], by rw [List.length_set, B.lc], by rw [List.getElem?_set_ne e0]; exact B.b0, fun v x h => ?_, fun v x h => ?_, fun v st' h => ?_, fun v x h => ?_⟩, ?_⟩
  · by_cases q : st.e = v
    · subst q
      rw [List.getElem?_set_self hel] at h
      cases h
      exact new_hi
    · rw [List.getElem?_set_ne q] at h
      exact B.hi v x h
  · by_cases q : st.e = v
    · subst q
      rw [List.getElem?_set_self hel] at h
      cases h
      exact new_lo
    · rw [List.getElem?_set_ne q] at h
      exact Int.le_trans lomono (B.lo v x h)
  · by_cases q : st.e = v
    · subst q
      rw [List.getElem?_set_self hec] at h
      cases h
      refine ⟨hs, rfl, y + st.m, y, List.getElem?_set_self hel, ?_, Int.le_refl _⟩
      rw [List.getElem?_set_ne (Ne.symm se)]
      exact hy
    · rw [List.getElem?_set_ne q] at h
      obtain ⟨a, b, x', y', hx', hy', le'⟩ := B.cm_ok v st' h
      refine ⟨a, b, x', ?_⟩
      by_cases q2 : st.e = st'.s
      · refine ⟨y + st.m, by rw [List.getElem?_set_ne q]; exact hx', by rw [← q2]; exact List.getElem?_set_self hel, ?_⟩
        have := he y' (by rw [q2]; exact hy')
        omega
      · exact ⟨y', by rw [List.getElem?_set_ne q]; exact hx', by rw [List.getElem?_set_ne q2]; exact hy', le'⟩
  · by_cases q : st.e = v
    · rw [← q]; exact trE
    · rw [List.getElem?_set_ne q] at h
      obtain ⟨d, t⟩ := B.tr v x h
      exact trAll d v t
  · refine mu_lt hel new_hi ?_ he _ (by have := hs.le.2; omega)
    refine Int.le_trans ?_ new_lo
    rw [Int.neg_mul, Int.neg_mul]
    have := Int.mul_le_mul_of_nonneg_left cntL hS
    omega

/-- nothing more is to be gained -/
def Still (N : Net) (id : Nat → Int) (tk : Nat → Bool) (br : List (Option Int)) : Prop := ∀ st, N.IsStep id tk st → ∀ y, br[st.s]? = some (some y) → ∃ x, br[st.e]? = some (some x) ∧ y + st.m ≤ x
/-- what is brought in the end, and by which steps -/
structure Done (N : Net) (id : Nat → Int) (tk : Nat → Bool) (ψ : Nat → Int) (cm : List (Option Stp)) : Prop where
  z : ψ 0 = 0
  lc : cm.length = N.L + 1
  feas : N.Feas ψ id tk
  cm_ok : ∀ (v : Nat) (st : Stp), cm[v]? = some (some st) → N.IsStep id tk st ∧ st.e = v ∧ ψ v = ψ st.s + st.m
  tr : ∀ v, v ≤ N.L → ∃ d, Tr cm d v
theorem BF.done {φ : Nat → Int} {id : Nat → Int} {tk : Nat → Bool} {br : List (Option Int)} {cm : List (Option Stp)} (B : N.BF φ id tk br cm) (S : N.Still id tk br) : ∃ ψ : Nat → Int, (∀ v, v ≤ N.L → br[v]? = some (some (ψ v))) ∧ N.Done id tk ψ cm := by
  have all : ∀ v, v ≤ N.L → ∃ x, br[v]? = some (some x) := by
    intro v
    induction v with
    | zero => intro _; exact ⟨0, B.b0⟩
    | succ v ih =>
      intro hv
      obtain ⟨x, hx⟩ := ih (by omega)
      obtain ⟨x', hx', _⟩ := S _ (.on v (by omega)) x hx
      exact ⟨x', hx'⟩
  refine ⟨fun v => ((br[v]?).getD none).getD 0, fun v hv => ?_, ?_⟩
  · obtain ⟨x, hx⟩ := all v hv
    show br[v]? = some (some (((br[v]?).getD none).getD 0))
    rw [hx]; rfl
  · have get : ∀ {v : Nat} {x : Int}, br[v]? = some (some x) → ((br[v]?).getD none).getD 0 = x := fun h => by rw [h]; rfl
    refine ⟨get B.b0, B.lc, Feas.of_steps fun st h => ?_, fun v st h => ?_, fun v hv => ?_⟩
    · obtain ⟨y, hy⟩ := all st.s h.le.1
      obtain ⟨x, hx, le⟩ := S st h y hy
      show ((br[st.s]?).getD none).getD 0 + st.m ≤ ((br[st.e]?).getD none).getD 0
      rw [get hy, get hx]
      exact le
    · obtain ⟨a, b, x, y, hx, hy, le⟩ := B.cm_ok v st h
      obtain ⟨x', hx', le'⟩ := S st a y hy
      rw [b, hx] at hx'
      cases hx'
      refine ⟨a, b, ?_⟩
      show ((br[v]?).getD none).getD 0 = ((br[st.s]?).getD none).getD 0 + st.m
      rw [get hx, get hy]
      omega
    · obtain ⟨x, hx⟩ := all v hv
      exact B.tr v x hx

/-! ### one room more, led along came -/
structure Led (N : Net) (id : Nat → Int) (tk : Nat → Bool) (ψ : Nat → Int) (cm : List (Option Stp)) (k : Int) (d v : Nat) (id' : Nat → Int) (tk' : Nat → Bool) : Prop where
  tr : Tr cm d v
  vL : v ≤ N.L
  feas : N.Feas ψ id' tk'
  flow : ∀ j, j < N.L → 0 ≤ id' j ∧ id' j + N.cover tk' j = k + (if v ≤ j then 1 else 0)
  keepT : ∀ st, N.IsStep id tk st → 2 ≤ st.kd → ∀ d', Tr cm d' st.e → d' ≤ d → tk' st.ix = tk st.ix
  keepI : ∀ j, j < N.L → 0 < id j → ∀ d', Tr cm d' j → d' ≤ d → id j ≤ id' j
theorem Led.start {id : Nat → Int} {tk : Nat → Bool} {ψ : Nat → Int} {cm : List (Option Stp)} {k : Int} (D : N.Done id tk ψ cm) (hf : N.Flow id tk k) : ∃ d, N.Led id tk ψ cm k d N.L id tk := by
  obtain ⟨d, t⟩ := D.tr N.L (Nat.le_refl _)
  refine ⟨d, t, Nat.le_refl _, D.feas, fun j hj => ?_, fun _ _ _ _ _ _ => rfl, fun _ _ _ _ _ _ => Int.le_refl _⟩
  obtain ⟨a, b⟩ := hf j hj
  refine ⟨a, ?_⟩
  rw [if_neg (by omega)]
  omega
theorem Led.end_ {id : Nat → Int} {tk : Nat → Bool} {ψ : Nat → Int} {cm : List (Option Stp)} {k : Int} {d : Nat} {id' : Nat → Int} {tk' : Nat → Bool} (l : N.Led id tk ψ cm k d 0 id' tk') : N.Flow id' tk' (k + 1) ∧ N.Feas ψ id' tk' :=
  ⟨fun j hj => by have := l.flow j hj; rwa [if_pos (Nat.zero_le _)] at this, l.feas⟩
def setF {α : Type} (f : Nat → α) (i : Nat) (x : α) : Nat → α := fun j => if j = i then x else f j
theorem cover_set {tk : Nat → Bool} {i : Nat} (hi : i < N.n) (b : Bool) (j : Nat) (h : tk i = !b) : N.cover (setF tk i b) j = N.cover tk j + (if b = true then N.cov i j else - N.cov i j) := by
  unfold cover
  rw [sumTo_upd (g := fun a => if tk a = true then N.cov a j else 0) hi fun a _ ha => by rw [show setF tk i b a = tk a from if_neg ha]]
  rw [show setF tk i b i = b from if_pos rfl, h]
  cases b <;> simp
theorem Led.turn {id : Nat → Int} {tk : Nat → Bool} {ψ : Nat → Int} {cm : List (Option Stp)} {k : Int} {d v : Nat} {id' : Nat → Int} {tk' : Nat → Bool} (D : N.Done id tk ψ cm) (l : N.Led id tk ψ cm k d v id' tk') (hv : v ≠ 0) :
    ∃ st d', cm[v]? = some (some st) ∧ N.IsStep id tk st ∧ st.e = v ∧ d = d' + 1 ∧
      ((st.kd < 2 ∧ (st.kd = 0 ∨ st.kd = 1) ∧ st.ix < N.L ∧ N.Led id tk ψ cm k d' st.s (setF id' st.ix (id' st.ix + (1 - 2 * st.kd))) tk') ∨
       (¬ st.kd < 2 ∧ st.ix < N.n ∧ N.Led id tk ψ cm k d' st.s id' (setF tk' st.ix (decide (st.kd = 2))))) := by
  obtain ⟨t, vL, feas, flow, keepT, keepI⟩ := l
  cases t with
  | root => exact absurd rfl hv
  | @step d' _ st h _ t =>
    obtain ⟨is, e, tight⟩ := D.cm_ok v st h
    refine ⟨st, d', h, is, e, rfl, ?_⟩
    have tv : Tr cm (d' + 1) v := .step h hv t
    have sL := is.le.1
    -- what is still ahead is another step
    have other : ∀ st2, N.IsStep id tk st2 → ∀ d2, Tr cm d2 st2.e → d2 ≤ d' → st2.e ≠ v := fun st2 _ d2 t2 le q => by
      rw [q] at t2
      have := t2.det tv
      omega
    cases is with
    | on j hj =>
      refine .inl ⟨(by show (0 : Int) < 2; decide), .inl rfl, hj, t, sL, ⟨feas.up, fun a ha hpos => ?_, feas.no, feas.yes⟩, fun a ha => ?_, fun st2 h2 h2k d2 t2 le => keepT st2 h2 h2k d2 t2 (Nat.le_succ_of_le le), fun a ha hpos d2 t2 le => ?_⟩
      · by_cases q : a = j
        · subst q
          have e' : a + 1 = v := e
          have t' : ψ v = ψ a + 0 := tight
          rw [e', t']; omega
        · have : setF id' j (id' j + (1 - 2 * 0)) a = id' a := if_neg q
          exact feas.back a ha (by rw [← this]; exact hpos)
      · have fl := flow a ha
        have e' : j + 1 = v := e
        show 0 ≤ setF id' j (id' j + (1 - 2 * 0)) a ∧ setF id' j (id' j + (1 - 2 * 0)) a + _ = k + if j ≤ a then 1 else 0
        by_cases q : a = j
        · subst q
          rw [show setF id' a (id' a + (1 - 2 * 0)) a = id' a + (1 - 2 * 0) from if_pos rfl]
          rw [if_neg (by omega)] at fl
          rw [if_pos (Nat.le_refl _)]
          omega
        · rw [show setF id' j (id' j + (1 - 2 * 0)) a = id' a from if_neg q]
          refine ⟨fl.1, ?_⟩
          rw [fl.2]
          by_cases z : v ≤ a
          · rw [if_pos z, if_pos (by omega)]
          · rw [if_neg z, if_neg (by omega)]
      · have := keepI a ha hpos d2 t2 (Nat.le_succ_of_le le)
        by_cases q : a = j
        · subst q
          rw [show setF id' a (id' a + (1 - 2 * 0)) a = id' a + (1 - 2 * 0) from if_pos rfl]
          omega
        · rw [show setF id' j (id' j + (1 - 2 * 0)) a = id' a from if_neg q]
          exact this
    | off j hj hpos =>
      have e' : j = v := e
      subst e'
      have kj := keepI j hj hpos (d' + 1) tv (Nat.le_refl _)
      refine .inl ⟨(by show (1 : Int) < 2; decide), .inr rfl, hj, t, sL, ⟨feas.up, fun a ha hp => ?_, feas.no, feas.yes⟩, fun a ha => ?_, fun st2 h2 h2k d2 t2 le => keepT st2 h2 h2k d2 t2 (Nat.le_succ_of_le le), fun a ha hp d2 t2 le => ?_⟩
      · by_cases q : a = j
        · subst q
          exact feas.back a ha (by omega)
        · have : setF id' j (id' j + (1 - 2 * 1)) a = id' a := if_neg q
          exact feas.back a ha (by rw [← this]; exact hp)
      · have fl := flow a ha
        show 0 ≤ setF id' j (id' j + (1 - 2 * 1)) a ∧ setF id' j (id' j + (1 - 2 * 1)) a + _ = k + if j + 1 ≤ a then 1 else 0
        by_cases q : a = j
        · subst q
          rw [show setF id' a (id' a + (1 - 2 * 1)) a = id' a + (1 - 2 * 1) from if_pos rfl]
          rw [if_pos (Nat.le_refl _)] at fl
          rw [if_neg (by omega)]
          omega
        · rw [show setF id' j (id' j + (1 - 2 * 1)) a = id' a from if_neg q]
          refine ⟨fl.1, ?_⟩
          rw [fl.2]
          by_cases z : j ≤ a
          · rw [if_pos z, if_pos (by omega)]
          · rw [if_neg z, if_neg (by omega)]
      · have := keepI a ha hp d2 t2 (Nat.le_succ_of_le le)
        by_cases q : a = j
        · subst q
          have := t2.det tv
          omega
        · rw [show setF id' j (id' j + (1 - 2 * 1)) a = id' a from if_neg q]
          exact this
    | take i hi ht =>
      have e' : N.ei i = v := e
      have now : tk' i = false := by
        have q := keepT _ (.take i hi ht) (show (2 : Int) ≤ 2 by decide) (d' + 1) (by rw [show (Stp.e ⟨N.fi i, N.ei i, N.p i, 2, i⟩) = v from e']; exact tv) (Nat.le_refl _)
        exact q.trans ht
      have tight' : ψ (N.ei i) = ψ (N.fi i) + N.p i := by rw [e']; exact tight
      refine .inr ⟨(by show ¬ (2 : Int) < 2; decide), hi, t, sL, ⟨feas.up, feas.back, fun a ha hn => ?_, fun a ha hy => ?_⟩, fun a ha => ?_, fun st2 h2 h2k d2 t2 le => ?_, fun a ha hp d2 t2 le => keepI a ha hp d2 t2 (Nat.le_succ_of_le le)⟩
      · by_cases q : a = i
        · subst q
          have : setF tk' a (decide ((2 : Int) = 2)) a = true := if_pos rfl
          rw [show setF tk' (Stp.ix ⟨N.fi a, N.ei a, N.p a, 2, a⟩) (decide ((Stp.kd ⟨N.fi a, N.ei a, N.p a, 2, a⟩) = 2)) a = true from this] at hn
          cases hn
        · exact feas.no a ha ((show setF tk' i (decide ((2 : Int) = 2)) a = tk' a from if_neg q).symm.trans hn)
      · by_cases q : a = i
        · subst q
          omega
        · exact feas.yes a ha ((show setF tk' i (decide ((2 : Int) = 2)) a = tk' a from if_neg q).symm.trans hy)
      · have fl := flow a ha
        refine ⟨fl.1, ?_⟩
        show id' a + N.cover (setF tk' i (decide ((2 : Int) = 2))) a = k + if N.fi i ≤ a then 1 else 0
        rw [show decide ((2 : Int) = 2) = true from rfl, cover_set hi true a (by rw [now]; rfl), if_pos rfl]
        have := N.lt i hi
        unfold cov
        rw [← e'] at fl
        by_cases z : N.ei i ≤ a
        · rw [if_pos z] at fl
          rw [if_neg (by omega), if_pos (by omega)]
          omega
        · rw [if_neg z] at fl
          by_cases z2 : N.fi i ≤ a
          · rw [if_pos ⟨z2, by omega⟩, if_pos z2]; omega
          · rw [if_neg (by omega), if_neg z2]; omega
      · have old := keepT st2 h2 h2k d2 t2 (Nat.le_succ_of_le le)
        have ne := other st2 h2 d2 t2 le
        have : st2.ix ≠ i := fun q => by
          cases h2 with
          | on j hj => exact absurd (show (2 : Int) ≤ 0 from h2k) (by decide)
          | off j hj _ => exact absurd (show (2 : Int) ≤ 1 from h2k) (by decide)
          | take i2 _ _ =>
            have q : i2 = i := q
            exact ne (by rw [q]; exact e')
          | give i2 _ ht2 =>
            have q : i2 = i := q
            rw [q, ht] at ht2
            cases ht2
        exact (show setF tk' i (decide ((2 : Int) = 2)) st2.ix = tk' st2.ix from if_neg this).trans old
    | give i hi ht =>
      have e' : N.fi i = v := e
      have now : tk' i = true := by
        have q := keepT _ (.give i hi ht) (show (2 : Int) ≤ 3 by decide) (d' + 1) (by rw [show (Stp.e ⟨N.ei i, N.fi i, -N.p i, 3, i⟩) = v from e']; exact tv) (Nat.le_refl _)
        exact q.trans ht
      have tight' : ψ (N.fi i) = ψ (N.ei i) + -N.p i := by rw [e']; exact tight
      refine .inr ⟨(by show ¬ (3 : Int) < 2; decide), hi, t, sL, ⟨feas.up, feas.back, fun a ha hn => ?_, fun a ha hy => ?_⟩, fun a ha => ?_, fun st2 h2 h2k d2 t2 le => ?_, fun a ha hp d2 t2 le => keepI a ha hp d2 t2 (Nat.le_succ_of_le le)⟩
      · by_cases q : a = i
        · subst q
          omega
        · exact feas.no a ha ((show setF tk' i (decide ((3 : Int) = 2)) a = tk' a from if_neg q).symm.trans hn)
      · by_cases q : a = i
        · subst q
          have : setF tk' a (decide ((3 : Int) = 2)) a = false := if_pos rfl
          rw [show setF tk' (Stp.ix ⟨N.ei a, N.fi a, -N.p a, 3, a⟩) (decide ((Stp.kd ⟨N.ei a, N.fi a, -N.p a, 3, a⟩) = 2)) a = false from this] at hy
          cases hy
        · exact feas.yes a ha ((show setF tk' i (decide ((3 : Int) = 2)) a = tk' a from if_neg q).symm.trans hy)
      · have fl := flow a ha
        refine ⟨fl.1, ?_⟩
        show id' a + N.cover (setF tk' i (decide ((3 : Int) = 2))) a = k + if N.ei i ≤ a then 1 else 0
        rw [show decide ((3 : Int) = 2) = false from rfl, cover_set hi false a (by rw [now]; rfl), if_neg (by decide)]
        have := N.lt i hi
        unfold cov
        rw [← e'] at fl
        by_cases z : N.ei i ≤ a
        · rw [if_pos (by omega)] at fl
          rw [if_neg (by omega), if_pos z]
          omega
        · rw [if_neg z]
          by_cases z2 : N.fi i ≤ a
          · rw [if_pos z2] at fl
            rw [if_pos ⟨z2, by omega⟩]; omega
          · rw [if_neg z2] at fl
            rw [if_neg (by omega)]; omega
      · have old := keepT st2 h2 h2k d2 t2 (Nat.le_succ_of_le le)
        have ne := other st2 h2 d2 t2 le
        have : st2.ix ≠ i := fun q => by
          cases h2 with
          | on j hj => exact absurd (show (2 : Int) ≤ 0 from h2k) (by decide)
          | off j hj _ => exact absurd (show (2 : Int) ≤ 1 from h2k) (by decide)
          | take i2 _ ht2 =>
            have q : i2 = i := q
            rw [q, ht] at ht2
            cases ht2
          | give i2 _ _ =>
            have q : i2 = i := q
            exact ne (by rw [q]; exact e')
        exact (show setF tk' i (decide ((3 : Int) = 2)) st2.ix = tk' st2.ix from if_neg this).trans old
end Net
end Spn
namespace Spn
/-! ### requests, choices, tolls, as lists -/
abbrev Rq := Int × Int × Int
def getR (rs : List Rq) (a : Int) : Rq := rs.getD a.toNat (0, 0, 0)
def covers (r : Rq) (d : Int) : Bool := decide (r.1 ≤ d) && decide (d ≤ r.2.1)
def OkR (rs : List Rq) : Prop := ∀ r ∈ rs, r.1 ≤ r.2.1 ∧ 0 ≤ r.2.2
def choiceFrom (n : Int) : Int → List Int → Bool
  | _, [] => true
  | last, a :: r => decide (last < a ∧ a < n) && choiceFrom n a r
def isChoice (n : Nat) (s : List Int) : Bool := choiceFrom n (-1) s
def forDay (rs : List Rq) (s : List Int) (d : Int) : List Int := s.filter fun a => covers (getR rs a) d
def fits (rs : List Rq) (rooms : Int) (s : List Int) : Bool := s.all fun a => decide (((forDay rs s (getR rs a).1).length : Int) ≤ rooms)
def risingT : List (Int × Int) → Bool
  | a :: b :: r => decide (a.1 < b.1) && risingT (b :: r)
  | _ => true
def areTolls (τ : List (Int × Int)) : Bool := (τ.all fun t => decide (0 ≤ t.2)) && risingT τ
def worth (rs : List Rq) (s : List Int) : Int := (s.map fun a => (getR rs a).2.2).sum
def tollOf (τ : List (Int × Int)) (r : Rq) : Int := ((τ.filter fun t => covers r t.1).map (·.2)).sum
def tollSum (τ : List (Int × Int)) : Int := (τ.map (·.2)).sum
def gainOf (τ : List (Int × Int)) (r : Rq) : Int := max 0 (r.2.2 - tollOf τ r)
def bound (rs : List Rq) (rooms : Int) (τ : List (Int × Int)) : Int := rooms * tollSum τ + (rs.map (gainOf τ)).sum
def isBest (rs : List Rq) (rooms : Int) (s : List Int) (τ : List (Int × Int)) : Bool := isChoice rs.length s && fits rs rooms s && areTolls τ && decide (worth rs s = bound rs rooms τ)

theorem isBest_iff {rs : List Rq} {rooms : Int} {s : List Int} {τ : List (Int × Int)} : isBest rs rooms s τ = true ↔ isChoice rs.length s = true ∧ fits rs rooms s = true ∧ areTolls τ = true ∧ worth rs s = bound rs rooms τ := by
  unfold isBest
  simp [Bool.and_eq_true, and_assoc]

theorem choiceFrom_nat {n : Nat} : ∀ {s : List Int} {last : Int}, -1 ≤ last → choiceFrom n last s = true → ∃ ks : List Nat, s = ks.map Int.ofNat ∧ ks.Pairwise (· < ·) ∧ ∀ k ∈ ks, last < k ∧ k < n
  | [], last, _, _ => ⟨[], rfl, .nil, fun _ h => nomatch h⟩
  | a :: r, last, hl, h => by
    unfold choiceFrom at h
    obtain ⟨h1, h2⟩ := Bool.and_eq_true_iff.mp h
    obtain ⟨h3, h4⟩ := of_decide_eq_true h1
    obtain ⟨ks, e, pw, hb⟩ := choiceFrom_nat (s := r) (last := a) (by omega) h2
    refine ⟨a.toNat :: ks, ?_, .cons (fun k hk => ?_) pw, fun k hk => ?_⟩
    · rw [List.map_cons, ← e]
      congr 1
      exact (Int.toNat_of_nonneg (by omega)).symm
    · have := (hb k hk).1
      omega
    · rcases List.mem_cons.mp hk with rfl | hk
      · omega
      · have := hb k hk
        omega
theorem choice_nat {n : Nat} {s : List Int} (h : isChoice n s = true) : ∃ ks : List Nat, s = ks.map Int.ofNat ∧ ks.Pairwise (· < ·) ∧ ∀ k ∈ ks, k < n := by
  obtain ⟨ks, e, pw, hb⟩ := choiceFrom_nat (n := n) (Int.le_refl _) h
  exact ⟨ks, e, pw, fun k hk => (hb k hk).2⟩
theorem nat_choiceFrom {n : Nat} : ∀ {ks : List Nat} {last : Int}, ks.Pairwise (· < ·) → (∀ k ∈ ks, last < (k : Int) ∧ k < n) → choiceFrom n last (ks.map Int.ofNat) = true
  | [], _, _, _ => rfl
  | k :: r, last, pw, hb => by
    cases pw with
    | cons h1 pw =>
      obtain ⟨a, b⟩ := hb k List.mem_cons_self
      rw [List.map_cons]
      unfold choiceFrom
      have ih := nat_choiceFrom (n := n) (ks := r) (last := (k : Int)) pw fun j hj => ⟨by have := h1 j hj; omega, (hb j (List.mem_cons_of_mem _ hj)).2⟩
      rw [Bool.and_eq_true_iff]
      exact ⟨decide_eq_true ⟨a, by show (k : Int) < n; omega⟩, ih⟩
theorem nat_choice {n : Nat} {ks : List Nat} (pw : ks.Pairwise (· < ·)) (hb : ∀ k ∈ ks, k < n) : isChoice n (ks.map Int.ofNat) = true := nat_choiceFrom pw fun k hk => ⟨by omega, hb k hk⟩

/-! ### a rising list of counts, summed by index -/
theorem sum_rising {n : Nat} (g : Nat → Int) : ∀ {ks : List Nat}, ks.Pairwise (· < ·) → (∀ k ∈ ks, k < n) → (ks.map g).sum = sumTo n fun i => if i ∈ ks then g i else 0
  | [], _, _ => by simp [sumTo_zero]
  | k :: r, pw, hb => by
    cases pw with
    | cons h1 pw =>
      have ih := sum_rising g (ks := r) pw fun j hj => hb j (List.mem_cons_of_mem _ hj)
      have hk : k ∉ r := fun h => Nat.lt_irrefl _ (h1 k h)
      rw [List.map_cons, List.sum_cons, ih, sumTo_upd (f := fun i => if i ∈ k :: r then g i else 0) (g := fun i => if i ∈ r then g i else 0) (hb k List.mem_cons_self) fun j _ hj => by simp [hj]]
      simp [hk]
      omega
theorem len_rising {n : Nat} {ks : List Nat} (pw : ks.Pairwise (· < ·)) (hb : ∀ k ∈ ks, k < n) : (ks.length : Int) = sumTo n fun i => if i ∈ ks then 1 else 0 := by
  rw [← sum_rising (fun _ => 1) pw hb]
  have : ∀ l : List Nat, (l.map fun _ => (1 : Int)).sum = l.length := fun l => by
    induction l with
    | nil => rfl
    | cons a r ih => rw [List.map_cons, List.sum_cons, ih, List.length_cons]; omega
  exact (this ks).symm
theorem forDay_nat (rs : List Rq) (ks : List Nat) (d : Int) : forDay rs (ks.map Int.ofNat) d = (ks.filter fun k => covers (rs.getD k (0, 0, 0)) d).map Int.ofNat := by
  unfold forDay
  rw [List.filter_map]
  rfl
theorem sum_list (f : Rq → Int) : ∀ rs : List Rq, (rs.map f).sum = sumTo rs.length fun i => f (rs.getD i (0, 0, 0)) := by
  intro rs
  have aux : ∀ (l : List Rq) (m : Nat), m ≤ l.length → ((l.take m).map f).sum = sumTo m fun i => f (l.getD i (0, 0, 0)) := by
    intro l m
    induction m with
    | zero => intro _; simp [sumTo]
    | succ m ih =>
      intro h
      have e : l[m]? = some (l[m]'(by omega)) := List.getElem?_eq_getElem (by omega : m < l.length)
      rw [sumTo, ← ih (by omega), List.take_succ, List.map_append, List.sum_append, List.getD_eq_getElem?_getD, e]
      simp
  have := aux rs rs.length (Nat.le_refl _)
  rwa [List.take_length] at this
theorem worth_nat (rs : List Rq) {ks : List Nat} (pw : ks.Pairwise (· < ·)) (hb : ∀ k ∈ ks, k < rs.length) : worth rs (ks.map Int.ofNat) = sumTo rs.length fun i => if i ∈ ks then (rs.getD i (0, 0, 0)).2.2 else 0 := by
  rw [← sum_rising (fun i => (rs.getD i (0, 0, 0)).2.2) pw hb]
  unfold worth
  rw [List.map_map]
  rfl

/-! ### how many ask for a day -/
def many (rs : List Rq) (ks : List Nat) (d : Int) : Nat := (ks.filter fun k => covers (rs.getD k (0, 0, 0)) d).length
/-- the one that begins last, of those that ask for a day -/
theorem latest (rs : List Rq) : ∀ {l : List Nat}, l ≠ [] → ∃ k ∈ l, ∀ j ∈ l, (rs.getD j (0, 0, 0)).1 ≤ (rs.getD k (0, 0, 0)).1
  | [], h => absurd rfl h
  | [a], _ => ⟨a, List.mem_cons_self, fun j hj => by have : j = a := by simpa using hj
                                                     subst this; exact Int.le_refl _⟩
  | a :: b :: r, _ => by
    obtain ⟨k, hk, h⟩ := latest rs (l := b :: r) (by simp)
    by_cases c : (rs.getD a (0, 0, 0)).1 ≤ (rs.getD k (0, 0, 0)).1
    · refine ⟨k, List.mem_cons_of_mem _ hk, fun j hj => ?_⟩
      rcases List.mem_cons.mp hj with rfl | hj
      · exact c
      · exact h j hj
    · refine ⟨a, List.mem_cons_self, fun j hj => ?_⟩
      rcases List.mem_cons.mp hj with rfl | hj
      · exact Int.le_refl _
      · have := h j hj
        omega
theorem covers_iff {r : Rq} {d : Int} : covers r d = true ↔ r.1 ≤ d ∧ d ≤ r.2.1 := by
  unfold covers
  rw [Bool.and_eq_true_iff, decide_eq_true_iff, decide_eq_true_iff]
theorem many_le {rs : List Rq} {ks : List Nat} {rooms : Int} (h0 : 0 ≤ rooms) (hfit : fits rs rooms (ks.map Int.ofNat) = true) (d : Int) : (many rs ks d : Int) ≤ rooms := by
  unfold many
  by_cases e : (ks.filter fun k => covers (rs.getD k (0, 0, 0)) d) = []
  · rw [e]; exact h0
  · obtain ⟨k, hk, hl⟩ := latest rs e
    obtain ⟨hk1, hk2⟩ := List.mem_filter.mp hk
    have q := List.all_eq_true.mp hfit (Int.ofNat k) (List.mem_map.mpr ⟨k, hk1, rfl⟩)
    have q := of_decide_eq_true q
    rw [forDay_nat, List.length_map] at q
    refine Int.le_trans ?_ q
    have hc := covers_iff.mp hk2
    have sub : (ks.filter fun k => covers (rs.getD k (0, 0, 0)) d).length ≤ (ks.filter fun j => covers (rs.getD j (0, 0, 0)) (getR rs (Int.ofNat k)).1).length := by
      have : (ks.filter fun j => covers (rs.getD j (0, 0, 0)) d) = ((ks.filter fun j => covers (rs.getD j (0, 0, 0)) (getR rs (Int.ofNat k)).1).filter fun j => covers (rs.getD j (0, 0, 0)) d) := by
        rw [List.filter_filter]
        refine List.filter_congr fun j hj => ?_
        cases c : covers (rs.getD j (0, 0, 0)) d with
        | false => rfl
        | true =>
          have a := hl j (List.mem_filter.mpr ⟨hj, c⟩)
          have b := covers_iff.mp c
          have : covers (rs.getD j (0, 0, 0)) (getR rs (Int.ofNat k)).1 = true := covers_iff.mpr ⟨a, by
            show (rs.getD k (0, 0, 0)).1 ≤ _
            omega⟩
          rw [this]; rfl
      rw [this]
      exact List.length_filter_le _ _
    omega

/-! ### weak: no choice that fits is worth more than the tolls say -/
theorem tollOf_cons (t : Int × Int) (τ : List (Int × Int)) (r : Rq) : tollOf (t :: τ) r = (if covers r t.1 = true then t.2 else 0) + tollOf τ r := by
  unfold tollOf
  rw [List.filter_cons]
  split
  · simp
  · simp
theorem toll_swap (rs : List Rq) {n : Nat} {ks : List Nat} (pw : ks.Pairwise (· < ·)) (hb : ∀ k ∈ ks, k < n) : ∀ τ : List (Int × Int), (sumTo n fun i => if i ∈ ks then tollOf τ (rs.getD i (0, 0, 0)) else 0) = (τ.map fun t => t.2 * (many rs ks t.1 : Int)).sum
  | [] => by
    rw [sumTo_congr (g := fun _ => 0) fun i _ => by unfold tollOf; simp, sumTo_zero]; rfl
  | t :: τ => by
    rw [List.map_cons, List.sum_cons, ← toll_swap rs pw hb τ]
    have : (many rs ks t.1 : Int) = sumTo n fun i => if i ∈ ks then (if covers (rs.getD i (0, 0, 0)) t.1 = true then 1 else 0) else 0 := by
      unfold many
      rw [len_rising (n := n) (pw.filter _) fun k hk => hb k (List.mem_filter.mp hk).1]
      refine sumTo_congr fun i _ => ?_
      by_cases a : i ∈ ks
      · rw [if_pos a]
        by_cases c : covers (rs.getD i (0, 0, 0)) t.1 = true
        · rw [if_pos c, if_pos (List.mem_filter.mpr ⟨a, c⟩)]
        · have z : ¬ (i ∈ ks.filter fun k => covers (rs.getD k (0, 0, 0)) t.1) := fun z => c (List.mem_filter.mp z).2
          rw [if_neg c, if_neg z]
      · have z : ¬ (i ∈ ks.filter fun k => covers (rs.getD k (0, 0, 0)) t.1) := fun z => a (List.mem_filter.mp z).1
        rw [if_neg a, if_neg z]
    rw [this, ← sumTo_mul, ← sumTo_add]
    refine sumTo_congr fun i _ => ?_
    rw [tollOf_cons]
    by_cases a : i ∈ ks
    · rw [if_pos a, if_pos a, if_pos a]
      split <;> omega
    · rw [if_neg a, if_neg a, if_neg a]
      omega
theorem sum_le_of {α : Type} {f g : α → Int} : ∀ {l : List α}, (∀ a ∈ l, f a ≤ g a) → (l.map f).sum ≤ (l.map g).sum
  | [], _ => Int.le_refl _
  | a :: r, h => by
    have h1 := h a List.mem_cons_self
    have h2 := sum_le_of (l := r) fun b hb => h b (List.mem_cons_of_mem _ hb)
    simp only [List.map_cons, List.sum_cons]
    omega
theorem sum_mul_left (c : Int) (l : List (Int × Int)) : (l.map fun t => t.2 * c).sum = c * tollSum l := by
  unfold tollSum
  induction l with
  | nil => simp
  | cons a r ih => simp only [List.map_cons, List.sum_cons, ih, Int.mul_add]; rw [Int.mul_comm a.2 c]
theorem weak {rs : List Rq} {rooms : Int} {s : List Int} {τ : List (Int × Int)} (h0 : 0 ≤ rooms) (hc : isChoice rs.length s = true) (hf : fits rs rooms s = true) (hτ : ∀ t ∈ τ, 0 ≤ t.2) : worth rs s ≤ bound rs rooms τ := by
  obtain ⟨ks, rfl, pw, hb⟩ := choice_nat hc
  rw [worth_nat rs pw hb]
  unfold bound
  rw [sum_list]
  have a : (sumTo rs.length fun i => if i ∈ ks then (rs.getD i (0, 0, 0)).2.2 else 0) ≤ sumTo rs.length fun i => (if i ∈ ks then tollOf τ (rs.getD i (0, 0, 0)) else 0) + gainOf τ (rs.getD i (0, 0, 0)) := sumTo_le fun i _ => by
    unfold gainOf
    rw [Int.max_def]
    split <;> split <;> omega
  rw [sumTo_add, toll_swap rs pw hb] at a
  have b : (τ.map fun t => t.2 * (many rs ks t.1 : Int)).sum ≤ (τ.map fun t => t.2 * rooms).sum := sum_le_of fun t ht => Int.mul_le_mul_of_nonneg_left (many_le h0 hf t.1) (hτ t ht)
  rw [sum_mul_left] at b
  omega
theorem areTolls_nonneg {τ : List (Int × Int)} (h : areTolls τ = true) : ∀ t ∈ τ, 0 ≤ t.2 := fun t ht => by
  unfold areTolls at h
  exact of_decide_eq_true (List.all_eq_true.mp (Bool.and_eq_true_iff.mp h).1 t ht)
theorem best_ge {rs : List Rq} {rooms : Int} {s s' : List Int} {τ : List (Int × Int)} (h0 : 0 ≤ rooms) (hb : isBest rs rooms s τ = true) (hc : isChoice rs.length s' = true) (hf : fits rs rooms s' = true) : worth rs s' ≤ worth rs s := by
  obtain ⟨_, _, a, e⟩ := isBest_iff.mp hb
  rw [e]
  exact weak h0 hc hf (areTolls_nonneg a)
theorem best_unique {rs : List Rq} {rooms : Int} {s s' : List Int} {τ τ' : List (Int × Int)} (h0 : 0 ≤ rooms) (hb : isBest rs rooms s τ = true) (hb' : isBest rs rooms s' τ' = true) : worth rs s = worth rs s' := by
  obtain ⟨a, b, _, _⟩ := isBest_iff.mp hb
  obtain ⟨a', b', _, _⟩ := isBest_iff.mp hb'
  exact Int.le_antisymm (best_ge h0 hb' a b) (best_ge h0 hb a' b')

/-! ### from the net to the answer -/
/-- the net told by a list of days and requests -/
structure NetOf (N : Net) (rs : List Rq) (ds : Nat → Int) : Prop where
  n : N.n = rs.length
  up : ∀ i j, i < j → j ≤ N.L → ds i < ds j
  f : ∀ i, i < N.n → ds (N.fi i) = (rs.getD i (0, 0, 0)).1
  e : ∀ i, i < N.n → ds (N.ei i) = (rs.getD i (0, 0, 0)).2.1 + 1
  p : ∀ i, i < N.n → N.p i = (rs.getD i (0, 0, 0)).2.2
def takenOf (n : Nat) (tk : Nat → Bool) : List Int := ((List.range n).filter tk).map Int.ofNat
def tollsOf (L : Nat) (ds φ : Nat → Int) : List (Int × Int) := ((List.range L).filter fun j => decide (φ j < φ (j + 1))).map fun j => (ds j, φ (j + 1) - φ j)
theorem NetOf.cov {N : Net} {rs : List Rq} {ds : Nat → Int} (h : NetOf N rs ds) {i j : Nat} (hi : i < N.n) (hj : j < N.L) : covers (rs.getD i (0, 0, 0)) (ds j) = decide (N.fi i ≤ j ∧ j < N.ei i) := by
  have mono : ∀ a b, a ≤ N.L → b ≤ N.L → (ds a ≤ ds b ↔ a ≤ b) := fun a b ha hb => by
    rcases Nat.lt_trichotomy a b with q | q | q
    · have := h.up a b q hb
      omega
    · subst q; omega
    · have := h.up b a q ha
      omega
  have l1 := N.lt i hi
  have l2 := N.le i hi
  have m1 := mono (N.fi i) j (by omega) (by omega)
  have m2 := mono (N.ei i) j (by omega) (by omega)
  rw [h.f i hi] at m1
  rw [h.e i hi] at m2
  rw [Bool.eq_iff_iff, covers_iff, decide_eq_true_iff]
  omega
theorem pw_range (n : Nat) (p : Nat → Bool) : ((List.range n).filter p).Pairwise (· < ·) := List.Pairwise.filter _ List.pairwise_lt_range
theorem tollSum_of {L : Nat} {ds φ : Nat → Int} (h : ∀ j, j < L → φ j ≤ φ (j + 1)) : tollSum (tollsOf L ds φ) = φ L - φ 0 := by
  unfold tollSum tollsOf
  rw [List.map_map]
  have e := sum_rising (n := L) (fun j => φ (j + 1) - φ j) (pw_range L fun j => decide (φ j < φ (j + 1))) fun k hk => List.mem_range.mp (List.mem_filter.mp hk).1
  refine Eq.trans (show _ = _ from e) ?_
  rw [← sumTo_tele0 φ L]
  refine sumTo_congr fun j hj => ?_
  by_cases c : φ j < φ (j + 1)
  · rw [if_pos (List.mem_filter.mpr ⟨List.mem_range.mpr hj, decide_eq_true c⟩)]
  · have z : ¬ (j ∈ (List.range L).filter fun j => decide (φ j < φ (j + 1))) := fun z => c (of_decide_eq_true (List.mem_filter.mp z).2)
    rw [if_neg z]
    have := h j hj
    omega
theorem tollOf_of {N : Net} {rs : List Rq} {ds φ : Nat → Int} (h : NetOf N rs ds) (hu : ∀ j, j < N.L → φ j ≤ φ (j + 1)) {i : Nat} (hi : i < N.n) : tollOf (tollsOf N.L ds φ) (rs.getD i (0, 0, 0)) = φ (N.ei i) - φ (N.fi i) := by
  unfold tollOf tollsOf
  rw [List.filter_map, List.map_map]
  have e := sum_rising (n := N.L) (fun j => φ (j + 1) - φ j) ((pw_range N.L fun j => decide (φ j < φ (j + 1))).filter ((fun t : Int × Int => covers (rs.getD i (0, 0, 0)) t.1) ∘ fun j => (ds j, φ (j + 1) - φ j))) fun k hk => List.mem_range.mp (List.mem_filter.mp (List.mem_filter.mp hk).1).1
  refine Eq.trans (show _ = _ from e) ?_
  rw [← sumTo_tele φ (N.fi i) (N.ei i) (Nat.le_of_lt (N.lt i hi)) N.L (N.le i hi)]
  refine sumTo_congr fun j hj => ?_
  have c := h.cov hi hj
  by_cases a : N.fi i ≤ j ∧ j < N.ei i
  · rw [if_pos a]
    rw [decide_eq_true a] at c
    by_cases b : φ j < φ (j + 1)
    · rw [if_pos (List.mem_filter.mpr ⟨List.mem_filter.mpr ⟨List.mem_range.mpr hj, decide_eq_true b⟩, c⟩)]
    · have z : ¬ (j ∈ ((List.range N.L).filter fun j => decide (φ j < φ (j + 1))).filter ((fun t : Int × Int => covers (rs.getD i (0, 0, 0)) t.1) ∘ fun j => (ds j, φ (j + 1) - φ j))) := fun z => b (of_decide_eq_true (List.mem_filter.mp (List.mem_filter.mp z).1).2)
      rw [if_neg z]
      have := hu j hj
      omega
  · rw [if_neg a]
    rw [decide_eq_false a] at c
    rw [if_neg fun z => by
      have z2 : covers (rs.getD i (0, 0, 0)) (ds j) = true := (List.mem_filter.mp z).2
      rw [c] at z2
      cases z2]
theorem risingT_of {L : Nat} {ds : Nat → Int} (g : Nat → Int) (hup : ∀ i j, i < j → j ≤ L → ds i < ds j) : ∀ {ks : List Nat}, ks.Pairwise (· < ·) → (∀ k ∈ ks, k < L) → risingT (ks.map fun j => (ds j, g j)) = true
  | [], _, _ => rfl
  | [_], _, _ => rfl
  | a :: b :: r, pw, hb => by
    cases pw with
    | cons h1 pw =>
      have ih := risingT_of g hup (ks := b :: r) pw fun k hk => hb k (List.mem_cons_of_mem _ hk)
      show (decide (ds a < ds b) && risingT ((b :: r).map fun j => (ds j, g j))) = true
      rw [ih, decide_eq_true (hup a b (h1 b List.mem_cons_self) (Nat.le_of_lt (hb b (List.mem_cons_of_mem _ List.mem_cons_self))))]
      rfl
/-- THE CERTIFICATE -/
theorem cert {N : Net} {rs : List Rq} {ds φ id : Nat → Int} {tk : Nat → Bool} {k : Int} (h : NetOf N rs ds) (hf : N.Flow id tk k) (hφ : N.Feas φ id tk) : isBest rs k (takenOf N.n tk) (tollsOf N.L ds φ) = true := by
  have pw : ((List.range N.n).filter tk).Pairwise (· < ·) := pw_range N.n tk
  have hb : ∀ a ∈ (List.range N.n).filter tk, a < N.n := fun a ha => List.mem_range.mp (List.mem_filter.mp ha).1
  have hb' : ∀ a ∈ (List.range N.n).filter tk, a < rs.length := fun a ha => by rw [← h.n]; exact hb a ha
  have mem : ∀ a, a < N.n → (a ∈ (List.range N.n).filter tk ↔ tk a = true) := fun a ha => ⟨fun z => (List.mem_filter.mp z).2, fun z => List.mem_filter.mpr ⟨List.mem_range.mpr ha, z⟩⟩
  refine isBest_iff.mpr ⟨?_, ?_, ?_, ?_⟩
  · exact nat_choice pw hb'
  · refine List.all_eq_true.mpr fun z hz => ?_
    obtain ⟨a, ha, rfl⟩ := List.mem_map.mp hz
    refine decide_eq_true ?_
    have han := hb a ha
    have l1 := N.lt a han
    have l2 := N.le a han
    unfold takenOf
    rw [forDay_nat, List.length_map]
    show ((((List.range N.n).filter tk).filter fun k => covers (rs.getD k (0, 0, 0)) (rs.getD a (0, 0, 0)).1).length : Int) ≤ k
    rw [← h.f a han, len_rising (n := N.n) (pw.filter _) fun b hb2 => hb b (List.mem_filter.mp hb2).1]
    have fl := hf (N.fi a) (by omega)
    have e : (sumTo N.n fun i => if i ∈ ((List.range N.n).filter tk).filter (fun k => covers (rs.getD k (0, 0, 0)) (ds (N.fi a))) then (1 : Int) else 0) = N.cover tk (N.fi a) := by
      unfold Net.cover
      refine sumTo_congr fun i hi => ?_
      have c := h.cov hi (show N.fi a < N.L by omega)
      by_cases t : tk i = true
      · rw [if_pos t]
        unfold Net.cov
        by_cases q : N.fi i ≤ N.fi a ∧ N.fi a < N.ei i
        · rw [decide_eq_true q] at c
          rw [if_pos q, if_pos (List.mem_filter.mpr ⟨(mem i hi).mpr t, c⟩)]
        · rw [decide_eq_false q] at c
          rw [if_neg q, if_neg fun z => by
            have z2 : covers (rs.getD i (0, 0, 0)) (ds (N.fi a)) = true := (List.mem_filter.mp z).2
            rw [c] at z2
            cases z2]
      · rw [if_neg t, if_neg fun z => t ((mem i hi).mp (List.mem_filter.mp z).1)]
    rw [e]
    omega
  · unfold areTolls
    rw [Bool.and_eq_true_iff]
    refine ⟨List.all_eq_true.mpr fun t ht => ?_, ?_⟩
    · obtain ⟨j, hj, rfl⟩ := List.mem_map.mp ht
      have := of_decide_eq_true (List.mem_filter.mp hj).2
      refine decide_eq_true ?_
      show 0 ≤ φ (j + 1) - φ j
      omega
    · exact risingT_of (fun j => φ (j + 1) - φ j) h.up (pw_range N.L _) fun k hk => List.mem_range.mp (List.mem_filter.mp hk).1
  · unfold takenOf
    rw [worth_nat rs pw hb']
    unfold bound
    rw [tollSum_of hφ.up, sum_list, ← h.n]
    have s := Net.strong hf hφ
    have e1 : (sumTo N.n fun i => if i ∈ (List.range N.n).filter tk then (rs.getD i (0, 0, 0)).2.2 else 0) = sumTo N.n fun i => if tk i = true then N.p i else 0 := sumTo_congr fun i hi => by
      rw [h.p i hi]
      by_cases t : tk i = true
      · rw [if_pos t, if_pos ((mem i hi).mpr t)]
      · rw [if_neg t, if_neg fun z => t ((mem i hi).mp z)]
    have e2 : (sumTo N.n fun i => gainOf (tollsOf N.L ds φ) (rs.getD i (0, 0, 0))) = sumTo N.n (N.gain φ) := sumTo_congr fun i hi => by
      unfold gainOf Net.gain
      rw [tollOf_of h hφ.up hi, h.p i hi]
    rw [e1, e2, s]

/-! ### more of best choices -/
theorem best_nil (k : Int) : isBest [] k [] [] = true := by
  refine isBest_iff.mpr ⟨rfl, rfl, rfl, ?_⟩
  show (0 : Int) = k * 0 + 0
  omega
theorem choice_len {n : Nat} {s : List Int} (h : isChoice n s = true) : s.length ≤ n := by
  obtain ⟨ks, rfl, pw, hb⟩ := choice_nat h
  have e := len_rising pw hb
  have : (sumTo n fun i => if i ∈ ks then (1 : Int) else 0) ≤ sumTo n fun _ => 1 := sumTo_le fun i _ => by split <;> omega
  rw [sumTo_const] at this
  rw [List.length_map]
  omega
theorem fits_mono {rs : List Rq} {k k' : Int} {s : List Int} (hk : k ≤ k') (h : fits rs k s = true) : fits rs k' s = true :=
  List.all_eq_true.mpr fun a ha => decide_eq_true (Int.le_trans (of_decide_eq_true (List.all_eq_true.mp h a ha)) hk)
theorem fits_zero {rs : List Rq} (ok : OkR rs) {s : List Int} (hc : isChoice rs.length s = true) (h : fits rs 0 s = true) : s = [] := by
  obtain ⟨ks, rfl, pw, hb⟩ := choice_nat hc
  cases ks with
  | nil => rfl
  | cons a r =>
    exfalso
    have q := of_decide_eq_true (List.all_eq_true.mp h (Int.ofNat a) List.mem_cons_self)
    rw [forDay_nat, List.length_map] at q
    have ha := hb a List.mem_cons_self
    have g : rs.getD a (0, 0, 0) ∈ rs := by
      rw [List.getD_eq_getElem?_getD, List.getElem?_eq_getElem ha]
      exact List.getElem_mem ha
    have o := (ok _ g).1
    have m : a ∈ (a :: r).filter fun k => covers (rs.getD k (0, 0, 0)) (getR rs (Int.ofNat a)).1 := List.mem_filter.mpr ⟨List.mem_cons_self, covers_iff.mpr ⟨Int.le_refl _, o⟩⟩
    have := List.length_pos_of_mem m
    omega
/-- all requests -/
def every (n : Nat) : List Int := (List.range n).map Int.ofNat
theorem every_choice (n : Nat) : isChoice n (every n) = true := nat_choice List.pairwise_lt_range fun _ h => List.mem_range.mp h
theorem every_fits {rs : List Rq} {k : Int} (h : (rs.length : Int) ≤ k) : fits rs k (every rs.length) = true := List.all_eq_true.mpr fun a _ => decide_eq_true (by
  have : (forDay rs (every rs.length) (getR rs a).1).length ≤ (every rs.length).length := List.length_filter_le _ _
  unfold every at this ⊢
  rw [List.length_map, List.length_range] at this
  omega)
theorem every_worth (rs : List Rq) : worth rs (every rs.length) = (rs.map (·.2.2)).sum := by
  unfold every
  rw [worth_nat rs List.pairwise_lt_range fun _ h => List.mem_range.mp h, sum_list]
  exact sumTo_congr fun i hi => if_pos (List.mem_range.mpr hi)
theorem every_best {rs : List Rq} (ok : OkR rs) {k : Int} (h : (rs.length : Int) ≤ k) : isBest rs k (every rs.length) [] = true := by
  refine isBest_iff.mpr ⟨every_choice _, every_fits h, rfl, ?_⟩
  rw [every_worth]
  show _ = k * 0 + (rs.map (gainOf [])).sum
  have : ∀ l : List Rq, OkR l → (l.map (·.2.2)).sum = (l.map (gainOf [])).sum := fun l => by
    induction l with
    | nil => intro _; rfl
    | cons a r ih =>
      intro o
      have h1 := (o a List.mem_cons_self).2
      have h2 : gainOf [] a = a.2.2 := by
        show max 0 (a.2.2 - 0) = a.2.2
        rw [Int.max_def]; split <;> omega
      simp only [List.map_cons, List.sum_cons]
      rw [h2, ih fun r hr => o r (List.mem_cons_of_mem _ hr)]
  rw [this rs ok]
  omega
/-- by one room more the best worth grows by no more than by the room ahead -/
theorem worth_grow {rs : List Rq} {k : Int} {s s' s'' : List Int} {τ τ' τ'' : List (Int × Int)} (h0 : 0 ≤ k) (a : isBest rs k s τ = true) (b : isBest rs (k + 1) s' τ' = true) (c : isBest rs (k + 1 + 1) s'' τ'' = true) : worth rs s'' - worth rs s' ≤ worth rs s' - worth rs s := by
  obtain ⟨a1, a2, a3, a4⟩ := isBest_iff.mp a
  obtain ⟨b1, b2, b3, b4⟩ := isBest_iff.mp b
  obtain ⟨c1, c2, c3, c4⟩ := isBest_iff.mp c
  have u := weak (τ := τ') h0 a1 a2 (areTolls_nonneg b3)
  have v := weak (τ := τ') (by omega) c1 c2 (areTolls_nonneg b3)
  unfold bound at u v b4
  have e1 : (k + 1) * tollSum τ' = k * tollSum τ' + tollSum τ' := by rw [Int.add_mul, Int.one_mul]
  have e2 : (k + 1 + 1) * tollSum τ' = k * tollSum τ' + tollSum τ' + tollSum τ' := by rw [Int.add_mul, Int.add_mul, Int.one_mul]
  omega
theorem worth_up {rs : List Rq} {k : Int} {s s' : List Int} {τ τ' : List (Int × Int)} (h0 : 0 ≤ k) (a : isBest rs k s τ = true) (b : isBest rs (k + 1) s' τ' = true) : worth rs s ≤ worth rs s' := by
  obtain ⟨a1, a2, _, _⟩ := isBest_iff.mp a
  exact best_ge (by omega) b a1 (fits_mono (by omega) a2)
theorem worth_zero {rs : List Rq} (ok : OkR rs) {s : List Int} {τ : List (Int × Int)} (a : isBest rs 0 s τ = true) : s = [] := by
  obtain ⟨a1, a2, _, _⟩ := isBest_iff.mp a
  exact fits_zero ok a1 a2
end Spn

namespace Spn
/-! ### the net of a list of requests -/
def ixOf : List Int → Int → Nat
  | [], _ => 0
  | y :: r, x => if y = x then 0 else ixOf r x + 1
theorem ixOf_get {x : Int} : ∀ {ks : List Int}, x ∈ ks → ks[ixOf ks x]? = some x
  | y :: r, h => by
    unfold ixOf
    by_cases c : y = x
    · rw [if_pos c, c]; rfl
    · rw [if_neg c]
      rcases List.mem_cons.mp h with e | e
      · exact absurd e.symm c
      · rw [List.getElem?_cons_succ]
        exact ixOf_get e
theorem ixOf_lt {x : Int} {ks : List Int} (h : x ∈ ks) : ixOf ks x < ks.length := (List.getElem?_eq_some_iff.mp (ixOf_get h)).1
theorem ixOf_before {x : Int} : ∀ {ks : List Int} {m : Nat} {z : Int}, m < ixOf ks x → ks[m]? = some z → z ≠ x
  | [], m, z, h, e => by simp at e
  | y :: r, m, z, h, e => by
    unfold ixOf at h
    by_cases c : y = x
    · rw [if_pos c] at h; omega
    · rw [if_neg c] at h
      cases m with
      | zero =>
        rw [List.getElem?_cons_zero] at e
        cases e
        exact c
      | succ m =>
        rw [List.getElem?_cons_succ] at e
        exact ixOf_before (by omega) e
theorem getD_of {ks : List Int} {i : Nat} {x : Int} (h : ks[i]? = some x) : ks.getD i 0 = x := by
  rw [List.getD_eq_getElem?_getD, h]
  rfl
theorem rising_lt {ks : List Int} (pw : ks.Pairwise (· < ·)) {i j : Nat} (h : i < j) (hj : j < ks.length) : ks.getD i 0 < ks.getD j 0 := by
  rw [getD_of (List.getElem?_eq_getElem (Nat.lt_trans h hj)), getD_of (List.getElem?_eq_getElem hj)]
  exact List.pairwise_iff_getElem.mp pw i j _ _ h
theorem sub_length {ks : List Int} : ∀ {ms : List Int}, ks.Pairwise (· < ·) → (∀ k ∈ ks, k ∈ ms) → ks.length ≤ ms.length := by
  induction ks with
  | nil => intro ms _ _; exact Nat.zero_le _
  | cons k r ih =>
    intro ms pw h
    have hk := h k List.mem_cons_self
    have pw' := List.pairwise_cons.mp pw
    have := ih (ms := ms.erase k) pw'.2 fun z hz => (List.mem_erase_of_ne (by have := pw'.1 z hz; omega)).mpr (h z (List.mem_cons_of_mem _ hz))
    rw [List.length_erase_of_mem hk] at this
    have : 0 < ms.length := List.length_pos_of_mem hk
    rw [List.length_cons]
    omega
def marks (rs : List Rq) : List Int := rs.map (·.1) ++ rs.map (·.2.1 + 1)
def netE (ks : List Int) (r : Rq) : Nat × Nat × Int := (ixOf ks r.1, ixOf ks (r.2.1 + 1), r.2.2)
theorem marks_mem {rs : List Rq} {r : Rq} (h : r ∈ rs) : r.1 ∈ marks rs ∧ r.2.1 + 1 ∈ marks rs :=
  ⟨List.mem_append_left _ (List.mem_map.mpr ⟨r, h, rfl⟩), List.mem_append_right _ (List.mem_map.mpr ⟨r, h, rfl⟩)⟩
theorem getD_mem {rs : List Rq} {i : Nat} (h : i < rs.length) : rs.getD i (0, 0, 0) ∈ rs := by
  rw [List.getD_eq_getElem?_getD, List.getElem?_eq_getElem h]
  exact List.getElem_mem h
theorem mkNet {rs : List Rq} (ok : OkR rs) (ne : rs ≠ []) {ks : List Int} (pw : ks.Pairwise (· < ·)) (hm : ∀ k, k ∈ ks ↔ k ∈ marks rs) :
    ∃ N : Net, NetOf N rs (fun i => ks.getD i 0) ∧ ks.length = N.L + 1 ∧ N.L + 1 ≤ 2 * rs.length ∧ ∀ i, i < N.n → (rs.map (netE ks))[i]? = some (N.fi i, N.ei i, N.p i) := by
  have inF : ∀ i, i < rs.length → (rs.getD i (0, 0, 0)).1 ∈ ks := fun i h => (hm _).mpr (marks_mem (getD_mem h)).1
  have inE : ∀ i, i < rs.length → (rs.getD i (0, 0, 0)).2.1 + 1 ∈ ks := fun i h => (hm _).mpr (marks_mem (getD_mem h)).2
  have pos : 0 < ks.length := by
    cases rs with
    | nil => exact absurd rfl ne
    | cons r t => exact List.length_pos_of_mem (inF 0 (Nat.zero_lt_succ _))
  have len : ks.length ≤ 2 * rs.length := by
    have := sub_length (ms := marks rs) pw fun k h => (hm k).mp h
    unfold marks at this
    rw [List.length_append, List.length_map, List.length_map] at this
    omega
  refine ⟨⟨rs.length, ks.length - 1, fun i => ixOf ks (rs.getD i (0, 0, 0)).1, fun i => ixOf ks ((rs.getD i (0, 0, 0)).2.1 + 1), fun i => (rs.getD i (0, 0, 0)).2.2, fun i hi => ?_, fun i hi => ?_, fun i hi => (ok _ (getD_mem hi)).2⟩, ⟨rfl, fun i j h hj => rising_lt pw h (by show j < ks.length; have : j ≤ ks.length - 1 := hj; omega), fun i hi => getD_of (ixOf_get (inF i hi)), fun i hi => getD_of (ixOf_get (inE i hi)), fun _ _ => rfl⟩, by show ks.length = ks.length - 1 + 1; omega, by show ks.length - 1 + 1 ≤ _; omega, fun i hi => ?_⟩
  · have o := (ok _ (getD_mem hi)).1
    refine Nat.lt_of_not_le fun c => ?_
    rcases Nat.lt_or_eq_of_le c with c | c
    · have := rising_lt pw c (ixOf_lt (inF i hi))
      rw [getD_of (ixOf_get (inF i hi)), getD_of (ixOf_get (inE i hi))] at this
      omega
    · have a := ixOf_get (inF i hi)
      have b := ixOf_get (inE i hi)
      rw [c, a] at b
      have := Option.some.inj b
      omega
  · have := ixOf_lt (inE i hi)
    show _ ≤ ks.length - 1
    omega
  · have hi' : i < rs.length := hi
    rw [List.getElem?_map, List.getElem?_eq_getElem hi', Option.map_some]
    have : rs[i] = rs.getD i (0, 0, 0) := by
      rw [List.getD_eq_getElem?_getD, List.getElem?_eq_getElem hi']
      rfl
    rw [this]
    rfl
end Spn
namespace Spn
/-! ### rising lists -/
theorem rising_ext : ∀ {ks ms : List Int}, ks.Pairwise (· < ·) → ms.Pairwise (· < ·) → (∀ k, k ∈ ks ↔ k ∈ ms) → ks = ms
  | [], [], _, _, _ => rfl
  | [], m :: ms, _, _, h => by have := (h m).mpr List.mem_cons_self; cases this
  | k :: ks, [], _, _, h => by have := (h k).mp List.mem_cons_self; cases this
  | k :: ks, m :: ms, p, q, h => by
    have p' := List.pairwise_cons.mp p
    have q' := List.pairwise_cons.mp q
    have e : k = m := by
      have a := (h k).mp List.mem_cons_self
      have b := (h m).mpr List.mem_cons_self
      rcases List.mem_cons.mp a with a | a
      · exact a
      · rcases List.mem_cons.mp b with b | b
        · exact b.symm
        · have := p'.1 m b
          have := q'.1 k a
          omega
    subst e
    rw [rising_ext p'.2 q'.2 fun z => ⟨fun hz => ?_, fun hz => ?_⟩]
    · rcases List.mem_cons.mp ((h z).mp (List.mem_cons_of_mem _ hz)) with e | e
      · have := p'.1 z hz; omega
      · exact e
    · rcases List.mem_cons.mp ((h z).mpr (List.mem_cons_of_mem _ hz)) with e | e
      · have := q'.1 z hz; omega
      · exact e
def within (n : Nat) (z : Int) : Bool := decide (0 ≤ z) && decide (z < n)
theorem choice_iff {n : Nat} {ns : List Int} : isChoice n ns = true ↔ ns.Pairwise (· < ·) ∧ ∀ z ∈ ns, 0 ≤ z ∧ z < n := by
  constructor
  · intro h
    obtain ⟨ks, rfl, pw, hb⟩ := choice_nat h
    refine ⟨List.pairwise_map.mpr (pw.imp fun h => ?_), fun z hz => ?_⟩
    · exact Int.ofNat_lt.mpr h
    · obtain ⟨k, hk, rfl⟩ := List.mem_map.mp hz
      exact ⟨Int.natCast_nonneg k, Int.ofNat_lt.mpr (hb k hk)⟩
  · rintro ⟨pw, hb⟩
    have e : ns = (ns.map Int.toNat).map Int.ofNat := by
      rw [List.map_map]
      refine (List.map_id' ns).symm.trans (List.map_congr_left fun z hz => ?_)
      have := (hb z hz).1
      show z = ((z.toNat : Nat) : Int)
      omega
    rw [e]
    refine nat_choice (List.pairwise_map.mpr (pw.imp_of_mem fun {a b} ha hb' h => ?_)) fun k hk => ?_
    · have := (hb a ha).1
      have := (hb b hb').1
      omega
    · obtain ⟨z, hz, rfl⟩ := List.mem_map.mp hk
      have := hb z hz
      omega
theorem chosen_eq {n : Nat} {ns ks : List Int} (hb : ∀ z ∈ ns, 0 ≤ z ∧ z < n) (pw : ks.Pairwise (· < ·)) (hm : ∀ k, k ∈ ks ↔ k ∈ ns) : decide (ns = ks) = isChoice n ns := by
  rw [Bool.eq_iff_iff, decide_eq_true_iff, choice_iff]
  exact ⟨fun e => by subst e; exact ⟨pw, hb⟩, fun h => rising_ext h.1 pw fun k => (hm k).symm⟩
theorem not_chosen {n : Nat} {ns : List Int} (h : ns.all (within n) = false) : isChoice n ns = false := by
  rw [Bool.eq_false_iff]
  intro c
  have := (choice_iff.mp c).2
  rw [List.all_eq_true.mpr fun z hz => by unfold within; rw [Bool.and_eq_true, decide_eq_true_eq, decide_eq_true_eq]; exact this z hz] at h
  cases h
theorem within_all {n : Nat} {ns : List Int} (h : ns.all (within n) = true) : ∀ z ∈ ns, 0 ≤ z ∧ z < n := fun z hz => by
  have := List.all_eq_true.mp h z hz
  unfold within at this
  rwa [Bool.and_eq_true, decide_eq_true_eq, decide_eq_true_eq] at this
end Spn

namespace Spn
open PySem PySem.Spec PyProof.Rows L2
/-! ### what a call leaves behind is forgotten, but for what it hands back -/
/-- no dict with tuple keys; what is locked is a list or a tuple -/
def plainO : HO → Bool
  | .dT _ => false
  | .frz _ (.lst _) => true
  | .frz _ (.tup _) => true
  | .frz _ _ => false
  | _ => true
def NoT (H : Hp) : Prop := ∀ a o, H a = some o → plainO o = true
theorem NoT.upd {H : Hp} {a : Addr} {o : HO} (h : NoT H) (ho : plainO o = true := by rfl) : NoT (L2.upd H a o) := fun b u e => by
  by_cases q : b = a
  · subst q
    rw [upd_same] at e
    cases e
    exact ho
  · rw [upd_ne q] at e
    exact h b u e
/-- H'': what stood at H, as it stands at H', and some of what is new there -/
structure Shr (H H'' H' : Hp) : Prop where
  keep : ∀ b o, H b = some o → H'' b = H' b
  sub : ∀ b o, H'' b = some o → H' b = some o
  own : ∀ a C dx fs, H'' a = some (.ins C dx fs) → (∃ C0 fs0, H a = some (.ins C0 dx fs0)) ∨ H'' dx = some (.own a)
  noT : NoT H''
/-- nothing new is kept -/
theorem Shr.none {H H' : Hp} (n : NoT H) (s : Same H H') : Shr H H H' := ⟨fun b o e => by rw [e, s b o e], s, fun a C dx fs e => .inl ⟨C, fs, e⟩, n⟩
/-- one new thing is kept, no instance -/
theorem Shr.one {H H' : Hp} {p : Addr} {o : HO} (n : NoT H) (s : Same H H') (hp : H p = Option.none) (e : H' p = some o) (hi : ∀ C dx fs, o ≠ .ins C dx fs) (ho : plainO o = true := by rfl) : Shr H (L2.upd H p o) H' := by
  refine ⟨fun b u q => ?_, fun b u q => ?_, fun a C dx fs q => ?_, n.upd ho⟩
  · rw [upd_ne (ne_of_none q hp), q, s b u q]
  · by_cases z : b = p
    · subst z
      rw [upd_same] at q
      cases q
      exact e
    · rw [upd_ne z] at q
      exact s b u q
  · by_cases z : a = p
    · subst z
      rw [upd_same] at q
      cases q
      exact absurd rfl (hi C dx fs)
    · rw [upd_ne z] at q
      exact .inl ⟨C, fs, q⟩
theorem ObjOk.shrink {P : Program} {w : World} {H' H'' : Hp} {h' : Heap} {a : Addr} {o : HO} (hi : ∀ C dx fs, o = .ins C dx fs → H'' dx = some (.own a)) (hp : plainO o = true) (x : ObjOk P w H' h' a o) : ObjOk P w H'' h' a o := by
  cases o with
  | ins C dx fs =>
    obtain ⟨_, r⟩ := x
    exact ⟨hi C dx fs rfl, r⟩
  | dT kvs => cases hp
  | frz ob u =>
    cases u with
    | lst xs => exact x
    | tup xs => exact x
    | _ => cases hp
  | _ => exact x
theorem HOk.shrink {P : Program} {w : World} {H H' H'' : Hp} {h h' : Heap} (x : HOk P w H h) (x' : HOk P w H' h') (s : Shr H H'' H') : HOk P w H'' h' := fun a o e => by
  refine ObjOk.shrink (fun C dx fs q => ?_) (s.noT a o e) (x' a o (s.sub a o e))
  subst q
  rcases s.own a C dx fs e with ⟨C0, fs0, q⟩ | q
  · obtain ⟨d, _⟩ := x a _ q
    obtain ⟨d', _⟩ := x' a _ (s.sub a _ e)
    rw [s.keep dx _ d, d']
  · exact q
theorem Un.shrink {fs ex : List Addr} {H H' H'' : Hp} {h h' : Heap} (u : Un fs ex H H' h h') (s : Shr H H'' H') : Un fs ex H H'' h h' where
  keep := u.keep
  slot := u.slot
  free := fun b o q n hx => by
    have z := u.free b o q n hx
    cases e : H'' b with
    | none => rfl
    | some v =>
      rw [s.sub b v e] at z
      cases z
  there := u.there
  tups := fun b xs q => by rw [s.keep b _ q]; exact u.tups b xs q
  frzs := fun b o v q => by rw [s.keep b _ q]; exact u.frzs b o v q
  tbls := fun b ps q => by
    obtain ⟨m, e⟩ := u.tbls b ps q
    exact ⟨m, by rw [s.keep b _ q]; exact e⟩
theorem Inv.shrink {X : Cx} {pins : List (Addr × Obj)} {σ : L2.St} {H H' H'' : Hp} {s s' : Shared} (I : Inv X pins σ H s) (I' : Inv X pins σ H' s') (S : Shr H H'' H') : Inv X pins σ H'' s' := by
  have fr : ∀ {b : Addr}, H' b = none → H'' b = none := fun {b} n => by
    cases e : H'' b with
    | none => rfl
    | some v =>
      rw [S.sub b v e] at n
      cases n
  refine ⟨I'.ok, I'.os, I'.bare, ⟨I'.base.keep, I'.base.slot, fun b o q n hx => fr (I'.base.free b o q n hx), I'.base.there, fun b xs q => ?_, fun b o v q => ?_, fun b ps q => ?_⟩, I'.loc, I'.cell, fr I'.free, fun x c e => fr (I'.freeC x c e), fun p hp => ?_, HOk.shrink I.hok I'.hok S, I'.len⟩
  · rw [S.keep b _ (I.base.tups b xs q)]; exact I'.base.tups b xs q
  · rw [S.keep b _ (I.base.frzs b o v q)]; exact I'.base.frzs b o v q
  · obtain ⟨m, e⟩ := I.base.tbls b ps q
    obtain ⟨m', e'⟩ := I'.base.tbls b ps q
    exact ⟨m', by rw [S.keep b _ e]; exact e'⟩
  · obtain ⟨a, b, c⟩ := I'.pin p hp
    exact ⟨a, fr b, c⟩
/-- an expression, what is new behind it forgotten -/
def tShr (t : TE) : TE := fun σ H Q => t σ H fun v H' => ∃ H'', Shr H H'' H' ∧ Q v H''
theorem pe_shr {X : Cx} {e : Expr} {t : TE} (h : PE X e t) : PE X e (tShr t) := by
  refine ⟨fun pins s σ H Q I q => ?_⟩
  refine thn (h.run pins s σ H _ I q) fun u s1 ⟨v, H', I', r, H'', S, z⟩ => ?_
  exact ⟨v, H'', Inv.shrink I I' S, r, z⟩
/-- .. behind a call -/
def spShr (sp : Sp) : Sp := fun vs H Q E => sp vs H (fun v H' => ∃ H'', Shr H H'' H' ∧ Q v H'') E
theorem FnOk.shrink {P : Program} {w : World} {K : PySem.W.Frag} {mg : Str → Option Value} {base : Heap} {CX : CXT} {k : Nat} {f : Addr} {fd : FuncData} {ps : List Str} {sp : Sp} (F : FnOk P w K mg base CX k f fd ps sp) : FnOk P w K mg base CX k f fd ps (spShr sp) := by
  refine ⟨fun vs H Q E h => F.len vs H _ E h, fun A outer s H args us vs Q E hr he hb hv hs => ?_⟩
  refine codeAny_mono (F.run A outer s H args us vs _ E hr he hb hv hs) fun r s' q => ?_
  cases r with
  | error e => exact q
  | ok fl =>
    cases fl with
    | ret u =>
      obtain ⟨v, H', os, ag, un, ho, rv, H'', S, z⟩ := q
      exact ⟨v, H'', os, ag, Un.shrink un S, HOk.shrink he.hok ho S, rv, z⟩
    | next => exact q
    | brk => exact q
    | cont => exact q
end Spn

namespace Spn
open PySem PySem.Spec PyProof.Rows L2
/-! ### defs by their places -/
structure FnB (P : Program) (w : World) (K : PySem.W.Frag) (mg : Str → Option Value) (base : Heap) (CX : CXT) (k : Nat) (p : Str × Option Str) (ps : List Str) (sp : Sp) : Prop where
  ex : ∃ fd, FnOk P w K mg base CX k (He.fAd K p) fd ps sp ∧ Binds K fd ps []
  kp : PySem.W.keepIn K (.ref (He.fAd K p)) = true
theorem FnB.mono {P : Program} {w : World} {K : PySem.W.Frag} {mg : Str → Option Value} {base : Heap} {CX : CXT} {j k : Nat} {p : Str × Option Str} {ps : List Str} {sp : Sp} (F : FnB P w K mg base CX j p ps sp) (h : j ≤ k) : FnB P w K mg base CX k p ps sp := by
  obtain ⟨⟨fd, F, b⟩, kp⟩ := F
  exact ⟨⟨fd, F.mono h, b⟩, kp⟩
theorem FnB.imp {P : Program} {w : World} {K : PySem.W.Frag} {mg : Str → Option Value} {base : Heap} {CX : CXT} {k : Nat} {p : Str × Option Str} {ps : List Str} {sp sp' : Sp} (F : FnB P w K mg base CX k p ps sp) (h : ∀ vs H Q E, sp' vs H Q E → sp vs H Q E) : FnB P w K mg base CX k p ps sp' := by
  obtain ⟨⟨fd, F, b⟩, kp⟩ := F
  exact ⟨⟨fd, F.imp h, b⟩, kp⟩
/-- the rule for a def whose new things are forgotten, by its function object -/
theorem fn_mk' {P : Program} {w : World} {K : PySem.W.Frag} {mg : Str → Option Value} {base : Heap} {CX : CXT} {k : Nat} {f : Addr} {fd : FuncData} {N ps : List Str} {sp : Sp} {x qual : Str} {st : Stmt}
    (F : FunD K x qual (defArgs st) (defBody st) (defScope st) [] [] f fd) (S : FnScope N ps (defScope st)) (len : ∀ vs H Q E, sp vs H Q E → vs.length = ps.length)
    (hbody : ∀ (cdv : Value) (A : Around) (outer : List Env) (s : Shared) (H : Hp) (vs : List V) (Q Q0 : VK) (E : XK), Room k (A.deeper (envOfC qual (defScope st) s.heap.objs.size f cdv)) → sp vs H Q E → (∀ v H' H'', Shr H H'' H' → Q v H'' → Q0 v H') →
      ∃ t, PSs (cxOf CX P w K mg base N qual (defScope st) f cdv A outer s H E) (defBody st) t ∧ t { nx := fun _ H' => Q0 .non H', rt := Q0 } (start N vs) H) : FnOk P w K mg base CX (k + 1) f fd ps sp := by
  have G : FnOk P w K mg base CX (k + 1) f fd ps (fun vs H Q0 E => ∃ Q : VK, sp vs H Q E ∧ ∀ v H' H'', Shr H H'' H' → Q v H'' → Q0 v H') := by
    refine FunD.ok F S (fun vs H Q E ⟨Q', h, _⟩ => len vs H Q' E h) fun cdv A outer s H vs Q0 E hr ⟨Q, h, fin⟩ => ?_
    exact hbody cdv A outer s H vs Q Q0 E hr h fin
  exact (Spn.FnOk.shrink G).imp fun vs H Q E h => ⟨Q, h, fun v H' H'' S q => ⟨H'', S, q⟩⟩
/-- .. by its place -/
theorem FnB.mk' {P : Program} {w : World} {K : PySem.W.Frag} {mg : Str → Option Value} {base : Heap} {CX : CXT} {k : Nat} {p : Str × Option Str} {N ps : List Str} {sp : Sp} {x qual : Str} {st : Stmt}
    (F : ∃ fd, FunD K x qual (defArgs st) (defBody st) (defScope st) [] [] (He.fAd K p) fd) (S : FnScope N ps (defScope st))
    (bd : ∀ (kV doc pm : Value) (an : Option Addr) (cdv ct : Value) (us : List Value), us.length = ps.length → bindArgs (PySem.W.fnOf x qual (defArgs st) (defBody st) (defScope st) .none kV doc pm an cdv ct) ⟨us, []⟩ = pure (ps.zip us))
    (len : ∀ vs H Q E, sp vs H Q E → vs.length = ps.length)
    (hbody : ∀ (cdv : Value) (A : Around) (outer : List Env) (s : Shared) (H : Hp) (vs : List V) (Q Q0 : VK) (E : XK), Room k (A.deeper (envOfC qual (defScope st) s.heap.objs.size (He.fAd K p) cdv)) → sp vs H Q E → (∀ v H' H'', Shr H H'' H' → Q v H'' → Q0 v H') →
      ∃ t, PSs (cxOf CX P w K mg base N qual (defScope st) (He.fAd K p) cdv A outer s H E) (defBody st) t ∧ t { nx := fun _ H' => Q0 .non H', rt := Q0 } (start N vs) H) : FnB P w K mg base CX (k + 1) p ps sp := by
  obtain ⟨fd, F⟩ := F
  exact ⟨⟨fd, fn_mk' F S len hbody, FunD.bindsN F bd⟩, F.kp⟩
section
variable {X : Cx} {CX : CXT} {k : Nat} {x m : Str} {ps : List Str} {sp : Sp} {E : XK} {p pos apos : Pos} {e o : Expr} {es : List Expr} {ta : TE} {t : TA}
theorem pe_callN (F : FnB X.prog X.w X.K X.mg X.base CX k (x, none) ps sp) (hm : X.mg x = some (.ref (He.ga X.K x))) (hr : Room k X.A) (hx : Passes CX X E) (ha : PA X (e :: es) t) (hg : Gl X x := by rfl)
    (hdb : (x == ("__debug__" : Str)) = false := by decide) (he : starEach (e :: es) X.env = (false, eval e X.env) :: starEach es X.env := by rfl) (hpl : (backTo pos (starEach es X.env)).any (·.1) = false := by rfl) :
    PE X (.Call (.Name x p) (e :: es) [] pos) (tCall sp [] E t) := by
  obtain ⟨⟨fd, F, b⟩, kp⟩ := F
  exact pe_call F hr hg hm kp b .nil hx ha hdb he hpl
theorem pe_methN {c : Str} {pl : Sem Bool} (he : PE X o ta) (cl : Cls X.K (He.ga X.K c)) (hm : Meth X.K (He.ga X.K c) m (He.ma X.K (He.ga X.K c) m)) (F : FnB X.prog X.w X.K X.mg X.base CX k (c, some m) ps sp) (hr : Room k X.A) (hx : Passes CX X E) (ha : PA X (e :: es) t)
    (hst : starEach (e :: es) X.env = (false, eval e X.env) :: starEach es X.env := by rfl) (hpl : (backTo pos (starEach es X.env)).any (·.1) = false := by rfl)
    (ht : eval (.Call (.Attribute o m apos) (e :: es) [] pos) X.env = (do
      let ov ← eval o X.env
      standAt apos.atName
      let (f, first) ← holding [ov] (getMethod ov m pl)
      callWith pos f first (backTo pos (starEach (e :: es) X.env)) (backToKw pos (keywordEach [] X.env))) := by rfl) :
    PE X (.Call (.Attribute o m apos) (e :: es) [] pos) (tMeth (He.ga X.K c) m sp [] E ta t) := by
  obtain ⟨⟨fd, F, b⟩, kp⟩ := F
  exact pe_meth he cl hm F hr b .nil hx ha hst hpl ht
theorem pe_methN0 {c : Str} {pl : Sem Bool} (he : PE X o ta) (cl : Cls X.K (He.ga X.K c)) (hm : Meth X.K (He.ga X.K c) m (He.ma X.K (He.ga X.K c) m)) (F : FnB X.prog X.w X.K X.mg X.base CX k (c, some m) ps sp) (hr : Room k X.A) (hx : Passes CX X E)
    (ht : eval (.Call (.Attribute o m apos) [] [] pos) X.env = (do
      let ov ← eval o X.env
      standAt apos.atName
      let (f, first) ← holding [ov] (getMethod ov m pl)
      callWith pos f first (backTo pos (starEach [] X.env)) (backToKw pos (keywordEach [] X.env))) := by rfl) :
    PE X (.Call (.Attribute o m apos) [] [] pos) (tMeth (He.ga X.K c) m sp [] E ta tNil) := by
  obtain ⟨⟨fd, F, b⟩, kp⟩ := F
  exact pe_meth0 he cl hm F hr b .nil hx ht
theorem pe_makeN (M : Mk X.K (He.ga X.K x) (He.ma X.K (He.ga X.K x) "__init__")) (F : FnB X.prog X.w X.K X.mg X.base CX k (x, some "__init__") ps sp) (hm : X.mg x = some (.ref (He.ga X.K x))) (hr : Room (k + 1) X.A) (hx : Passes CX X E) (ha : PA X (e :: es) t) (hg : Gl X x := by rfl)
    (hdb : (x == ("__debug__" : Str)) = false := by decide) (he : starEach (e :: es) X.env = (false, eval e X.env) :: starEach es X.env := by rfl) (hpl : (backTo pos (starEach es X.env)).any (·.1) = false := by rfl) :
    PE X (.Call (.Name x p) (e :: es) [] pos) (tMake (He.ga X.K x) sp [] E t) := by
  obtain ⟨⟨fd, F, b⟩, kp⟩ := F
  exact pe_make M F hr hg hm b .nil hx ha hdb he hpl
/-- a list's item at a place from nought on, for xs[i] op= e -/
def rGetL (K : PySem.W.Frag) : V → V → Hp → VK → Prop := fun o i H Q => ∃ (p : Addr) (xs : List V) (j : Nat) (z : V), o = .ref p ∧ i = .int (j : Int) ∧ SqL K H p xs ∧ xs[j]? = some z ∧ Q z H
theorem pget_list : PGet X (rGetL X.K) := by
  intro pins s σ H o i ov iv Q I ro ri h
  obtain ⟨p, xs, j, z, rfl, rfl, hq, he, q⟩ := h
  cases ro
  obtain ⟨tk, rfl⟩ := ri
  obtain ⟨its, rv, pl, hz⟩ := I.list hq
  obtain ⟨w, ew, rw'⟩ := rv.get he
  have hj : j < xs.length := (List.getElem?_eq_some_iff.mp he).1
  rw [sizeLine_eq] at hz
  exact wpAny_getItem_list pl.isList (Int.natCast_nonneg j) (by omega) (by simpa using ew) ⟨z, H, I, rw', q⟩
end
/-! ### sets of hin out of lists, sorted -/
/-- a new set with nothing in it -/
abbrev bareSet (w : World) : Obj := { cls := .type "set", dict := none, data := .set #[] 0 (.fresh 0 0 (!w.params.followText "set-order")) }
section
variable {P : Program} {w : World} {A : Around} {E : Value → Shared → Prop} {s : Shared}
theorem set_of_ints {l : Addr} {items : Array Value} (ns : List Int) {Q : Value → Shared → Prop} (calm : A.handled = none) (hl : s.heap.IsList l items) (hin : IntsAre items.toList ns) (small : ns.length + 1 < scanBound)
    (fin : ∀ (g : Heap) (tk c : Nat), SetR w g s.heap.objs.size (fun j => decide (j ∈ ns)) c → c ≤ ns.length → (∀ b o, s.heap.get? b = some o → g.get? b = some o) → Q (.ref s.heap.objs.size) { s with heap := g, toks := tk }) :
    wpAny (model P w) A (call (.type "set") [.ref l]) Q E s := by
  have many : items.size = ns.length := by
    rw [← Array.length_toList]
    exact IntsAre.length hin
  obtain ⟨c0, tl, hmro⟩ := PySem.F.called_set.mro
  have a1 := PySem.F.called_set.made
  have a2 := PySem.F.called_set.sub
  refine wpAny_call (codeAny_of_tree ?_)
  show wpAny _ _ (callAny (.type "set") _) _ _ _
  refine wpAny_pure ⟨Code.quiet_builtin _ (by decide +kernel), codeAny_builtin PySem.F.entry_type_call ?_⟩
  rw [Around.under_plain (weight_type_call_type "set" [.ref l] []) rfl]
  have a3 := PySem.F.called_set.notType
  have a4 := PySem.F.called_set.canCreate
  have a5 := PySem.F.typeCall_set_1 (.ref l)
  repeat (any_goals (first | assumption | wp_step))
  refine codeAny_mono (code_set_led1 (.ref l) (E := E) (Q₁ := fun obj s1 => obj = .ref s.heap.objs.size ∧ s1 = { s with heap := s.heap.push (bareSet w) }) ⟨rfl, rfl⟩) fun r s1 hr => ?_
  cases r with
  | error e => exact hr
  | ok fl =>
    cases fl with
    | ret obj =>
      obtain ⟨rfl, rfl⟩ := hr
      have at0 : (s.heap.push (bareSet w)).get? s.heap.objs.size = some (bareSet w) := Heap.get?_push_size _ rfl
      have ty0 : Shared.TypeIs { s with heap := s.heap.push (bareSet w) } (.ref s.heap.objs.size) "set" := ⟨_, at0, rfl⟩
      have b1 := PySem.F.called_set.init.lookup
      have b2 := PySem.F.called_set.init.bind (.ref s.heap.objs.size)
      repeat (any_goals (first | assumption | wp_step))
      refine codeAny_mono (codeAny_call_builtin (R := wants (fun r s2 => r = .none ∧ ∃ g tk c, s2 = { s with heap := g, toks := tk } ∧ SetR w g s.heap.objs.size (fun j => decide (j ∈ ns)) c ∧ c ≤ ns.length ∧ (∀ b o, s.heap.get? b = some o → g.get? b = some o)) E) PySem.F.called_set.init.plain PySem.F.entry_set_init (check_set_init_1 ty0 ?_)) fun r2 s2 hr2 => ?_
      · obtain ⟨ol, hol, hcl, nl, hdl⟩ := hl
        obtain ⟨oc, od, odt, osl⟩ := ol
        simp only at hcl hdl
        subst hcl; subst hdl
        have hol' : (s.heap.push (bareSet w)).get? l = some { cls := .type "list", dict := od, data := .seq items nl, slots := osl } := Heap.get?_push_of_some _ hol
        have n1 := PySem.F.sub_list_set
        have n2 := PySem.F.sub_list_frozenset
        have n3 : (Value.type "list" == Value.type "dict") = false := by decide
        have isl : (s.heap.push (bareSet w)).IsList l items := ⟨_, hol', rfl, nl, rfl⟩
        unfold Builtin.«set.__init__» noKeywords Builtin.Frozenset.updateFrom
        generalize hPI : pyIter = PI
        wp_walk
        subst hPI
        refine wpAny_pyIter_list isl ?_
        refine wpAny_bind (wpAny_runValue ?_)
        have lS : l < s.heap.objs.size := Heap.lt_size hol
        have calm3 : A.in1.in1.in1.handled = none := by simp [calm]
        have neI : l ≠ (s.heap.push (bareSet w)).objs.size := by
          rw [Heap.size_push]
          exact Nat.ne_of_lt (Nat.lt_succ_of_lt lS)
        have away : s.heap.objs.size ∉ [(s.heap.push (bareSet w)).objs.size, l] := by
          rw [Heap.size_push]
          simp only [List.mem_cons, List.not_mem_nil, or_false, not_or]
          exact ⟨Nat.ne_of_lt (Nat.lt_succ_self _), Nat.ne_of_gt lS⟩
        have each : ∀ (i : Nat) (v : Value), items[i]? = some v → ∃ k t, ns[i]? = some k ∧ v = .int k t := fun i v hv => by
          have hi : i < ns.length := by
            rw [← many]
            exact (Array.getElem?_eq_some_iff.mp hv).1
          obtain ⟨t, e⟩ := PyProof.Rows.IntsAre.int_at hin i v (by rw [Array.getElem?_toList]; exact hv)
          refine ⟨ns[i], t, List.getElem?_eq_getElem hi, ?_⟩
          rw [e, List.getD_eq_getElem?_getD, List.getElem?_eq_getElem hi] <;> rfl
        refine set_update_ints ((Walks.list calm3 _ l neI items).toS) s.heap.objs.size away ns many small each (items.size - 0) 0 _ (by omega) (Nat.zero_le _) ⟨⟨_, Heap.get?_push_size _ rfl, rfl, rfl⟩, (isl.push _)⟩ ?begins ?ends
        case begins =>
          have at1 : ((s.heap.push (bareSet w)).push { cls := .type "list_iterator", data := .fields #[.ref l, .int 0 0] }).get? s.heap.objs.size = some (bareSet w) := Heap.get?_push_of_some _ at0
          exact ⟨0, Nat.le_refl 0, setR_new_at at1⟩
        case ends =>
          intro z c' hm hc' hS'
          obtain ⟨g, gs, dr, tk, os⟩ := z
          have e1 : gs = s.gens := hm.gens
          have e2 : dr = s.drawn := hm.drawn
          have e3 : os = s.os := hm.os
          subst e1; subst e2; subst e3
          show wpAny _ _ _ _ _ _
          refine wpAny_pure ?_
          show wpAny _ _ (ret Value.none) _ _ _
          rw [many] at hc'
          refine wpAny_pure ⟨rfl, g, tk, c', rfl, hS', hc', fun b o e => ?_⟩
          have b0 : b < s.heap.objs.size := Heap.lt_size e
          have b1 : b ≠ s.heap.objs.size := Nat.ne_of_lt b0
          have b2 : b ≠ (s.heap.push (bareSet w)).objs.size := by
            rw [Heap.size_push]
            exact Nat.ne_of_lt (Nat.lt_succ_of_lt b0)
          exact hm.heap b o (by simp only [List.mem_cons, List.not_mem_nil, or_false, not_or]; exact ⟨b1, b2⟩) (Heap.get?_push_of_some _ (Heap.get?_push_of_some _ e))
      · cases r2 with
        | error e => exact hr2
        | ok fl2 =>
          cases fl2 with
          | ret r =>
            obtain ⟨rfl, g, tk, c', rfl, hS', hc', hk'⟩ := hr2
            repeat (any_goals (first | assumption | wp_step))
            exact fin _ _ _ hS' hc' hk'
          | _ => exact hr2.elim
    | _ => exact hr.elim
open SrtO in
/-- sorted(s) of a set of hin, of any size -/
theorem sorted_of_set {a : Addr} {S : Int → Bool} {n : Nat} {Q : Value → Shared → Prop} (R : SetR w s.heap a S n) (calm : A.handled = none)
    (fin : ∀ s' p (out : List Value) (c : Nat) (ns : List Int), (∀ b o, s.heap.get? b = some o → s'.heap.get? b = some o) → s'.gens = s.gens → s'.os = s.os → s.heap.objs.size ≤ p →
      s'.heap.get? p = some (seqObj "list" out.toArray c) → IntsAre out ns → ns.Pairwise (· < ·) → (∀ k, k ∈ ns ↔ S k = true) → ns.length ≤ sizeLine → Q (.ref p) s') :
    wpAny (model P w) A (call (.builtin "sorted") [.ref a]) Q E s := by
  obtain ⟨o, es, ep, t, ho, hex, hd, g, nd, hm, hb, hf, hn, hr, hl⟩ := R
  refine Calls.call_function_entry kind_sorted plain_sorted entry_sorted (args_sorted1 _) ?_
  unfold Builtin.«sorted»
  refine wpAny_bind (m := checkCount "sorted" 1 1 _) (wpAny_pure ?_)
  refine wpAny_bind (collect_set (A := A.in1) calm ⟨o, ho, hex.1, hd⟩ hf hb hr hl fun s1 vs k1 hz g1 o1 pm => ?_)
  have len : vs.length = es.size := by rw [pm.length_eq, List.length_map, Array.length_toList]
  have hin : IntsAre vs (vs.map Builtin.Re.reRawOf) := ints_of vs fun v hv => by
    obtain ⟨e, he, q⟩ := List.mem_map.mp (pm.mem_iff.mp hv)
    obtain ⟨k, tk, h1, _⟩ := g e he
    exact ⟨k, tk, by rw [← q]; exact h1⟩
  have keys : (vs.map Builtin.Re.reRawOf).Perm (es.toList.map keyOf) := by
    have q := pm.map Builtin.Re.reRawOf
    rw [List.map_map] at q
    exact q
  have hz2 : vs.length ≤ sizeLine := by
    have : es.size < 4096 := hb
    rw [len, sizeLine_eq]
    omega
  refine wpAny_bind (wpAny_newList ?_ hz2)
  have at1 : (s1.heap.push (seqObj "list" vs.toArray 0)).get? s1.heap.objs.size = some (seqObj "list" vs.toArray 0) := Heap.get?_push_size _ rfl
  refine wpAny_bind (wpAny_holding (wpAny_call_entry slot_list_sort ⟨_, at1, rfl⟩ entry_list_sort (list_sort_ord swo_int at1 hz2 (fun h2 => ints_sortable hin h2) fun out h1 h2 => ⟨_, rfl, ?_⟩) (args_list_sort _)))
  obtain ⟨q1, q2, q3⟩ := ints_out hin h1 h2
  obtain ⟨c, hc⟩ := sortedHeap_at (vs := vs) (out := out.toArray) at1
  have pn : (out.map iv).Perm (es.toList.map keyOf) := q2.trans keys
  refine wpAny_pure ⟨_, rfl, fin _ s1.heap.objs.size out c (out.map iv) (fun b u e => ?_) g1 o1 hz hc q1 (lt_of_le_nodup _ q3 (pn.nodup_iff.mpr nd)) (fun k => by rw [pn.mem_iff, ← hm k]) ?_⟩
  · have q := k1 b u e
    have lt := Heap.lt_size q
    show (sortedHeap (s1.heap.push (seqObj "list" vs.toArray 0)) s1.heap.objs.size vs out.toArray).get? b = some u
    rw [sortedHeap_old (Nat.ne_of_lt lt) (by rw [size_push']; exact Nat.lt_succ_of_lt lt)]
    exact Heap.get?_push_of_some _ q
  · rw [pn.length_eq, List.length_map, Array.length_toList, ← len]
    exact hz2
end
section
variable {X : Cx}
/-- set(xs), xs a list of hin -/
def rSetOf (K : PySem.W.Frag) (w : World) : List V → Hp → VK → Prop := fun vs H Q => ∃ (l : Addr) (ns : List Int), vs = [V.ref l] ∧ SqL K H l (ns.map V.int) ∧ ns.length ≤ 4000 ∧
  ∀ (p : Addr) (c : Nat), H p = none → Q (.ref p) (upd H p (SetO w p (fun j => decide (j ∈ ns)) c))
theorem cr_setL (hc : X.calm = true) : CallR X (.type "set") (rSetOf X.K X.w) := by
  intro pins s σ H vs us Q I r h
  obtain ⟨l, ns, rfl, hs, hb, q⟩ := h
  obtain ⟨its, rv, pl, hz⟩ := I.list hs
  rw [Vals.ref1 r]
  refine set_of_ints ns (I.ok.hd hc) pl.isList (by simpa using rv.ints) (by show ns.length + 1 < 4096; omega) fun g tk c R _ kp => ?_
  have hn : H s.heap.objs.size = none := I.hok.fresh (Nat.le_refl _)
  exact ⟨.ref _, _, I.laid (t' := tk) kp (Nat.le_refl _) (setO_new R), rfl, q _ c hn⟩
/-- sorted(s), s a set of hin -/
def rSortedSetI (w : World) : List V → Hp → VK → Prop := fun vs H Q => ∃ (a : Addr) (S : Int → Bool) (n : Nat), vs = [V.ref a] ∧ H a = some (SetO w a S n) ∧
  ∀ (ns : List Int) (p : Addr), ns.Pairwise (· < ·) → (∀ k : Int, k ∈ ns ↔ S k = true) → H p = none → Q (.ref p) (upd H p (.lst (ns.map V.int)))
theorem cr_sortedSetI (hc : X.calm = true) : CallR X (.builtin "sorted") (rSortedSetI X.w) := by
  intro pins s σ H vs us Q I r h
  obtain ⟨a, S, n, rfl, ha, q⟩ := h
  rw [Vals.ref1 r]
  refine sorted_of_set (setO_get I ha) (I.ok.hd hc) fun s' p out c ns k g o hp hg hi hs hm hl => ?_
  have hn : H p = none := I.hok.fresh hp
  have len : (ns.map V.int).length ≤ sizeLine := by rw [List.length_map]; exact hl
  have J : Inv X pins σ (upd H p (.lst (ns.map V.int))) { s with heap := s'.heap, gens := s'.gens, drawn := s'.drawn, toks := s'.toks } :=
    I.call (ch := []) (Un.laid k hp hn) (I.hok.laid k hp ⟨len, out, c, vals_of_ints hi, hg⟩) (by rw [g]; exact I.bare) (fun _ z => nomatch z)
  have e : s' = { s with heap := s'.heap, gens := s'.gens, drawn := s'.drawn, toks := s'.toks } := by
    cases s'
    cases s
    cases o
    rfl
  rw [e]
  exact ⟨.ref p, _, J, rfl, q ns p hs hm hn⟩
/-- sorted(xs), xs a list of alike data: some arrangement of them -/
def rSortedD (K : PySem.W.Frag) : List V → Hp → VK → Prop := fun vs H Q => ∃ (a : Addr) (xs : List V) (ds : List PyData), vs = [V.ref a] ∧ SqL K H a xs ∧ DpAll K H xs ds ∧ PySem.W.AllAlike ds ∧ PySem.W.Sortable ds ∧ (∀ d ∈ ds, d.depth ≤ 10) ∧
  ∀ (ys : List V) (p : Addr), ys.Perm xs → H p = none → Q (.ref p) (upd H p (.lst ys))
theorem each_of_dp {pins : List (Addr × Obj)} {σ : L2.St} {H : Hp} {s : Shared} (I : Inv X pins σ H s) : ∀ {xs : List V} {ds : List PyData} {its : List Value}, DpAll X.K H xs ds → Vals xs its →
    ∃ bs : List (V × PyData), bs.map (·.1) = xs ∧ bs.map (·.2) = ds ∧ PySem.W.EachIs (fun (v : Value) (b : V × PyData) => RelV b.1 v) its bs ∧ PySem.W.EachIs (fun (v : Value) (b : V × PyData) => ∃ as, Reads s.heap v b.2 as) its bs
  | _, _, _, .nil, .nil => ⟨[], rfl, rfl, .nil, .nil⟩
  | _, _, _, .cons h t, .cons r rr => by
    obtain ⟨bs, e1, e2, e3, e4⟩ := each_of_dp I t rr
    exact ⟨(_, _) :: bs, by rw [List.map_cons, e1], by rw [List.map_cons, e2], .cons r e3, .cons (Dp.reads I _ _ _ h r) e4⟩
theorem vals_of_each : ∀ {out : List Value} {bs : List (V × PyData)}, PySem.W.EachIs (fun (v : Value) (b : V × PyData) => RelV b.1 v) out bs → Vals (bs.map (·.1)) out
  | _, _, .nil => .nil
  | _, _, .cons r t => .cons r (vals_of_each t)
theorem cr_sortedD (hu : X.A.units + 64 < cLine) : CallR X (.builtin "sorted") (rSortedD X.K) := by
  intro pins s σ H vs us Q I r h
  obtain ⟨a, xs, ds, rfl, hs, hd, al, so, dp, q⟩ := h
  obtain ⟨its, rv, pl, hz⟩ := I.list hs
  rw [Vals.ref1 r]
  obtain ⟨bs, rfl, rfl, e1, e2⟩ := each_of_dp I hd rv
  have lb : bs.length ≤ sizeLine := by rw [List.length_map] at hz; exact hz
  refine PySem.W.sorted_data (vs := its) (bs := bs) (enc := fun b => b.2) (R := fun v b => RelV b.1 v) pl.isList e1 e2 al so lb (fun b hb => ?_) fun out hl ho => ?_
  · have := dp b.2 (List.mem_map.mpr ⟨b, hb, rfl⟩)
    omega
  · have pm : ((bs.mergeSort (PySem.W.dataLe false fun b => b.2)).map (·.1)).Perm (bs.map (·.1)) := (List.mergeSort_perm _ _).map _
    obtain ⟨ep, he⟩ := PyProof.Rows.sortedAll_at s.heap its out.toArray
    have hl2 : ((bs.mergeSort (PySem.W.dataLe false fun b => b.2)).map (·.1)).length ≤ sizeLine := by rw [pm.length_eq]; exact hz
    exact ⟨.ref _, upd H (s.heap.objs.size + 1) (.lst _), I.laid (t' := s.toks) (fun _ _ => PyProof.Rows.sortedAll_old) (Nat.le_succ _) ⟨hl2, out, ep, vals_of_each ho, he⟩, rfl, q _ _ pm (I.hok.fresh (Nat.le_succ _))⟩
end
end Spn

namespace Spn
open PySem PySem.Spec PyProof.Rows L2
/-! ### short names of what rules ask -/
abbrev qAdd : R2 := rI0 fun i j => .int (i + j)
abbrev qSub : R2 := rI0 fun i j => .int (i - j)
abbrev qMul : R2 := rI CMul fun i j => .int (i * j)
abbrev qDiv : R2 := rI CDiv fun i j => .int (i / j)
abbrev qMod : R2 := rI (fun _ j => 0 < j) fun i j => .int (i % j)
abbrev qPow : R2 := rI CPow fun i j => .int (i ^ j.toNat)
abbrev qLt : R2 := rI0 fun i j => .bl (decide (i < j))
abbrev qLe : R2 := rI0 fun i j => .bl (decide (i ≤ j))
abbrev qGt : R2 := rI0 fun i j => .bl (decide (j < i))
abbrev qGe : R2 := rI0 fun i j => .bl (decide (j ≤ i))
abbrev qNeg : V → Hp → VK → Prop := rU fun i => .int (-i)
abbrev qAddI : TIp := ipI fun i j => i + j
abbrev qLen (K : PySem.W.Frag) : List V → Hp → VK → Prop := fun xs H Q => ∃ p ys, xs = [.ref p] ∧ (SqL K H p ys ∨ SqT K H p ys) ∧ Q (.int ys.length) H
abbrev qList (K : PySem.W.Frag) : List V → Hp → VK → Prop := fun xs H Q => ∃ p ys, xs = [.ref p] ∧ (SqL K H p ys ∨ SqT K H p ys) ∧ ∀ l, H l = none → Q (.ref l) (upd H l (.lst ys))
abbrev qMax2 : List V → Hp → VK → Prop := fun xs H Q => ∃ i j, xs = [.int i, .int j] ∧ Q (.int (if j > i then j else i)) H
abbrev qMin2 : List V → Hp → VK → Prop := fun xs H Q => ∃ i j, xs = [.int i, .int j] ∧ Q (.int (if j < i then j else i)) H
abbrev qAbs : List V → Hp → VK → Prop := fun xs H Q => ∃ i, xs = [.int i] ∧ Q (.int (if i < 0 then -i else i)) H
abbrev tTru (K : PySem.W.Frag) (ta : TE) : TT := fun σ H Q => ta σ H fun x H' => ∃ k, TruV K x H' k ∧ Q k H'
/-! ### paired lists -/
theorem Paired.getL {α β : Type} {F : α → β → Prop} : ∀ {xs : List α} {ys : List β}, Paired F xs ys → ∀ {i : Nat} {y : β}, ys[i]? = some y → ∃ x, xs[i]? = some x ∧ F x y
  | _, _, .nil, i, y, h => by simp at h
  | _, _, .cons r t, 0, y, h => by
    have e := Option.some.inj h
    subst e
    exact ⟨_, rfl, r⟩
  | _, _, .cons r t, i + 1, y, h => Paired.getL t (i := i) h
theorem Paired.getR {α β : Type} {F : α → β → Prop} : ∀ {xs : List α} {ys : List β}, Paired F xs ys → ∀ {i : Nat} {x : α}, xs[i]? = some x → ∃ y, ys[i]? = some y ∧ F x y
  | _, _, .nil, i, y, h => by simp at h
  | _, _, .cons r t, 0, y, h => by
    have e := Option.some.inj h
    subst e
    exact ⟨_, rfl, r⟩
  | _, _, .cons r t, i + 1, y, h => Paired.getR t (i := i) h
theorem Paired.app {α β : Type} {F : α → β → Prop} : ∀ {xs xs' : List α} {ys ys' : List β}, Paired F xs ys → Paired F xs' ys' → Paired F (xs ++ xs') (ys ++ ys')
  | _, _, _, _, .nil, s => s
  | _, _, _, _, .cons r t, s => .cons r (Paired.app t s)
theorem Paired.rev {α β : Type} {F : α → β → Prop} : ∀ {xs : List α} {ys : List β}, Paired F xs ys → Paired F xs.reverse ys.reverse
  | _, _, .nil => .nil
  | _, _, .cons r t => by
    rw [List.reverse_cons, List.reverse_cons]
    exact Paired.app (Paired.rev t) (.cons r .nil)
theorem Paired.dropP {α β : Type} {F : α → β → Prop} : ∀ {xs : List α} {ys : List β} (n : Nat), Paired F xs ys → Paired F (xs.drop n) (ys.drop n)
  | _, _, 0, r => r
  | _, _, _ + 1, .nil => .nil
  | _, _, n + 1, .cons _ t => Paired.dropP n t
theorem Paired.takeP {α β : Type} {F : α → β → Prop} : ∀ {xs : List α} {ys : List β} (n : Nat), Paired F xs ys → Paired F (xs.take n) (ys.take n)
  | _, _, 0, _ => .nil
  | _, _, _ + 1, .nil => .nil
  | _, _, n + 1, .cons r t => .cons r (Paired.takeP n t)
theorem Paired.ofMap {α β : Type} {F : α → β → Prop} {f : β → α} (h : ∀ b, F (f b) b) : ∀ ys : List β, Paired F (ys.map f) ys
  | [] => .nil
  | y :: r => .cons (h y) (Paired.ofMap h r)
theorem Same.tup {K : PySem.W.Frag} {H H' : Hp} {a : Addr} {xs : List V} (e : Same H H') (h : SqT K H a xs) : SqT K H' a xs := by
  rcases h with (h | ⟨o, h⟩) | h
  · exact .inl (.inl (e _ _ h))
  · exact .inl (.inr ⟨o, e _ _ h⟩)
  · exact .inr h
def tShrT (t : TT) : TT := fun σ H Q => t σ H fun v H' => ∃ H'', Shr H H'' H' ∧ Q v H''
theorem pt_shr {X : Cx} {e : Expr} {t : TT} (h : PT X e t) : PT X e (tShrT t) := by
  refine ⟨fun pins s σ H Q I q => ?_⟩
  refine thn (h.run pins s σ H _ I q) fun u s1 ⟨H', I', H'', S, z⟩ => ?_
  exact ⟨H'', Inv.shrink I I' S, z⟩
theorem Same.upd {H : Hp} {p : Addr} {o : HO} (h : H p = none) : Same H (upd H p o) := fun b u e => by rw [upd_ne (ne_of_none e h)]; exact e
theorem Same.upd2 {H H' : Hp} {p : Addr} {o : HO} (s : Same H H') (h : H' p = none) : Same H (L2.upd H' p o) := fun b u e => by rw [upd_ne (ne_of_none (s b u e) h)]; exact s b u e
/-! ### requests, tolls, ints on the heap -/
def r3 (r : Rq) : List V := [.int r.1, .int r.2.1, .int r.2.2]
def t2 (t : Int × Int) : List V := [.int t.1, .int t.2]
def IsR (H : Hp) (v : V) (r : Rq) : Prop := ∃ t, v = .ref t ∧ H t = some (.tup (r3 r))
def IsP (H : Hp) (v : V) (r : Int × Int) : Prop := ∃ t, v = .ref t ∧ H t = some (.tup (t2 r))
def ReqsAt (H : Hp) (a : Addr) (rs : List Rq) : Prop := ∃ vs, H a = some (.lst vs) ∧ Paired (IsR H) vs rs
def TollsAt (H : Hp) (a : Addr) (τ : List (Int × Int)) : Prop := ∃ vs, H a = some (.lst vs) ∧ Paired (IsP H) vs τ
abbrev IntsAt (H : Hp) (a : Addr) (ns : List Int) : Prop := H a = some (.lst (ns.map V.int))
theorem IsR.same {H H' : Hp} {v : V} {r : Rq} (h : IsR H v r) (s : Same H H') : IsR H' v r := by
  obtain ⟨t, e, h⟩ := h
  exact ⟨t, e, s _ _ h⟩
theorem IsP.same {H H' : Hp} {v : V} {r : Int × Int} (h : IsP H v r) (s : Same H H') : IsP H' v r := by
  obtain ⟨t, e, h⟩ := h
  exact ⟨t, e, s _ _ h⟩
theorem ReqsAt.same {H H' : Hp} {a : Addr} {rs : List Rq} (h : ReqsAt H a rs) (s : Same H H') : ReqsAt H' a rs := by
  obtain ⟨vs, e, h⟩ := h
  exact ⟨vs, s _ _ e, h.mono fun _ _ q => q.same s⟩
theorem TollsAt.same {H H' : Hp} {a : Addr} {rs : List (Int × Int)} (h : TollsAt H a rs) (s : Same H H') : TollsAt H' a rs := by
  obtain ⟨vs, e, h⟩ := h
  exact ⟨vs, s _ _ e, h.mono fun _ _ q => q.same s⟩
theorem at_int {xs : List V} {z : Int} {v : V} (h0 : 0 ≤ z) (h : xs[z.toNat]? = some v) : atI xs z = some v := at_of (j := z.toNat) (by omega) h
theorem getR_some {rs : List Rq} {a : Int} (h0 : 0 ≤ a) (h1 : a < rs.length) : rs[a.toNat]? = some (getR rs a) := by
  unfold getR
  rw [List.getD_eq_getElem?_getD, List.getElem?_eq_getElem (by omega : a.toNat < rs.length)]
  rfl
/-- requests[at] -/
theorem rd_req {H : Hp} {a : Addr} {rs : List Rq} {n : Int} (h : ReqsAt H a rs) (h0 : 0 ≤ n) (h1 : n < rs.length) : ∃ (vs : List V) (t : Addr), H a = some (.lst vs) ∧ atI vs n = some (.ref t) ∧ H t = some (.tup (r3 (getR rs n))) := by
  obtain ⟨vs, e, p⟩ := h
  obtain ⟨x, hx, t, rfl, q⟩ := Paired.getL p (getR_some h0 h1)
  exact ⟨vs, t, e, at_int h0 hx, q⟩
/-- requests[at][k] -/
theorem rd_part {K : PySem.W.Frag} {H : Hp} {a : Addr} {rs : List Rq} {n : Int} {ta ti : TE} {σ : L2.St} {Q : VK} (k : Nat) {z : V} (h : ReqsAt H a rs) (h0 : 0 ≤ n) (h1 : n < rs.length) (hk : (r3 (getR rs n))[k]? = some z)
    (ea : ∀ Q : VK, Q (.ref a) H → ta σ H Q) (ei : ∀ Q : VK, Q (.int n) H → ti σ H Q) (q : Q z H) : tOp (rIxT K) (tOp (rIxL K) ta ti) (tC (.int (k : Int))) σ H Q := by
  obtain ⟨vs, t, e, i, c⟩ := rd_req h h0 h1
  exact ea _ (ei _ ⟨_, _, _, _, rfl, rfl, SqL.of e, i, _, _, _, _, rfl, rfl, SqT.of c, atI_nat hk, q⟩)
theorem ReqsAt.len {H : Hp} {a : Addr} {rs : List Rq} (h : ReqsAt H a rs) : ∃ vs, H a = some (.lst vs) ∧ vs.length = rs.length := by
  obtain ⟨vs, e, p⟩ := h
  exact ⟨vs, e, p.length⟩
/-! ### comprehensions whose turns leave the heap as it is -/
section
variable {K : PySem.W.Frag} {a : Addr} {xs : List V} {g : TG} {tt : TT} {te : TE} {vs : List Nat} {σ : L2.St} {H1 : Hp} {D : Addr} {Qd : Hp → Prop} {α : Type} {R : V → α → Prop}
theorem take_snoc {β : Type} : ∀ {l : List β} {i : Nat} {x : β}, l[i]? = some x → l.take (i + 1) = l.take i ++ [x]
  | [], i, x, h => by simp at h
  | b :: l, 0, x, h => by
    have e := Option.some.inj h
    subst e
    rfl
  | b :: l, i + 1, x, h => by
    rw [List.take_succ_cons, take_snoc (l := l) (i := i) h]
    rfl
/-- over a list that stands still: f tells what is added at an item, none: nothing -/
theorem lc_fm (ys : List α) (f : α → Option V) (hs : SqL K H1 a xs) (hp : Paired R xs ys) (hz : ys.length ≤ sizeLine) (hD : H1 D = none)
    (turn : ∀ x y acc (Nx : Hp → Prop), R x y → y ∈ ys → (∀ z, f y = some z → ∃ acc', (upd H1 D (.lst acc)) D = some (.lst acc') ∧ acc'.length < sizeLine ∧ Nx (upd (upd H1 D (.lst acc)) D (.lst (acc' ++ [z])))) → (f y = none → Nx (upd H1 D (.lst acc))) →
      g x (wipe σ vs) (upd H1 D (.lst acc)) fun σ2 H2 => wipe σ2 vs = wipe σ vs ∧ tt σ2 H2 fun b H3 =>
        if b = true then te σ2 H3 fun y H4 => ∃ acc, H4 D = some (.lst acc) ∧ acc.length < sizeLine ∧ Nx (upd H4 D (.lst (acc ++ [y]))) else Nx H3)
    (fin : Qd (upd H1 D (.lst (ys.filterMap f)))) :
    ∃ W : Nat → Nat → Hp → Prop, (∃ m, W 0 m (upd H1 D (.lst []))) ∧ ∀ i m H, W i m H →
      ((Itl K a).stop i H ∧ Qd H) ∨ ((Itl K a).go i H ∧ ∃ Nx : Hp → Prop, (∀ H', Nx H' → ∃ m', m' < m ∧ W (i + 1) m' H') ∧ ∀ x H', (Itl K a).yld i H x H' → g x (wipe σ vs) H' fun σ2 H2 => wipe σ2 vs = wipe σ vs ∧ tt σ2 H2 fun b H3 =>
        if b = true then te σ2 H3 fun y H4 => ∃ acc, H4 D = some (.lst acc) ∧ acc.length < sizeLine ∧ Nx (upd H4 D (.lst (acc ++ [y]))) else Nx H3) := by
  refine lc_list (K := K) (a := a) (xs := xs) (fun i H => H = upd H1 D (.lst ((ys.take i).filterMap f))) rfl (fun i H _ e => by rw [e]; exact (Same.upd hD).seq hs) ?_ fun H e => ?_
  · rintro i x H hx rfl
    obtain ⟨y, hy, r⟩ := Paired.getR hp hx
    have ym : y ∈ ys := List.mem_of_getElem? hy
    have il : i < ys.length := (List.getElem?_eq_some_iff.mp hy).1
    refine turn x y _ (fun H => H = upd H1 D (.lst ((ys.take (i + 1)).filterMap f))) r ym (fun z e => ⟨_, upd_same, ?_, ?_⟩) fun e => ?_
    · refine Nat.lt_of_le_of_lt (List.length_filterMap_le _ _) ?_
      rw [List.length_take]
      omega
    · show _ = _
      rw [upd_upd, take_snoc hy, List.filterMap_append]
      simp [e]
    · show _ = _
      rw [take_snoc hy, List.filterMap_append]
      simp [e]
  · rw [e, show (ys.take xs.length) = ys by rw [hp.length, List.take_length]]
    exact fin
/-- .. over a tuple -/
theorem lc_fmT (ys : List α) (f : α → Option V) (hs : SqT K H1 a xs) (hp : Paired R xs ys) (hz : ys.length ≤ sizeLine) (hD : H1 D = none)
    (turn : ∀ x y acc (Nx : Hp → Prop), R x y → y ∈ ys → (∀ z, f y = some z → ∃ acc', (upd H1 D (.lst acc)) D = some (.lst acc') ∧ acc'.length < sizeLine ∧ Nx (upd (upd H1 D (.lst acc)) D (.lst (acc' ++ [z])))) → (f y = none → Nx (upd H1 D (.lst acc))) →
      g x (wipe σ vs) (upd H1 D (.lst acc)) fun σ2 H2 => wipe σ2 vs = wipe σ vs ∧ tt σ2 H2 fun b H3 =>
        if b = true then te σ2 H3 fun y H4 => ∃ acc, H4 D = some (.lst acc) ∧ acc.length < sizeLine ∧ Nx (upd H4 D (.lst (acc ++ [y]))) else Nx H3)
    (fin : Qd (upd H1 D (.lst (ys.filterMap f)))) :
    ∃ W : Nat → Nat → Hp → Prop, (∃ m, W 0 m (upd H1 D (.lst []))) ∧ ∀ i m H, W i m H →
      ((Itt K a).stop i H ∧ Qd H) ∨ ((Itt K a).go i H ∧ ∃ Nx : Hp → Prop, (∀ H', Nx H' → ∃ m', m' < m ∧ W (i + 1) m' H') ∧ ∀ x H', (Itt K a).yld i H x H' → g x (wipe σ vs) H' fun σ2 H2 => wipe σ2 vs = wipe σ vs ∧ tt σ2 H2 fun b H3 =>
        if b = true then te σ2 H3 fun y H4 => ∃ acc, H4 D = some (.lst acc) ∧ acc.length < sizeLine ∧ Nx (upd H4 D (.lst (acc ++ [y]))) else Nx H3) := by
  refine lc_tup (K := K) (a := a) (xs := xs) (fun i H => H = upd H1 D (.lst ((ys.take i).filterMap f))) rfl (fun i H _ e => by rw [e]; exact Same.tup (Same.upd hD) hs) ?_ fun H e => ?_
  · rintro i x H hx rfl
    obtain ⟨y, hy, r⟩ := Paired.getR hp hx
    have ym : y ∈ ys := List.mem_of_getElem? hy
    have il : i < ys.length := (List.getElem?_eq_some_iff.mp hy).1
    refine turn x y _ (fun H => H = upd H1 D (.lst ((ys.take (i + 1)).filterMap f))) r ym (fun z e => ⟨_, upd_same, ?_, ?_⟩) fun e => ?_
    · refine Nat.lt_of_le_of_lt (List.length_filterMap_le _ _) ?_
      rw [List.length_take]
      omega
    · show _ = _
      rw [upd_upd, take_snoc hy, List.filterMap_append]
      simp [e]
    · show _ = _
      rw [take_snoc hy, List.filterMap_append]
      simp [e]
  · rw [e, show (ys.take xs.length) = ys by rw [hp.length, List.take_length]]
    exact fin
/-- .. over a range from nought -/
theorem lc_fmR {lo : Int} {n : Nat} (f : Nat → Option V) (hz : n ≤ sizeLine) (hD : H1 D = none)
    (turn : ∀ i acc (Nx : Hp → Prop), i < n → (∀ z, f i = some z → ∃ acc', (upd H1 D (.lst acc)) D = some (.lst acc') ∧ acc'.length < sizeLine ∧ Nx (upd (upd H1 D (.lst acc)) D (.lst (acc' ++ [z])))) → (f i = none → Nx (upd H1 D (.lst acc))) →
      g (.int (lo + i)) (wipe σ vs) (upd H1 D (.lst acc)) fun σ2 H2 => wipe σ2 vs = wipe σ vs ∧ tt σ2 H2 fun b H3 =>
        if b = true then te σ2 H3 fun y H4 => ∃ acc, H4 D = some (.lst acc) ∧ acc.length < sizeLine ∧ Nx (upd H4 D (.lst (acc ++ [y]))) else Nx H3)
    (fin : Qd (upd H1 D (.lst ((List.range n).filterMap f)))) :
    ∃ W : Nat → Nat → Hp → Prop, (∃ m, W 0 m (upd H1 D (.lst []))) ∧ ∀ i m H, W i m H →
      ((Itr lo n).stop i H ∧ Qd H) ∨ ((Itr lo n).go i H ∧ ∃ Nx : Hp → Prop, (∀ H', Nx H' → ∃ m', m' < m ∧ W (i + 1) m' H') ∧ ∀ x H', (Itr lo n).yld i H x H' → g x (wipe σ vs) H' fun σ2 H2 => wipe σ2 vs = wipe σ vs ∧ tt σ2 H2 fun b H3 =>
        if b = true then te σ2 H3 fun y H4 => ∃ acc, H4 D = some (.lst acc) ∧ acc.length < sizeLine ∧ Nx (upd H4 D (.lst (acc ++ [y]))) else Nx H3) := by
  refine lc_range (lo := lo) (n := n) (fun i H => H = upd H1 D (.lst ((List.range i).filterMap f))) rfl ?_ fun H e => by rw [e]; exact fin
  rintro i H hi rfl
  refine turn i _ (fun H => H = upd H1 D (.lst ((List.range (i + 1)).filterMap f))) hi (fun z e => ⟨_, upd_same, ?_, ?_⟩) fun e => ?_
  · refine Nat.lt_of_le_of_lt (List.length_filterMap_le _ _) ?_
    rw [List.length_range]
    omega
  · show _ = _
    rw [upd_upd, List.range_succ, List.filterMap_append]
    simp [e]
  · show _ = _
    rw [List.range_succ, List.filterMap_append]
    simp [e]
theorem fm_map {β : Type} (p : α → β) (c : β → V) (ys : List α) : ys.filterMap (fun y => some (c (p y))) = (ys.map p).map c := by
  induction ys with
  | nil => rfl
  | cons y r ih => simp [ih]
theorem fm_filter (p : α → Bool) (c : α → V) (ys : List α) : ys.filterMap (fun y => if p y = true then some (c y) else none) = (ys.filter p).map c := by
  induction ys with
  | nil => rfl
  | cons y r ih =>
    rw [List.filterMap_cons, List.filter_cons]
    by_cases h : p y = true
    · simp [h, ih]
    · simp [h, ih]
end
end Spn

local macro_rules | `(tactic| walk_at "rd") => `(tactic| simp only [L2.tVar, L2.tC, L2.tCons, L2.tNil, L2.tOp, L2.tUn, L2.tCB, L2.tAndV, L2.tOrV, L2.tNotV, L2.tAnd, L2.tOr, L2.tNot, L2.tB, L2.tTest, L2.tChain, L2.tRet, L2.tAsg, L2.gName, L2.tNext, L2.tDrop, L2.tCall, L2.tTup, L2.tLst, L2.tIsN, L2.tNotN, L2.tIf, L2.tBM, L2.tBM0, L2.tSl, L2.tPart, L2.tNoPart, L2.tYes, L2.wipe, Spn.tShr, Spn.tShrT,
  L2.rI, L2.rI0, L2.rU, L2.ipI, L2.tAug, L2.tPar, L2.start, List.map_cons, List.map_nil, List.length_cons, List.length_nil, List.cons_append, List.nil_append, List.append_nil, List.getElem?_cons_zero, List.getElem?_cons_succ, List.set_cons_zero, List.set_cons_succ, List.replicate, Nat.reduceAdd, Nat.reduceSub,
  Option.some.injEq, L2.V.int.injEq, L2.V.bl.injEq, L2.V.ref.injEq, L2.V.str.injEq, exists_eq_left', exists_eq_left, exists_eq_right', exists_eq_right, and_true, true_and, exists_and_left, exists_and_right, Bool.not_true, Bool.not_false, decide_eq_true_eq, if_true, if_false, Bool.false_eq_true, ite_true, ite_false, reduceIte])

namespace Spn
open PySem PySem.Spec PyProof.Rows L2
/-! ### what the defs promise: requests, choices, tolls -/
/-- whether it is a whole number -/
def IsWh (H : Hp) (v : V) (b : Bool) : Prop :=
  ((∃ i, v = .int i) ∧ b = true) ∨ (((∃ x, v = .bl x) ∨ v = .non ∨ (∃ x, v = .str x) ∨ (∃ a xs, v = .ref a ∧ H a = some (.lst xs)) ∨ (∃ a xs, v = .ref a ∧ H a = some (.tup xs))) ∧ b = false)
theorem IsWh.int {H : Hp} {i : Int} : IsWh H (.int i) true := .inl ⟨⟨i, rfl⟩, rfl⟩
def sp_is_whole (K : PySem.W.Frag) (w : World) : Sp := fun vs H Q _ => ∃ v b, vs = [v] ∧ IsWh H v b ∧ NoT H ∧ Q (.bl b) H
def sp_is_request (K : PySem.W.Frag) (w : World) : Sp := fun vs H Q _ => ∃ v r, vs = [v] ∧ IsR H v r ∧ NoT H ∧ Q (.bl (decide (r.1 ≤ r.2.1) && decide (0 ≤ r.2.2))) H
def sp_check_requests (K : PySem.W.Frag) (w : World) : Sp := fun vs H Q _ => ∃ a rs, vs = [.ref a] ∧ ReqsAt H a rs ∧ OkR rs ∧ rs.length ≤ 1000 ∧ NoT H ∧ Q .non H
def sp_check_rooms (K : PySem.W.Frag) (w : World) : Sp := fun vs H Q _ => ∃ m l : Int, vs = [.int m, .int l] ∧ l ≤ m ∧ NoT H ∧ Q .non H
/-- counts of requests -/
def InR (n : Nat) (ns : List Int) : Prop := ∀ z ∈ ns, 0 ≤ z ∧ z < n
def sp_for_day (K : PySem.W.Frag) (w : World) : Sp := fun vs H Q _ => ∃ a b d rs ns, vs = [.ref a, .ref b, .int d] ∧ ReqsAt H a rs ∧ IntsAt H b ns ∧ InR rs.length ns ∧ ns.length ≤ 1000 ∧ NoT H ∧
  ∀ p, H p = none → Q (.ref p) (upd H p (.lst ((forDay rs ns d).map V.int)))
def sp_is_choice (K : PySem.W.Frag) (w : World) : Sp := fun vs H Q _ => ∃ a b rs ns, vs = [.ref a, .ref b] ∧ ReqsAt H a rs ∧ IntsAt H b ns ∧ NoT H ∧ Q (.bl (isChoice rs.length ns)) H
def sp_fits (K : PySem.W.Frag) (w : World) : Sp := fun vs H Q _ => ∃ a k b rs ns, vs = [.ref a, .int k, .ref b] ∧ ReqsAt H a rs ∧ IntsAt H b ns ∧ InR rs.length ns ∧ ns.length ≤ 1000 ∧ NoT H ∧ Q (.bl (fits rs k ns)) H
def sp_are_tolls (K : PySem.W.Frag) (w : World) : Sp := fun vs H Q _ => ∃ a τ, vs = [.ref a] ∧ TollsAt H a τ ∧ τ.length ≤ 1000 ∧ NoT H ∧ Q (.bl (areTolls τ)) H
def sp_worth_of (K : PySem.W.Frag) (w : World) : Sp := fun vs H Q _ => ∃ a b rs ns, vs = [.ref a, .ref b] ∧ ReqsAt H a rs ∧ IntsAt H b ns ∧ InR rs.length ns ∧ ns.length ≤ 1000 ∧ NoT H ∧ Q (.int (worth rs ns)) H
def sp_bound_by (K : PySem.W.Frag) (w : World) : Sp := fun vs H Q _ => ∃ a k b rs τ, vs = [.ref a, .int k, .ref b] ∧ ReqsAt H a rs ∧ TollsAt H b τ ∧ rs.length ≤ 1000 ∧ τ.length ≤ 1000 ∧ (-(2 ^ 64) < k ∧ k < 2 ^ 64) ∧ NoT H ∧ Q (.int (bound rs k τ)) H
def sp_is_best (K : PySem.W.Frag) (w : World) : Sp := fun vs H Q _ => ∃ a k b c rs ns τ, vs = [.ref a, .int k, .ref b, .ref c] ∧ ReqsAt H a rs ∧ IntsAt H b ns ∧ TollsAt H c τ ∧ rs.length ≤ 1000 ∧ ns.length ≤ 1000 ∧ τ.length ≤ 1000 ∧ (-(2 ^ 64) < k ∧ k < 2 ^ 64) ∧ NoT H ∧ Q (.bl (isBest rs k ns τ)) H
/-! ### answers -/
def bestF (p q : Addr) : List (Str × V) := [("taken", .ref p), ("tolls", .ref q)]
/-- a Best at x, as it stands -/
def BestAt (K : PySem.W.Frag) (H : Hp) (x p q : Addr) (ns : List Int) (τ : List (Int × Int)) : Prop := (∃ dx, H x = some (.ins (He.ga K "Best") dx (bestF p q))) ∧ IntsAt H p ns ∧ TollsAt H q τ
/-- a Best that is just made -/
def BestNew (K : PySem.W.Frag) (H H' : Hp) (x p q : Addr) (ns : List Int) (τ : List (Int × Int)) : Prop := Same H H' ∧ NoT H' ∧ H x = none ∧ H p = none ∧ H q = none ∧ p ≠ q ∧ BestAt K H' x p q ns τ
def sp_Best___init__ (K : PySem.W.Frag) (w : World) : Sp := fun vs H Q _ => ∃ x dx a b ts us, vs = [.ref x, .ref a, .ref b] ∧ H x = some (.ins (He.ga K "Best") dx []) ∧ H a = some (.lst ts) ∧ H b = some (.lst us) ∧ NoT H ∧
  ∀ H' p q, H p = none → H q = none → p ≠ q → H' x = some (.ins (He.ga K "Best") dx (bestF p q)) → H' p = some (.lst ts) → H' q = some (.lst us) → (∀ b o, H b = some o → b ≠ x → H' b = some o) → NoT H' → Q .non H'
def sp_Best_shows (K : PySem.W.Frag) (w : World) : Sp := fun vs H Q _ => ∃ x p q a k rs ns τ, vs = [.ref x, .ref a, .int k] ∧ BestAt K H x p q ns τ ∧ ReqsAt H a rs ∧ rs.length ≤ 1000 ∧ ns.length ≤ 1000 ∧ τ.length ≤ 1000 ∧ (-(2 ^ 64) < k ∧ k < 2 ^ 64) ∧ NoT H ∧
  Q (.bl (isBest rs k ns τ)) H
end Spn

namespace Spn
open PySem PySem.Spec PyProof.Rows L2
/-! ### readings -/
/-- is_whole -/
def t_is_whole (K : PySem.W.Frag) (w : World) : TS :=
  (tRet (tAndV (tCB (rIsi K) (tCons (tVar 0) (tCons (tC (.ty "int")) tNil))) (tNotV (tCB (rIsi K) (tCons (tVar 0) (tCons (tC (.ty "bool")) tNil))))))

/-- is_request -/
def t_is_request (K : PySem.W.Frag) (w : World) : TS :=
  (tSeq (tIfS (tOr (tNot (tB (tCB (rIsi K) (tCons (tVar 0) (tCons (tC (.ty "tuple")) tNil))))) (tOr (tTest (tOp rNe (tCB (qLen K) (tCons (tVar 0) tNil)) (tC (.int 3)))) (tNot (tB (tCB (rAll K) (tCons (tLc (iTup K (tVar 0)) (gName 1) tYes (tCall (sp_is_whole K w) [] E0 (tCons (tVar 1) tNil)) [1]) tNil)))))) (tRet (tC (.bl false))) tNext)
  (tRet (tAndV (tOp qLe (tOp (rIxT K) (tVar 0) (tC (.int 0))) (tOp (rIxT K) (tVar 0) (tC (.int 1)))) (tOp qGe (tOp (rIxT K) (tVar 0) (tC (.int 2))) (tC (.int 0))))))

/-- check_requests -/
def t_check_requests (K : PySem.W.Frag) (w : World) : TS :=
  (tIfS (tOr (tNot (tB (tCB (rIsi K) (tCons (tVar 0) (tCons (tC (.ty "list")) tNil))))) (tNot (tB (tCB (rAll K) (tCons (tLc (iList K (tVar 0)) (gName 1) tYes (tCall (sp_is_request K w) [] E0 (tCons (tVar 1) tNil)) [1]) tNil))))) tNever tNext)

/-- check_rooms -/
def t_check_rooms (K : PySem.W.Frag) (w : World) : TS :=
  (tIfS (tOr (tNot (tB (tCall (sp_is_whole K w) [] E0 (tCons (tVar 0) tNil)))) (tTest (tOp qLt (tVar 0) (tVar 1)))) tNever tNext)

/-- for_day -/
def t_for_day (K : PySem.W.Frag) (w : World) : TS :=
  (tRet (tLc (iList K (tVar 1)) (gName 3) (tTest (tChain qLe qLe (tOp (rIxT K) (tOp (rIxL K) (tVar 0) (tVar 3)) (tC (.int 0))) (tVar 2) (tOp (rIxT K) (tOp (rIxL K) (tVar 0) (tVar 3)) (tC (.int 1))))) (tVar 3) [3]))

/-- is_choice -/
def t_is_choice (K : PySem.W.Frag) (w : World) : TS :=
  (tSeq (tAsg (tUn qNeg (tC (.int 1))) (gName 2))
  (tSeq (tFor (iList K (tVar 1)) (gName 3) (tSeq (tIfS (tOr (tNot (tB (tCall (sp_is_whole K w) [] E0 (tCons (tVar 3) tNil)))) (tNot (tTest (tChain qLt qLt (tVar 2) (tVar 3) (tCB (qLen K) (tCons (tVar 0) tNil)))))) (tRet (tC (.bl false))) tNext)
  (tAsg (tVar 3) (gName 2))))
  (tRet (tC (.bl true)))))

/-- fits -/
def t_fits (K : PySem.W.Frag) (w : World) : TS :=
  (tRet (tCB (rAll K) (tCons (tLc (iList K (tVar 2)) (gName 3) tYes (tShr (tOp qLe (tCB (qLen K) (tCons (tCall (sp_for_day K w) [] E0 (tCons (tVar 0) (tCons (tVar 2) (tCons (tOp (rIxT K) (tOp (rIxL K) (tVar 0) (tVar 3)) (tC (.int 0))) tNil)))) tNil)) (tVar 1))) [3]) tNil)))

/-- are_tolls -/
def t_are_tolls (K : PySem.W.Frag) (w : World) : TS :=
  (tSeq (tIfS (tNot (tB (tCB (rAll K) (tCons (tLc (iList K (tVar 0)) (gTup K 2 (gCons (gName 2) (gCons (gName 3) gNil))) tYes (tAndV (tCall (sp_is_whole K w) [] E0 (tCons (tVar 2) tNil)) (tAndV (tCall (sp_is_whole K w) [] E0 (tCons (tVar 3) tNil)) (tOp qGe (tVar 3) (tC (.int 0))))) [2, 3]) tNil)))) (tRet (tC (.bl false))) tNext)
  (tRet (tCB (rAll K) (tCons (tLc (iRng2 (tCons (tC (.int 1)) (tCons (tCB (qLen K) (tCons (tVar 0) tNil)) tNil))) (gName 1) tYes (tOp qLt (tOp (rIxT K) (tOp (rIxL K) (tVar 0) (tOp qSub (tVar 1) (tC (.int 1)))) (tC (.int 0))) (tOp (rIxT K) (tOp (rIxL K) (tVar 0) (tVar 1)) (tC (.int 0)))) [1]) tNil))))

/-- worth_of -/
def t_worth_of (K : PySem.W.Frag) (w : World) : TS :=
  (tRet (tCB (rSum K) (tCons (tLc (iList K (tVar 1)) (gName 2) tYes (tOp (rIxT K) (tOp (rIxL K) (tVar 0) (tVar 2)) (tC (.int 2))) [2]) tNil)))

/-- bound_by -/
def t_bound_by (K : PySem.W.Frag) (w : World) : TS :=
  (tSeq (tAsg (tOp qMul (tVar 1) (tCB (rSum K) (tCons (tLc (iList K (tVar 2)) (gTup K 2 (gCons (gName 8) (gCons (gName 9) gNil))) tYes (tVar 9) [8, 9]) tNil))) (gName 3))
  (tSeq (tFor (iList K (tVar 0)) (gTup K 3 (gCons (gName 4) (gCons (gName 5) (gCons (gName 6) gNil)))) (tSeq (tAsg (tCB (rSum K) (tCons (tLc (iList K (tVar 2)) (gTup K 2 (gCons (gName 8) (gCons (gName 9) gNil))) (tTest (tChain qLe qLe (tVar 4) (tVar 8) (tVar 5))) (tVar 9) [8, 9]) tNil)) (gName 7))
  (tAug 3 (tCB qMax2 (tCons (tC (.int 0)) (tCons (tOp qSub (tVar 6) (tVar 7)) tNil))) qAddI)))
  (tRet (tVar 3))))

/-- is_best -/
def t_is_best (K : PySem.W.Frag) (w : World) : TS :=
  (tSeq (tIfS (tOr (tNot (tB (tCall (sp_is_choice K w) [] E0 (tCons (tVar 0) (tCons (tVar 2) tNil))))) (tOr (tNot (tB (tCall (sp_fits K w) [] E0 (tCons (tVar 0) (tCons (tVar 1) (tCons (tVar 2) tNil)))))) (tNot (tB (tCall (sp_are_tolls K w) [] E0 (tCons (tVar 3) tNil)))))) (tRet (tC (.bl false))) tNext)
  (tRet (tOp rEq (tCall (sp_worth_of K w) [] E0 (tCons (tVar 0) (tCons (tVar 2) tNil))) (tCall (sp_bound_by K w) [] E0 (tCons (tVar 0) (tCons (tVar 1) (tCons (tVar 3) tNil)))))))

/-- Best.__init__ -/
def t_Best___init__ (K : PySem.W.Frag) (w : World) : TS :=
  (tSeq (sFld K (tVar 0) (tCB (qList K) (tCons (tVar 1) tNil)) "taken")
  (sFld K (tVar 0) (tCB (qList K) (tCons (tVar 2) tNil)) "tolls"))

/-- Best.shows -/
def t_Best_shows (K : PySem.W.Frag) (w : World) : TS :=
  (tRet (tCall (sp_is_best K w) [] E0 (tCons (tVar 1) (tCons (tVar 2) (tCons (tFld K (tVar 0) "taken") (tCons (tFld K (tVar 0) "tolls") tNil))))))

end Spn

namespace Spn
open PySem PySem.Spec PyProof.Rows L2
abbrev Fin (H : Hp) (Q Q0 : VK) : Prop := ∀ v H' H'', Shr H H'' H' → Q v H'' → Q0 v H'
theorem Fin.same {H : Hp} {Q Q0 : VK} (fin : Fin H Q Q0) (n : NoT H) {v : V} {H' : Hp} (s : Same H H') (q : Q v H) : Q0 v H' := fin _ _ _ (Shr.none n s) q
/-- the end of a def's body -/
abbrev endS (Q0 : VK) : Ends := { nx := fun _ H' => Q0 .non H', rt := Q0 }
theorem seq_i {t u : TS} {D : Ends} {σ : L2.St} {H : Hp} (h : ∀ nx : L2.St → Hp → Prop, (∀ σ' H', u D σ' H' → nx σ' H') → t { D with nx := nx } σ H) : tSeq t u D σ H := h (u D) (fun _ _ h => h)
theorem if_i {c : TT} {t u : TS} {D : Ends} {σ : L2.St} {H : Hp} (h : ∀ th el : Hp → Prop, (∀ H1, t D σ H1 → th H1) → (∀ H1, u D σ H1 → el H1) → c σ H fun b H1 => if b = true then th H1 else el H1) : tIfS c t u D σ H := h _ _ (fun _ h => h) (fun _ h => h)
section
variable {K : PySem.W.Frag} {w : World} {vs : List V} {H : Hp} {Q Q0 : VK} {E : XK}
/-! ### comprehensions as expressions -/
section
variable {a : Addr} {xs : List V} {g : TG} {tt : TT} {te : TE} {vs : List Nat} {σ : L2.St} {α : Type} {R : V → α → Prop} {ta : TE}
theorem tLc_list (ys : List α) (f : α → Option V) (ea : ∀ R : VK, R (.ref a) H → ta σ H R) (hs : H a = some (.lst xs)) (hp : Paired R xs ys) (hz : ys.length ≤ sizeLine)
    (turn : ∀ D x y acc (Nx : Hp → Prop), H D = none → R x y → y ∈ ys → (∀ z, f y = some z → ∃ acc', (upd H D (.lst acc)) D = some (.lst acc') ∧ acc'.length < sizeLine ∧ Nx (upd (upd H D (.lst acc)) D (.lst (acc' ++ [z])))) → (f y = none → Nx (upd H D (.lst acc))) →
      g x (wipe σ vs) (upd H D (.lst acc)) fun σ2 H2 => wipe σ2 vs = wipe σ vs ∧ tt σ2 H2 fun b H3 =>
        if b = true then te σ2 H3 fun y H4 => ∃ acc, H4 D = some (.lst acc) ∧ acc.length < sizeLine ∧ Nx (upd H4 D (.lst (acc ++ [y]))) else Nx H3)
    (fin : ∀ D, H D = none → Q (.ref D) (upd H D (.lst (ys.filterMap f)))) : tLc (iList K ta) g tt te vs σ H Q :=
  ea _ ⟨a, rfl, ⟨xs, SqL.of hs⟩, fun D hD => lc_fm ys f (SqL.of hs) hp hz hD (fun x y acc Nx => turn D x y acc Nx hD) (fin D hD)⟩
theorem tLc_tup (ys : List α) (f : α → Option V) (ea : ∀ R : VK, R (.ref a) H → ta σ H R) (hs : H a = some (.tup xs)) (hp : Paired R xs ys) (hz : ys.length ≤ sizeLine)
    (turn : ∀ D x y acc (Nx : Hp → Prop), H D = none → R x y → y ∈ ys → (∀ z, f y = some z → ∃ acc', (upd H D (.lst acc)) D = some (.lst acc') ∧ acc'.length < sizeLine ∧ Nx (upd (upd H D (.lst acc)) D (.lst (acc' ++ [z])))) → (f y = none → Nx (upd H D (.lst acc))) →
      g x (wipe σ vs) (upd H D (.lst acc)) fun σ2 H2 => wipe σ2 vs = wipe σ vs ∧ tt σ2 H2 fun b H3 =>
        if b = true then te σ2 H3 fun y H4 => ∃ acc, H4 D = some (.lst acc) ∧ acc.length < sizeLine ∧ Nx (upd H4 D (.lst (acc ++ [y]))) else Nx H3)
    (fin : ∀ D, H D = none → Q (.ref D) (upd H D (.lst (ys.filterMap f)))) : tLc (iTup K ta) g tt te vs σ H Q :=
  ea _ ⟨a, rfl, ⟨xs, SqT.of hs⟩, fun D hD => lc_fmT ys f (SqT.of hs) hp hz hD (fun x y acc Nx => turn D x y acc Nx hD) (fin D hD)⟩
theorem tLc_rng1 {n : Nat} (f : Nat → Option V) {ta : TA} (ea : ∀ R : List V → Hp → Prop, R [.int n] H → ta σ H R) (hz : n ≤ sizeLine)
    (turn : ∀ D i acc (Nx : Hp → Prop), H D = none → i < n → (∀ z, f i = some z → ∃ acc', (upd H D (.lst acc)) D = some (.lst acc') ∧ acc'.length < sizeLine ∧ Nx (upd (upd H D (.lst acc)) D (.lst (acc' ++ [z])))) → (f i = none → Nx (upd H D (.lst acc))) →
      g (.int (0 + i)) (wipe σ vs) (upd H D (.lst acc)) fun σ2 H2 => wipe σ2 vs = wipe σ vs ∧ tt σ2 H2 fun b H3 =>
        if b = true then te σ2 H3 fun y H4 => ∃ acc, H4 D = some (.lst acc) ∧ acc.length < sizeLine ∧ Nx (upd H4 D (.lst (acc ++ [y]))) else Nx H3)
    (fin : ∀ D, H D = none → Q (.ref D) (upd H D (.lst ((List.range n).filterMap f)))) : tLc (iRng1 ta) g tt te vs σ H Q := by
  refine ea _ ⟨n, rfl, by omega, by rw [sizeLine_eq] at hz; omega, fun D hD => ?_⟩
  rw [Int.toNat_natCast]
  exact lc_fmR f hz hD (fun i acc Nx => turn D i acc Nx hD) (fin D hD)
theorem tLc_rng2 {lo hi : Int} {n : Nat} (f : Nat → Option V) {ta : TA} (ea : ∀ R : List V → Hp → Prop, R [.int lo, .int hi] H → ta σ H R) (b1 : -(2 ^ 62) ≤ lo ∧ lo < 2 ^ 62 ∧ -(2 ^ 62) ≤ hi ∧ hi < 2 ^ 62) (en : (hi - lo).toNat = n) (hz : n ≤ sizeLine)
    (turn : ∀ D i acc (Nx : Hp → Prop), H D = none → i < n → (∀ z, f i = some z → ∃ acc', (upd H D (.lst acc)) D = some (.lst acc') ∧ acc'.length < sizeLine ∧ Nx (upd (upd H D (.lst acc)) D (.lst (acc' ++ [z])))) → (f i = none → Nx (upd H D (.lst acc))) →
      g (.int (lo + i)) (wipe σ vs) (upd H D (.lst acc)) fun σ2 H2 => wipe σ2 vs = wipe σ vs ∧ tt σ2 H2 fun b H3 =>
        if b = true then te σ2 H3 fun y H4 => ∃ acc, H4 D = some (.lst acc) ∧ acc.length < sizeLine ∧ Nx (upd H4 D (.lst (acc ++ [y]))) else Nx H3)
    (fin : ∀ D, H D = none → Q (.ref D) (upd H D (.lst ((List.range n).filterMap f)))) : tLc (iRng2 ta) g tt te vs σ H Q := by
  refine ea _ ⟨lo, hi, rfl, b1, fun D hD => ?_⟩
  rw [en]
  exact lc_fmR f hz hD (fun i acc Nx => turn D i acc Nx hD) (fin D hD)
end
theorem le1000 {n : Nat} (h : n ≤ 1000) : n ≤ sizeLine := Nat.le_of_lt (small1000 h)
/-- all(..) of a new list of truths -/
theorem all_new {D : Addr} {bs : List Bool} {l : List V} (e : l = bs.map V.bl) (q : Q (.bl (bs.all id)) (upd H D (.lst l))) : rAll K [.ref D] (upd H D (.lst l)) Q := ⟨D, bs, rfl, by rw [e]; exact SqL.of upd_same, q⟩
theorem any_new {D : Addr} {bs : List Bool} {l : List V} (e : l = bs.map V.bl) (q : Q (.bl (bs.any id)) (upd H D (.lst l))) : rAny K [.ref D] (upd H D (.lst l)) Q := ⟨D, bs, rfl, by rw [e]; exact SqL.of upd_same, q⟩
theorem sum_new {D : Addr} {bs : List Int} {l : List V} (e : l = bs.map V.int) (q : Q (.int bs.sum) (upd H D (.lst l))) : rSum K [.ref D] (upd H D (.lst l)) Q := ⟨D, bs, rfl, by rw [e]; exact SqL.of upd_same, q⟩
/-- an item, by its place -/
theorem rix_tup {t : Addr} {xs : List V} {z : Int} {v : V} {Q : VK} (h : H t = some (.tup xs)) (h0 : 0 ≤ z) (e : xs[z.toNat]? = some v) (q : Q v H) : rIxT K (.ref t) (.int z) H Q := ⟨_, _, _, _, rfl, rfl, SqT.of h, at_int h0 e, q⟩
theorem rix_lst {t : Addr} {xs : List V} {z : Int} {v : V} {Q : VK} (h : H t = some (.lst xs)) (h0 : 0 ≤ z) (e : xs[z.toNat]? = some v) (q : Q v H) : rIxL K (.ref t) (.int z) H Q := ⟨_, _, _, _, rfl, rfl, SqL.of h, at_int h0 e, q⟩
theorem rlen_lst {t : Addr} {xs : List V} {n : Nat} {Q : VK} (h : H t = some (.lst xs)) (e : xs.length = n) (q : Q (.int n) H) : qLen K [.ref t] H Q := ⟨_, _, rfl, .inl (SqL.of h), by rw [e]; exact q⟩
theorem rlen_tup {t : Addr} {xs : List V} {n : Nat} {Q : VK} (h : H t = some (.tup xs)) (e : xs.length = n) (q : Q (.int n) H) : qLen K [.ref t] H Q := ⟨_, _, rfl, .inr (SqT.of h), by rw [e]; exact q⟩
/-- requests[at], requests[at][k] -/
theorem rix_req {a : Addr} {rs : List Rq} {n : Int} {Q : VK} (h : ReqsAt H a rs) (h0 : 0 ≤ n) (h1 : n < rs.length) (q : ∀ t, H t = some (.tup (r3 (getR rs n))) → Q (.ref t) H) : rIxL K (.ref a) (.int n) H Q := by
  obtain ⟨vs, t, e, i, c⟩ := rd_req h h0 h1
  exact ⟨_, _, _, _, rfl, rfl, SqL.of e, i, q t c⟩
/-- a tuple into names -/
theorem gtup2 {t : Addr} {x y : V} {i j : Nat} {σ : L2.St} {P : L2.St → Hp → Prop} (h : H t = some (.tup [x, y])) (p : P ((σ.set i (some x)).set j (some y)) H) : gTup K 2 (gCons (gName i) (gCons (gName j) gNil)) (.ref t) σ H P := ⟨_, _, rfl, SqT.of h, rfl, _, _, rfl, _, _, rfl, rfl, p⟩
theorem gtup3 {t : Addr} {x y z : V} {i j l : Nat} {σ : L2.St} {P : L2.St → Hp → Prop} (h : H t = some (.tup [x, y, z])) (p : P (((σ.set i (some x)).set j (some y)).set l (some z)) H) : gTup K 3 (gCons (gName i) (gCons (gName j) (gCons (gName l) gNil))) (.ref t) σ H P := ⟨_, _, rfl, SqT.of h, rfl, _, _, rfl, _, _, rfl, _, _, rfl, rfl, p⟩
theorem gtup4 {t : Addr} {x y z u : V} {i j l m : Nat} {σ : L2.St} {P : L2.St → Hp → Prop} (h : H t = some (.tup [x, y, z, u])) (p : P ((((σ.set i (some x)).set j (some y)).set l (some z)).set m (some u)) H) : gTup K 4 (gCons (gName i) (gCons (gName j) (gCons (gName l) (gCons (gName m) gNil)))) (.ref t) σ H P := ⟨_, _, rfl, SqT.of h, rfl, _, _, rfl, _, _, rfl, _, _, rfl, _, _, rfl, rfl, p⟩
theorem rne_int {i j : Int} {Q : VK} (q : Q (.bl (!decide (i = j))) H) : rNe (.int i) (.int j) H Q := ⟨rfl, by
  have e : decide (V.int i = V.int j) = decide (i = j) := by simp
  rw [e]; exact q⟩
theorem req_int {i j : Int} {Q : VK} (q : Q (.bl (decide (i = j))) H) : rEq (.int i) (.int j) H Q := ⟨rfl, by
  have e : decide (V.int i = V.int j) = decide (i = j) := by simp
  rw [e]; exact q⟩
/-- isinstance(v, T), T built in, by the type's name -/
theorem isi_of {v : V} {S T : String} {b : Bool} {Q : VK} (ty : TyX K H v (.type S)) (k : kitB S T = some b) (q : Q (.bl b) H) : rIsi K [v, .ty T] H Q := ⟨v, .ty T, _, _, b, rfl, .ty T, ty, kit_ty k, q⟩
theorem pure_is_whole (h : sp_is_whole K w vs H Q E) (fin : Fin H Q Q0) : t_is_whole K w (endS Q0) (start ["thing"] vs) H := by
  obtain ⟨v, b, rfl, hb, n, q⟩ := h
  unfold t_is_whole
  try walk_at "rd"
  have go : ∀ (S : String) (b1 b2 : Bool), TyX K H v (.type S) → kitB S "int" = some b1 → kitB S "bool" = some b2 → (b1 && !b2) = b → rIsi K [v, .ty "int"] H fun x H1 => ∃ c, x = .bl c ∧ if c = true then rIsi K [v, .ty "bool"] H1 fun x H1 => ∃ c, x = .bl c ∧ Q0 (.bl !c) H1 else Q0 (.bl false) H1 := fun S b1 b2 ty k1 k2 eb => by
    refine isi_of ty k1 ⟨_, rfl, ?_⟩
    cases b1 with
    | false =>
      rw [if_neg Bool.false_ne_true]
      exact fin.same n (Same.refl H) (by rw [← eb] at q; exact q)
    | true =>
      rw [if_pos rfl]
      exact isi_of ty k2 ⟨_, rfl, fin.same n (Same.refl H) (by rw [← eb] at q; exact q)⟩
  rcases hb with ⟨⟨i, rfl⟩, rfl⟩ | ⟨(⟨x, rfl⟩ | rfl | ⟨x, rfl⟩ | ⟨a, xs, rfl, ea⟩ | ⟨a, xs, rfl, ea⟩), rfl⟩
  · exact go "int" true false (.base (.int i)) (by decide +kernel) (by decide +kernel) rfl
  · exact go "bool" true true (.base (.bl x)) (by decide +kernel) (by decide +kernel) rfl
  · exact go "NoneType" false false (.base .non) (by decide +kernel) (by decide +kernel) rfl
  · exact go "str" false false (.base (.str x)) (by decide +kernel) (by decide +kernel) rfl
  · exact go "list" false false (.base (.lst ea)) (by decide +kernel) (by decide +kernel) rfl
  · exact go "tuple" false false (.base (.tup ea)) (by decide +kernel) (by decide +kernel) rfl
theorem pure_is_request (h : sp_is_request K w vs H Q E) (fin : Fin H Q Q0) : t_is_request K w (endS Q0) (start ["thing", "one"] vs) H := by
  obtain ⟨v, r, rfl, ⟨t, rfl, ht⟩, n, q⟩ := h
  refine seq_i fun nx k => if_i fun th el h1 h2 => ?_
  try walk_at "rd"
  refine isi_of (.base (.tup ht)) (by decide +kernel : kitB "tuple" "tuple" = some true) ⟨_, rfl, iteF ?_⟩
  refine rlen_tup ht (n := 3) rfl (rne_int ⟨_, rfl, ?_⟩)
  rw [if_neg (by decide)]
  refine tLc_tup (R := fun v i => v = V.int i) [r.1, r.2.1, r.2.2] (fun _ => some (.bl true)) (fun R h => ⟨_, rfl, h⟩) ht (.cons rfl (.cons rfl (.cons rfl .nil))) (le1000 (by show 3 ≤ 1000; decide)) ?_ ?_
  · rintro D _ i acc Nx hD rfl _ add _
    try walk_at "rd"
    exact ⟨_, _, rfl, IsWh.int, n.upd, add _ rfl⟩
  · intro D hD
    refine all_new (bs := [true, true, true]) rfl ⟨_, rfl, ?_⟩
    refine iteF (h2 _ (k _ _ ?_))
    have s := Same.upd (o := .lst ([r.1, r.2.1, r.2.2].filterMap fun _ => some (V.bl true))) hD
    try walk_at "rd"
    refine rix_tup (s _ _ ht) (by decide) rfl ?_
    try walk_at "rd"
    refine rix_tup (s _ _ ht) (by decide) rfl ?_
    try walk_at "rd"
    by_cases c : r.1 ≤ r.2.1
    · rw [decide_eq_true c] at q
      rw [if_pos c]
      refine rix_tup (s _ _ ht) (by decide) rfl ?_
      try walk_at "rd"
      exact fin.same n s q
    · rw [decide_eq_false c] at q
      rw [if_neg c]
      exact fin.same n s q
theorem pure_check_requests (h : sp_check_requests K w vs H Q E) (fin : Fin H Q Q0) : t_check_requests K w (endS Q0) (start ["requests", "request"] vs) H := by
  obtain ⟨a, rs, rfl, ⟨ts, ea, pr⟩, ok, hz, n, q⟩ := h
  refine if_i fun th el h1 h2 => ?_
  try walk_at "rd"
  refine isi_of (.base (.lst ea)) (by decide +kernel : kitB "list" "list" = some true) ⟨_, rfl, iteF ?_⟩
  refine tLc_list rs (fun _ => some (.bl true)) (fun R h => ⟨_, rfl, h⟩) ea pr (le1000 hz) ?_ ?_
  · rintro D v r acc Nx hD ⟨t, rfl, ht⟩ hr add _
    try walk_at "rd"
    refine ⟨_, r, rfl, ⟨t, rfl, Same.upd hD _ _ ht⟩, n.upd, ?_⟩
    rw [decide_eq_true (ok r hr).1, decide_eq_true (ok r hr).2]
    exact add _ rfl
  · intro D hD
    refine all_new (bs := rs.map fun _ => true) (by rw [fm_map (fun _ => true) V.bl]) ⟨_, rfl, ?_⟩
    have e : (rs.map fun _ => true).all id = true := by simp
    rw [e]
    exact iteF (h2 _ (fin.same n (Same.upd hD) q))
theorem pure_check_rooms (h : sp_check_rooms K w vs H Q E) (fin : Fin H Q Q0) : t_check_rooms K w (endS Q0) (start ["rooms", "least"] vs) H := by
  obtain ⟨m, l, rfl, le, n, q⟩ := h
  refine if_i fun th el h1 h2 => ?_
  try walk_at "rd"
  refine ⟨_, _, rfl, IsWh.int, n, _, rfl, ?_⟩
  rw [if_neg (by decide), if_neg (by omega)]
  exact h2 _ (fin.same n (Same.refl H) q)
theorem ints_paired (ns : List Int) : Paired (fun v i => v = V.int i) (ns.map V.int) ns := Paired.ofMap (F := fun v i => v = V.int i) (fun _ => rfl) ns
theorem pure_for_day (h : sp_for_day K w vs H Q E) (fin : Fin H Q Q0) : t_for_day K w (endS Q0) (start ["requests", "some", "day", "at"] vs) H := by
  obtain ⟨a, b, d, rs, ns, rfl, hr, hb, hin, hz, n, q⟩ := h
  unfold t_for_day
  try walk_at "rd"
  refine tLc_list ns (fun i => if covers (getR rs i) d = true then some (.int i) else none) (fun R h => ⟨_, rfl, h⟩) hb (ints_paired ns) (le1000 hz) ?_ ?_
  · rintro D _ i acc Nx hD rfl hi add skip
    obtain ⟨i0, i1⟩ := hin i hi
    have hr' := hr.same (Same.upd (o := .lst acc) hD)
    try walk_at "rd"
    refine rix_req hr' i0 i1 fun t ht => rix_tup ht (by decide) rfl ?_
    try walk_at "rd"
    by_cases c : (getR rs i).1 ≤ d
    · rw [if_pos c]
      refine rix_req hr' i0 i1 fun t ht => rix_tup ht (by decide) rfl ?_
      try walk_at "rd"
      by_cases c2 : d ≤ (getR rs i).2.1
      · have z : covers (getR rs i) d = true := covers_iff.mpr ⟨c, c2⟩
        rw [if_pos c2]
        exact add _ (if_pos z)
      · have z : ¬ covers (getR rs i) d = true := fun z => c2 (covers_iff.mp z).2
        rw [if_neg c2]
        exact skip (if_neg z)
    · have z : ¬ covers (getR rs i) d = true := fun z => c (covers_iff.mp z).1
      rw [if_neg c]
      exact skip (if_neg z)
  · intro D hD
    rw [fm_filter (fun i => covers (getR rs i) d) V.int]
    exact fin _ _ _ (Shr.one n (Same.upd hD) hD upd_same (fun _ _ _ z => by cases z)) (q D hD)
theorem pure_is_choice (h : sp_is_choice K w vs H Q E) (fin : Fin H Q Q0) : t_is_choice K w (endS Q0) (start ["requests", "some", "last", "at"] vs) H := by
  obtain ⟨a, b, rs, ns, rfl, hr, hb, n, q⟩ := h
  obtain ⟨ts, ea, pr⟩ := hr
  have el := pr.length
  refine seq_i fun nx k => ?_
  try walk_at "rd"
  refine k _ _ (seq_i fun nx2 k2 => ?_)
  refine ⟨_, rfl, b, rfl, ⟨_, SqL.of hb⟩, for_list (K := K) (a := b) (xs := ns.map V.int) (fun i σ H' => H' = H ∧ ∃ (l : Int) (v : Option V), σ = [some (.ref a), some (.ref b), some (.int l), v] ∧ isChoice rs.length ns = choiceFrom rs.length l (ns.drop i)) ⟨rfl, -1, none, rfl, by rw [List.drop_zero] <;> rfl⟩ (fun i σ H' _ ⟨e, _⟩ => by rw [e]; exact SqL.of hb) ?_ ?_⟩
  · rintro i y σ H' hi ⟨rfl, l, v, rfl, ec⟩
    obtain ⟨z, hz, rfl⟩ := Paired.getR (ints_paired ns) hi
    have hd : ns.drop i = z :: ns.drop (i + 1) := by
      obtain ⟨h1, h2⟩ := List.getElem?_eq_some_iff.mp hz
      rw [List.drop_eq_getElem_cons h1, h2]
    rw [hd] at ec
    unfold choiceFrom at ec
    refine seq_i fun nx3 k3 => if_i fun th el' h1 h2 => ?_
    try walk_at "rd"
    refine ⟨_, _, rfl, IsWh.int, n, _, rfl, ?_⟩
    rw [if_neg (by decide)]
    have ret : (decide (l < z ∧ z < (rs.length : Int)) = false) → th H' := fun e => h1 _ (by
      rw [e] at ec
      try walk_at "rd"
      rw [Bool.false_and] at ec
      rw [ec] at q
      exact fin.same n (Same.refl H') q)
    by_cases c : l < z
    · rw [if_pos c]
      refine rlen_lst ea el ?_
      try walk_at "rd"
      by_cases c2 : z < (rs.length : Int)
      · rw [if_neg (by rw [decide_eq_true c2]; decide)]
        refine h2 _ (k3 _ _ ?_)
        refine ⟨_, rfl, rfl, z, some (.int z), rfl, ?_⟩
        rw [ec, decide_eq_true ⟨c, c2⟩, Bool.true_and]
      · rw [if_pos (by rw [decide_eq_false c2]; rfl)]
        exact ret (decide_eq_false fun z => c2 z.2)
    · rw [if_neg c]
      exact ret (decide_eq_false fun z => c z.1)
  · rintro σ H' ⟨rfl, l, v, rfl, ec⟩
    refine k2 _ _ ?_
    try walk_at "rd"
    rw [List.length_map, List.drop_length] at ec
    rw [ec] at q
    exact fin.same n (Same.refl H') q
end
end Spn

namespace Spn
open PySem PySem.Spec PyProof.Rows L2
section
variable {K : PySem.W.Frag} {w : World} {vs : List V} {H : Hp} {Q Q0 : VK} {E : XK}
theorem fm_mem {α : Type} {f g : α → Option V} {ys : List α} (h : ∀ y ∈ ys, f y = g y) : ys.filterMap f = ys.filterMap g := by
  induction ys with
  | nil => rfl
  | cons y r ih => rw [List.filterMap_cons, List.filterMap_cons, h y List.mem_cons_self, ih fun z hz => h z (List.mem_cons_of_mem _ hz)]
theorem pure_fits (h : sp_fits K w vs H Q E) (fin : Fin H Q Q0) : t_fits K w (endS Q0) (start ["requests", "rooms", "some", "at"] vs) H := by
  obtain ⟨a, m, b, rs, ns, rfl, hr, hb, hin, hz, n, q⟩ := h
  unfold t_fits
  try walk_at "rd"
  refine tLc_list ns (fun i => some (.bl (decide (((forDay rs ns (getR rs i).1).length : Int) ≤ m)))) (fun R h => ⟨_, rfl, h⟩) hb (ints_paired ns) (le1000 hz) ?_ ?_
  · rintro D _ i acc Nx hD rfl hi add skip
    obtain ⟨i0, i1⟩ := hin i hi
    have s := Same.upd (o := .lst acc) hD
    have hr' := hr.same s
    try walk_at "rd"
    refine rix_req hr' i0 i1 fun t ht => rix_tup ht (by decide) rfl ?_
    refine ⟨a, b, _, rs, ns, rfl, hr', s _ _ hb, hin, hz, n.upd, fun p hp => ?_⟩
    refine rlen_lst upd_same (List.length_map _) ?_
    try walk_at "rd"
    exact ⟨_, Shr.none n.upd (Same.upd hp), add _ rfl⟩
  · intro D hD
    refine all_new (bs := ns.map fun i => decide (((forDay rs ns (getR rs i).1).length : Int) ≤ m)) (fm_map _ V.bl ns) ?_
    refine fin.same n (Same.upd hD) ?_
    have e : (ns.map fun i => decide (((forDay rs ns (getR rs i).1).length : Int) ≤ m)).all id = fits rs m ns := by
      rw [List.all_map]
      rfl
    rw [e]
    exact q
theorem all_rising : ∀ (τ : List (Int × Int)), ((List.range (τ.length - 1)).map fun k => decide ((τ.getD k (0, 0)).1 < (τ.getD (k + 1) (0, 0)).1)).all id = risingT τ
  | [] => rfl
  | [_] => rfl
  | x :: y :: r => by
    have ih := all_rising (y :: r)
    show ((List.range (r.length + 1)).map _).all id = (decide (x.1 < y.1) && risingT (y :: r))
    rw [← ih, List.range_succ_eq_map, List.map_cons, List.all_cons, List.map_map]
    rfl
theorem rd_toll {a : Addr} {τ : List (Int × Int)} {n : Nat} (h : TollsAt H a τ) (h1 : n < τ.length) : ∃ (vs : List V) (t : Addr), H a = some (.lst vs) ∧ vs[n]? = some (.ref t) ∧ H t = some (.tup (t2 (τ.getD n (0, 0)))) := by
  obtain ⟨vs, e, p⟩ := h
  have g : τ[n]? = some (τ.getD n (0, 0)) := by
    rw [List.getD_eq_getElem?_getD, List.getElem?_eq_getElem h1]
    rfl
  obtain ⟨x, hx, t, rfl, q⟩ := Paired.getL p g
  exact ⟨vs, t, e, hx, q⟩
theorem rix_toll {a : Addr} {τ : List (Int × Int)} {z : Int} {n : Nat} {Q : VK} (h : TollsAt H a τ) (e : z = n) (h1 : n < τ.length) (q : ∀ t, H t = some (.tup (t2 (τ.getD n (0, 0)))) → Q (.ref t) H) : rIxL K (.ref a) (.int z) H Q := by
  obtain ⟨vs, t, ea, i, c⟩ := rd_toll h h1
  exact rix_lst ea (by omega) (by rw [show z.toNat = n by omega]; exact i) (q t c)
theorem pure_are_tolls (h : sp_are_tolls K w vs H Q E) (fin : Fin H Q Q0) : t_are_tolls K w (endS Q0) (start ["tolls", "day", "amount", "k"] vs) H := by
  obtain ⟨a, τ, rfl, ⟨ts, ea, pr⟩, hz, n, q⟩ := h
  refine seq_i fun nx k => if_i fun th el h1 h2 => ?_
  try walk_at "rd"
  refine tLc_list τ (fun t => some (.bl (decide (0 ≤ t.2)))) (fun R h => ⟨_, rfl, h⟩) ea pr (le1000 hz) ?_ ?_
  · rintro D _ t acc Nx hD ⟨p, rfl, hp⟩ ht add skip
    refine gtup2 (Same.upd hD _ _ hp) ?_
    try walk_at "rd"
    refine ⟨_, _, rfl, IsWh.int, n.upd, ?_⟩
    try walk_at "rd"
    refine ⟨_, _, rfl, IsWh.int, n.upd, ?_⟩
    try walk_at "rd"
    exact add _ rfl
  · intro D hD
    have s := Same.upd (o := .lst (τ.filterMap fun t => some (.bl (decide (0 ≤ t.2))))) hD
    refine all_new (bs := τ.map fun t => decide (0 ≤ t.2)) (fm_map _ V.bl τ) ⟨_, rfl, ?_⟩
    have e : (τ.map fun t => decide (0 ≤ t.2)).all id = τ.all fun t => decide (0 ≤ t.2) := by
      rw [List.all_map]
      rfl
    rw [e]
    unfold areTolls at q
    cases c : τ.all fun t => decide (0 ≤ t.2) with
    | false =>
      refine iteT (h1 _ ?_)
      try walk_at "rd"
      rw [c, Bool.false_and] at q
      exact fin.same n s q
    | true =>
      rw [c, Bool.true_and] at q
      refine iteF (h2 _ (k _ _ ?_))
      try walk_at "rd"
      have ta : TollsAt H a τ := ⟨ts, ea, pr⟩
      refine tLc_rng2 (lo := 1) (hi := (τ.length : Int)) (n := τ.length - 1) (fun i => some (.bl (decide ((τ.getD i (0, 0)).1 < (τ.getD (i + 1) (0, 0)).1)))) (fun R h => ?_) (by omega) (by omega) (by rw [sizeLine_eq]; omega) ?_ ?_
      · try walk_at "rd"
        refine rlen_lst (s _ _ ea) pr.length ?_
        exact h
      · rintro D2 i acc Nx hD2 hi add skip
        have s2 := Same.upd2 (o := .lst acc) s hD2
        try walk_at "rd"
        refine rix_toll (ta.same s2) (n := i) (by omega) (by omega) fun t ht => rix_tup ht (by decide) rfl ?_
        try walk_at "rd"
        refine rix_toll (ta.same s2) (n := i + 1) (by omega) (by omega) fun t ht => rix_tup ht (by decide) rfl ?_
        try walk_at "rd"
        exact add _ rfl
      · intro D2 hD2
        refine all_new (bs := (List.range (τ.length - 1)).map fun i => decide ((τ.getD i (0, 0)).1 < (τ.getD (i + 1) (0, 0)).1)) (fm_map _ V.bl _) ?_
        rw [all_rising]
        exact fin.same n (Same.upd2 s hD2) q
theorem pure_worth_of (h : sp_worth_of K w vs H Q E) (fin : Fin H Q Q0) : t_worth_of K w (endS Q0) (start ["requests", "some", "at"] vs) H := by
  obtain ⟨a, b, rs, ns, rfl, hr, hb, hin, hz, n, q⟩ := h
  unfold t_worth_of
  try walk_at "rd"
  refine tLc_list ns (fun i => some (.int (getR rs i).2.2)) (fun R h => ⟨_, rfl, h⟩) hb (ints_paired ns) (le1000 hz) ?_ ?_
  · rintro D _ i acc Nx hD rfl hi add skip
    obtain ⟨i0, i1⟩ := hin i hi
    try walk_at "rd"
    refine rix_req (hr.same (Same.upd hD)) i0 i1 fun t ht => rix_tup ht (by decide) rfl ?_
    exact add _ rfl
  · intro D hD
    refine sum_new (bs := ns.map fun i => (getR rs i).2.2) (fm_map _ V.int ns) ?_
    exact fin.same n (Same.upd hD) q
theorem tollOf_fm (τ : List (Int × Int)) (r : Rq) : τ.filterMap (fun t => if covers r t.1 = true then some (V.int t.2) else none) = ((τ.filter fun t => covers r t.1).map (·.2)).map V.int := by
  rw [fm_filter (fun t : Int × Int => covers r t.1) (fun t : Int × Int => V.int t.2), List.map_map]
  rfl
theorem pure_bound_by (h : sp_bound_by K w vs H Q E) (fin : Fin H Q Q0) : t_bound_by K w (endS Q0) (start ["requests", "rooms", "tolls", "total", "first", "last", "price", "toll", "day", "amount"] vs) H := by
  obtain ⟨a, m, b, rs, τ, rfl, hr, hb, hz, hzt, hm, n, q⟩ := h
  obtain ⟨ts, ea, pr⟩ := hr
  obtain ⟨us, eb, pt⟩ := hb
  refine seq_i fun nx k => ?_
  try walk_at "rd"
  refine tLc_list τ (fun t => some (.int t.2)) (fun R h => ⟨_, rfl, h⟩) eb pt (le1000 hzt) ?_ ?_
  · rintro D _ t acc Nx hD ⟨p, rfl, hp⟩ ht add skip
    refine gtup2 (Same.upd hD _ _ hp) ?_
    try walk_at "rd"
    exact add _ rfl
  intro D hD
  have s := Same.upd (o := .lst (τ.filterMap fun t => some (.int t.2))) hD
  refine sum_new (bs := τ.map (·.2)) (fm_map _ V.int τ) ?_
  refine ⟨_, rfl, .inl hm, k _ _ (seq_i fun nx2 k2 => ?_)⟩
  try walk_at "rd"
  refine ⟨_, rfl, a, rfl, ⟨_, SqL.of (s _ _ ea)⟩, for_list (K := K) (a := a) (xs := ts) (fun i σ H' => Same H H' ∧ ∃ x1 x2 x3 x4 x5 x6, σ = [some (.ref a), some (.int m), some (.ref b), some (.int (m * tollSum τ + ((rs.take i).map (gainOf τ)).sum)), x1, x2, x3, x4, x5, x6]) ?_ (fun i σ H' _ ⟨e, _⟩ => SqL.of (e _ _ ea)) ?_ ?_⟩
  · refine ⟨s, none, none, none, none, none, none, ?_⟩
    simp [tollSum]
  · rintro i v σ H' hi ⟨s', x1, x2, x3, x4, x5, x6, rfl⟩
    obtain ⟨r, hr, p, rfl, hp⟩ := Paired.getR pr hi
    refine gtup3 (s' _ _ hp) (seq_i fun nx3 k3 => ?_)
    try walk_at "rd"
    refine tLc_list τ (fun t => if covers r t.1 = true then some (.int t.2) else none) (fun R h => ⟨_, rfl, h⟩) (s' _ _ eb) (pt.mono fun _ _ q => q.same s') (le1000 hzt) ?_ ?_
    · rintro D2 _ t acc Nx hD2 ⟨p2, rfl, hp2⟩ ht add skip
      refine gtup2 (Same.upd hD2 _ _ hp2) ?_
      try walk_at "rd"
      by_cases c : r.1 ≤ t.1
      · rw [if_pos c]
        by_cases c2 : t.1 ≤ r.2.1
        · rw [if_pos c2]
          exact add _ (if_pos (covers_iff.mpr ⟨c, c2⟩))
        · rw [if_neg c2]
          exact skip (if_neg fun z => c2 (covers_iff.mp z).2)
      · rw [if_neg c]
        try walk_at "rd"
        exact skip (if_neg fun z => c (covers_iff.mp z).1)
    · intro D2 hD2
      rw [tollOf_fm]
      refine sum_new (bs := (τ.filter fun t => covers r t.1).map (·.2)) rfl (k3 _ _ ?_)
      try walk_at "rd"
      refine ⟨_, _, rfl, ?_⟩
      try walk_at "rd"
      refine ⟨Same.upd2 s' hD2, ?_⟩
      rw [take_snoc hr, List.map_append, List.sum_append]
      refine ⟨_, _, _, _, _, _, congrArg (fun z => [some (V.ref a), some (V.int m), some (V.ref b), some (V.int z), _, _, _, _, _, _]) ?_⟩
      simp only [List.map_cons, List.map_nil, List.sum_cons, List.sum_nil, gainOf, tollOf]
      rw [Int.max_def]
      split <;> split <;> omega
  · rintro σ H' ⟨s', x1, x2, x3, x4, x5, x6, rfl⟩
    refine k2 _ _ ?_
    try walk_at "rd"
    rw [pr.length, List.take_length]
    exact fin.same n s' q
end
end Spn

namespace Spn
open PySem PySem.Spec PyProof.Rows L2
section
variable {K : PySem.W.Frag} {w : World} {vs : List V} {H : Hp} {Q Q0 : VK} {E : XK}
theorem choice_in {n : Nat} {ns : List Int} (h : isChoice n ns = true) : InR n ns := fun z hz => by
  obtain ⟨ks, rfl, _, hb⟩ := choice_nat h
  obtain ⟨k, hk, rfl⟩ := List.mem_map.mp hz
  have := hb k hk
  show 0 ≤ (k : Int) ∧ (k : Int) < n
  omega
theorem pure_is_best (h : sp_is_best K w vs H Q E) (fin : Fin H Q Q0) : t_is_best K w (endS Q0) (start ["requests", "rooms", "some", "tolls"] vs) H := by
  obtain ⟨a, m, b, c, rs, ns, τ, rfl, hr, hb, ht, hz, hzn, hzt, hm, n, q⟩ := h
  refine seq_i fun nx k => if_i fun th el h1 h2 => ?_
  have s := Same.refl H
  unfold isBest at q
  have no : ((isChoice rs.length ns && fits rs m ns && areTolls τ && decide (worth rs ns = bound rs m τ)) = false) → th H := fun e => h1 _ (by
    try walk_at "rd"
    rw [e] at q
    exact fin.same n s q)
  try walk_at "rd"
  refine ⟨_, _, _, _, rfl, hr, hb, n, _, rfl, ?_⟩
  cases c1 : isChoice rs.length ns with
  | false => exact iteT (no (by rw [c1]; rfl))
  | true =>
    have hin := choice_in c1
    refine iteF ⟨_, _, _, _, _, rfl, hr, hb, hin, hzn, n, _, rfl, ?_⟩
    cases c2 : fits rs m ns with
    | false => exact iteT (no (by rw [c1, c2]; rfl))
    | true =>
      refine iteF ⟨_, _, rfl, ht, hzt, n, _, rfl, ?_⟩
      cases c3 : areTolls τ with
      | false => exact iteT (no (by rw [c1, c2, c3]; rfl))
      | true =>
        refine iteF (h2 _ (k _ _ ?_))
        try walk_at "rd"
        refine ⟨_, _, _, _, rfl, hr, hb, hin, hzn, n, ?_⟩
        refine ⟨_, _, _, _, _, rfl, hr, ht, hz, hzt, hm, n, req_int ?_⟩
        rw [c1, c2, c3] at q
        exact fin.same n s q
theorem ne_tk : ¬ (("taken" : Str) = "tolls") := by decide +kernel
theorem putF_nil (f : Str) (v : V) : putF f v [] = [(f, v)] := rfl
theorem putF_here {f : Str} {v x : V} {r : List (Str × V)} : putF f v ((f, x) :: r) = (f, v) :: r := if_pos rfl
theorem putF_past {f g : Str} {v x : V} {r : List (Str × V)} (h : ¬ g = f) : putF f v ((g, x) :: r) = (g, x) :: putF f v r := if_neg h
theorem lk_here {k : Str} {v : V} {r : List (Str × V)} : List.lookup k ((k, v) :: r) = some v := by
  have e : (k == k) = true := beq_self_eq_true k
  simp only [List.lookup, e]
theorem lk_past {k g : Str} {v : V} {r : List (Str × V)} (h : (k == g) = false) : List.lookup k ((g, v) :: r) = List.lookup k r := by
  simp only [List.lookup, h]
theorem pure_Best___init__ (cl : Cls K (He.ga K "Best")) (n1 : NoAttr K (He.ga K "Best") "taken") (n2 : NoAttr K (He.ga K "Best") "tolls") (h : sp_Best___init__ K w vs H Q E) (fin : Fin H Q Q0) : t_Best___init__ K w (endS Q0) (start ["self", "taken", "tolls"] vs) H := by
  obtain ⟨x, dx, a, b, ts, us, rfl, hx, ha, hb, n, q⟩ := h
  refine seq_i fun nx k => ?_
  refine ⟨_, rfl, a, ts, rfl, .inl (SqL.of ha), fun p hp => ?_⟩
  have nxp : x ≠ p := ne_of_none hx hp
  refine ⟨_, rfl, x, _, dx, _, rfl, by rw [upd_ne nxp]; exact hx, cl, n1, by show 0 < 1000; decide, k _ _ ?_⟩
  have hb' : (upd (upd H p (.lst ts)) x (.ins (He.ga K "Best") dx [("taken", .ref p)])) b = some (.lst us) := by
    have nbx : b ≠ x := ne_of hb hx (by intro z; cases z)
    rw [upd_ne nbx, upd_ne (ne_of_none hb hp)]
    exact hb
  refine ⟨_, rfl, b, us, rfl, .inl (SqL.of hb'), fun p2 hp2 => ?_⟩
  have nxp2 : x ≠ p2 := fun z => by rw [← z, upd_same] at hp2; cases hp2
  have npp : p ≠ p2 := fun z => by rw [← z, upd_ne nxp.symm, upd_same] at hp2; cases hp2
  have hp20 : H p2 = none := by rw [upd_ne nxp2.symm, upd_ne npp.symm] at hp2; exact hp2
  refine ⟨_, rfl, x, _, dx, _, rfl, by rw [upd_ne nxp2, upd_same], cl, n2, by show 1 < 1000; decide, ?_⟩
  rw [putF_nil, putF_past ne_tk, putF_nil]
  have keep : ∀ b' o, H b' = some o → b' ≠ x → (upd (upd (upd (upd H p (.lst ts)) x (.ins (He.ga K "Best") dx [("taken", .ref p)])) p2 (.lst us)) x (.ins (He.ga K "Best") dx [("taken", .ref p), ("tolls", .ref p2)])) b' = some o := fun b' o e ne => by
    rw [upd_ne ne, upd_ne (ne_of_none e hp20), upd_ne ne, upd_ne (ne_of_none e hp)]
    exact e
  have nt : NoT (upd (upd (upd (upd H p (.lst ts)) x (.ins (He.ga K "Best") dx [("taken", .ref p)])) p2 (.lst us)) x (.ins (He.ga K "Best") dx [("taken", .ref p), ("tolls", .ref p2)])) := (((n.upd).upd).upd).upd
  refine fin _ _ _ ⟨fun b o e => rfl, fun b o e => e, fun a' C0 dx0 fs e => ?_, nt⟩ (q _ p p2 hp hp20 npp upd_same (by rw [upd_ne nxp.symm, upd_ne npp, upd_ne nxp.symm, upd_same]) (by rw [upd_ne nxp2.symm, upd_same]) keep nt)
  by_cases z : a' = x
  · subst z
    rw [upd_same] at e
    cases e
    exact .inl ⟨_, _, hx⟩
  · rw [upd_ne z] at e
    by_cases z2 : a' = p2
    · subst z2
      rw [upd_same] at e
      cases e
    · rw [upd_ne z2, upd_ne z] at e
      by_cases z3 : a' = p
      · subst z3
        rw [upd_same] at e
        cases e
      · rw [upd_ne z3] at e
        exact .inl ⟨_, _, e⟩
theorem bf_taken (p q : Addr) : (bestF p q).lookup ("taken" : Str) = some (.ref p) := lk_here
theorem bf_tolls (p q : Addr) : (bestF p q).lookup ("tolls" : Str) = some (.ref q) := (lk_past (by decide +kernel)).trans lk_here
/-- a field of an instance -/
theorem rfld {C dx a : Addr} {fs : List (Str × V)} {f : Str} {v : V} {ta : TE} {σ : L2.St} {Q : VK} (ea : ∀ Q : VK, Q (.ref a) H → ta σ H Q) (h : H a = some (.ins C dx fs)) (cl : Cls K C) (n : NoAttr K C f) (l : fs.lookup f = some v) (q : Q v H) : tFld K ta f σ H Q := ea _ ⟨a, C, dx, fs, v, rfl, h, cl, n, l, q⟩
theorem pure_Best_shows (cl : Cls K (He.ga K "Best")) (n1 : NoAttr K (He.ga K "Best") "taken") (n2 : NoAttr K (He.ga K "Best") "tolls") (h : sp_Best_shows K w vs H Q E) (fin : Fin H Q Q0) : t_Best_shows K w (endS Q0) (start ["self", "requests", "rooms"] vs) H := by
  obtain ⟨x, p, r, a, m, rs, ns, τ, rfl, ⟨⟨dx, hx⟩, hp, hq⟩, hr, hz, hzn, hzt, hm, n, q⟩ := h
  unfold t_Best_shows
  try walk_at "rd"
  refine rfld (fun Q h => ⟨_, rfl, h⟩) hx cl n1 (bf_taken p r) (rfld (fun Q h => ⟨_, rfl, h⟩) hx cl n2 (bf_tolls p r) ?_)
  exact ⟨_, _, _, _, _, _, _, rfl, hr, hp, hq, hz, hzn, hzt, hm, n, fin.same n (Same.refl H) q⟩
end
end Spn

namespace Spn
open PySem PySem.Spec PyProof.Rows L2
/-! ### rooms led along days -/
def waysF (ld le lt li : Addr) : List (Str × V) := [("days", .ref ld), ("ends", .ref le), ("taken", .ref lt), ("idle", .ref li)]
def IsE (H : Hp) (v : V) (e : Nat × Nat × Int) : Prop := ∃ t, v = .ref t ∧ H t = some (.tup [.int e.1, .int e.2.1, .int e.2.2])
def tkF (tk : List Bool) (i : Nat) : Bool := tk.getD i false
def idF (id : List Int) (j : Nat) : Int := id.getD j 0
/-- a Ways at a, its four lists -/
structure WA (K : PySem.W.Frag) (H : Hp) (N : Net) (a ld le lt li : Addr) (ds : List Int) (es : List (Nat × Nat × Int)) (tk : List Bool) (id : List Int) : Prop where
  ins : ∃ dx, H a = some (.ins (He.ga K "Ways") dx (waysF ld le lt li))
  days : IntsAt H ld ds
  ends : ∃ vs, H le = some (.lst vs) ∧ Paired (IsE H) vs es
  taken : H lt = some (.lst (tk.map V.bl))
  idle : IntsAt H li id
  ne : li ≠ ld
  nt : lt ≠ li
  lds : ds.length = N.L + 1
  lid : id.length = N.L
  ltk : tk.length = N.n
  les : es.length = N.n
  es : ∀ i, i < N.n → es[i]? = some (N.fi i, N.ei i, N.p i)
  zn : N.n ≤ 450
  zL : N.L ≤ 900
structure WaysC (K : PySem.W.Frag) : Prop where
  cl : Cls K (He.ga K "Ways")
  nd : NoAttr K (He.ga K "Ways") "days"
  ne : NoAttr K (He.ga K "Ways") "ends"
  nt : NoAttr K (He.ga K "Ways") "taken"
  ni : NoAttr K (He.ga K "Ways") "idle"
def IsSt (H : Hp) (v : V) (st : Net.Stp) : Prop := ∃ t u, v = .ref t ∧ H t = some (.tup [.int st.s, .int st.e, .int st.m, .ref u]) ∧ H u = some (.tup [.int st.kd, .int st.ix])
def IsO (H : Hp) (v : V) (o : Option Net.Stp) : Prop := match o with
  | none => v = .non
  | some st => IsSt H v st
def StepsAt (H : Hp) (p : Addr) (sts : List Net.Stp) : Prop := ∃ vs, H p = some (.lst vs) ∧ Paired (IsSt H) vs sts
def CameAt (H : Hp) (p : Addr) (cm : List (Option Net.Stp)) : Prop := ∃ vs, H p = some (.lst vs) ∧ Paired (IsO H) vs cm
def sp_Ways_steps (K : PySem.W.Frag) (w : World) : Sp := fun vs H Q _ => ∃ a N ld le lt li ds es tk id, vs = [.ref a] ∧ WA K H N a ld le lt li ds es tk id ∧ NoT H ∧
  ∀ H' p sts, Same H H' → NoT H' → H p = none → StepsAt H' p sts → (∀ st, st ∈ sts ↔ N.IsStep (idF id) (tkF tk) st) → sts.length ≤ 4000 → Q (.ref p) H'
def sp_Ways_most (K : PySem.W.Frag) (w : World) : Sp := fun vs H Q _ => ∃ a N ld le lt li ds es tk id, vs = [.ref a] ∧ WA K H N a ld le lt li ds es tk id ∧ NoT H ∧ (∃ φ, N.Feas φ (idF id) (tkF tk)) ∧
  ∀ H' t pb pc ψ cm, Same H H' → NoT H' → H' t = some (.tup [.ref pb, .ref pc]) → H pc = none → H' pb = some (.lst ((List.range (N.L + 1)).map fun v => V.int (ψ v))) → CameAt H' pc cm → N.Done (idF id) (tkF tk) ψ cm → Q (.ref t) H'
def sp_Ways_lead (K : PySem.W.Frag) (w : World) : Sp := fun vs H Q _ => ∃ a N ld le lt li ds es tk id k, vs = [.ref a] ∧ WA K H N a ld le lt li ds es tk id ∧ NoT H ∧ N.Flow (idF id) (tkF tk) k ∧ (∃ φ, N.Feas φ (idF id) (tkF tk)) ∧
  ∀ tk' id', tk'.length = N.n → id'.length = N.L → N.Flow (idF id') (tkF tk') (k + 1) → (∃ φ, N.Feas φ (idF id') (tkF tk')) → Q .non (upd (upd H lt (.lst (tk'.map V.bl))) li (.lst (id'.map V.int)))
def sp_Ways_choice (K : PySem.W.Frag) (w : World) : Sp := fun vs H Q _ => ∃ a N ld le lt li ds es tk id, vs = [.ref a] ∧ WA K H N a ld le lt li ds es tk id ∧ NoT H ∧
  ∀ p, H p = none → Q (.ref p) (upd H p (.lst ((takenOf N.n (tkF tk)).map V.int)))
def sp_Ways_amounts (K : PySem.W.Frag) (w : World) : Sp := fun vs H Q _ => ∃ a N ld le lt li ds es tk id, vs = [.ref a] ∧ WA K H N a ld le lt li ds es tk id ∧ NoT H ∧ (∃ φ, N.Feas φ (idF id) (tkF tk)) ∧
  ∀ H' p φ, Same H H' → NoT H' → H p = none → TollsAt H' p (tollsOf N.L (idF ds) φ) → N.Feas φ (idF id) (tkF tk) → Q (.ref p) H'
def sp_Ways___init__ (K : PySem.W.Frag) (w : World) : Sp := fun vs H Q _ => ∃ x dx a m rs, vs = [.ref x, .ref a, .int m] ∧ H x = some (.ins (He.ga K "Ways") dx []) ∧ ReqsAt H a rs ∧ OkR rs ∧ rs ≠ [] ∧ rs.length ≤ 450 ∧ 0 ≤ m ∧ NoT H ∧
  ∀ H' N ld le lt li ds es tk id, (∀ b o, H b = some o → b ≠ x → H' b = some o) → NoT H' → WA K H' N x ld le lt li ds es tk id → NetOf N rs (idF ds) → N.Flow (idF id) (tkF tk) m → (∃ φ, N.Feas φ (idF id) (tkF tk)) → Q .non H'
def sp_best_of (K : PySem.W.Frag) (w : World) : Sp := fun vs H Q _ => ∃ a m rs, vs = [.ref a, .int m] ∧ ReqsAt H a rs ∧ OkR rs ∧ rs.length ≤ 450 ∧ 0 ≤ m ∧ NoT H ∧
  ∀ H' t p q ns τ, Same H H' → NoT H' → H t = none → H p = none → H q = none → p ≠ q → H' t = some (.tup [.ref p, .ref q]) → IntsAt H' p ns → TollsAt H' q τ → isBest rs m ns τ = true → τ.length ≤ 900 → Q (.ref t) H'
def sp_best (K : PySem.W.Frag) (w : World) : Sp := fun vs H Q _ => ∃ a m rs, vs = [.ref a, .int m] ∧ ReqsAt H a rs ∧ OkR rs ∧ rs.length ≤ 450 ∧ 0 ≤ m ∧ NoT H ∧
  ∀ H' x p q ns τ, BestNew K H H' x p q ns τ → isBest rs m ns τ = true → τ.length ≤ 900 → Q (.ref x) H'
end Spn

namespace Spn
open PySem PySem.Spec PyProof.Rows L2
/-! ### readings -/
/-- Ways.__init__ -/
def t_Ways___init__ (K : PySem.W.Frag) (w : World) : TS :=
  (tSeq (tAsg (tOp rCat (tLc (iList K (tVar 1)) (gName 8) tYes (tOp (rIxT K) (tVar 8) (tC (.int 0))) [8]) (tLc (iList K (tVar 1)) (gName 8) tYes (tOp qAdd (tOp (rIxT K) (tVar 8) (tC (.int 1))) (tC (.int 1))) [8])) (gName 3))
  (tSeq (sFld K (tVar 0) (tCB (rSortedSetI w) (tCons (tCB (rSetOf K w) (tCons (tVar 3) tNil)) tNil)) "days")
  (tSeq (sFld K (tVar 0) (tLc (iList K (tVar 1)) (gTup K 3 (gCons (gName 5) (gCons (gName 6) (gCons (gName 7) gNil)))) tYes (tTup (tCons (tBM K "list" (rIndex K) (tFld K (tVar 0) "days") (tCons (tVar 5) tNil)) (tCons (tBM K "list" (rIndex K) (tFld K (tVar 0) "days") (tCons (tOp qAdd (tVar 6) (tC (.int 1))) tNil)) (tCons (tVar 7) tNil)))) [5, 6, 7]) "ends")
  (tSeq (sFld K (tVar 0) (tLc (iList K (tVar 1)) (gName 8) tYes (tC (.bl false)) [8]) "taken")
  (tSeq (sFld K (tVar 0) (tLc (iList K (L2.tSl (rSlL K) (tFld K (tVar 0) "days") (tPart (tC (.int 1))) tNoPart)) (gName 9) tYes (tC (.int 0)) [9]) "idle")
  (tSeq (tFor (iRng1 (tCons (tCB qMin2 (tCons (tVar 2) (tCons (tCB (qLen K) (tCons (tVar 1) tNil)) tNil))) tNil)) (gName 4) (tDrop (tMeth (He.ga K "Ways") "lead" (sp_Ways_lead K w) [] E0 (tVar 0) tNil)))
  (tIfS (tTest (tOp qGt (tVar 2) (tCB (qLen K) (tCons (tVar 1) tNil)))) (sFld K (tVar 0) (tLc (iList K (tFld K (tVar 0) "idle")) (gName 10) tYes (tOp qSub (tOp qAdd (tVar 10) (tVar 2)) (tCB (qLen K) (tCons (tVar 1) tNil))) [10]) "idle") tNext)))))))

/-- Ways.steps -/
def t_Ways_steps (K : PySem.W.Frag) (w : World) : TS :=
  (tSeq (tAsg (tLst tNil) (gName 1))
  (tSeq (tAsg (tLst tNil) (gName 2))
  (tSeq (tFor (iRng1 (tCons (tCB (qLen K) (tCons (tFld K (tVar 0) "idle") tNil)) tNil)) (gName 3) (tSeq (tDrop (tBM K "list" rAppend (tVar 1) (tCons (tTup (tCons (tVar 3) (tCons (tOp qAdd (tVar 3) (tC (.int 1))) (tCons (tC (.int 0)) (tCons (tTup (tCons (tC (.int 0)) (tCons (tVar 3) tNil))) tNil))))) tNil)))
  (tIfS (tTest (tOp qGt (tOp (rIxL K) (tFld K (tVar 0) "idle") (tVar 3)) (tC (.int 0)))) (tDrop (tBM K "list" rAppend (tVar 2) (tCons (tTup (tCons (tOp qAdd (tVar 3) (tC (.int 1))) (tCons (tVar 3) (tCons (tC (.int 0)) (tCons (tTup (tCons (tC (.int 1)) (tCons (tVar 3) tNil))) tNil))))) tNil))) tNext)))
  (tSeq (tFor (iEnum K (tCons (tFld K (tVar 0) "ends") tNil)) (gTup K 2 (gCons (gName 3) (gCons (gName 4) gNil))) (tSeq (tAsg (tVar 4) (gTup K 3 (gCons (gName 5) (gCons (gName 6) (gCons (gName 7) gNil)))))
  (tIfS (tB (tOp (rIxL K) (tFld K (tVar 0) "taken") (tVar 3))) (tDrop (tBM K "list" rAppend (tVar 2) (tCons (tTup (tCons (tVar 6) (tCons (tVar 5) (tCons (tUn qNeg (tVar 7)) (tCons (tTup (tCons (tC (.int 3)) (tCons (tVar 3) tNil))) tNil))))) tNil))) (tDrop (tBM K "list" rAppend (tVar 1) (tCons (tTup (tCons (tVar 5) (tCons (tVar 6) (tCons (tVar 7) (tCons (tTup (tCons (tC (.int 2)) (tCons (tVar 3) tNil))) tNil))))) tNil))))))
  (tRet (tOp rCat (tCB (rSortedD K) (tCons (tVar 1) tNil)) (tRevL K (tCB (rSortedD K) (tCons (tVar 2) tNil)))))))))

/-- Ways.most -/
def t_Ways_most (K : PySem.W.Frag) (w : World) : TS :=
  (tSeq (tAsg (tMeth (He.ga K "Ways") "steps" (sp_Ways_steps K w) [] E0 (tVar 0) tNil) (gName 1))
  (tSeq (tAsg (tLc (iList K (tFld K (tVar 0) "days")) (gName 10) tYes (tC .non) [10]) (gName 2))
  (tSeq (tAsg (tC (.int 0)) (gSub (tVar 2) (tC (.int 0)) L2.rSetL))
  (tSeq (tAsg (tLc (iList K (tFld K (tVar 0) "days")) (gName 10) tYes (tC .non) [10]) (gName 3))
  (tSeq (tAsg (tC (.bl true)) (gName 4))
  (tSeq (tWhile (tB (tVar 4)) (tSeq (tAsg (tC (.bl false)) (gName 4))
  (tFor (iList K (tVar 1)) (gName 5) (tSeq (tAsg (tVar 5) (gTup K 4 (gCons (gName 6) (gCons (gName 7) (gCons (gName 8) (gCons (gName 9) gNil))))))
  (tIfS (tAnd (tB (tNotN (tOp (rIxL K) (tVar 2) (tVar 6)))) (tOr (tB (tIsN (tOp (rIxL K) (tVar 2) (tVar 7)))) (tTest (tOp qGt (tOp qAdd (tOp (rIxL K) (tVar 2) (tVar 6)) (tVar 8)) (tOp (rIxL K) (tVar 2) (tVar 7)))))) (tSeq (tAsg (tOp qAdd (tOp (rIxL K) (tVar 2) (tVar 6)) (tVar 8)) (gSub (tVar 2) (tVar 7) L2.rSetL))
  (tSeq (tAsg (tVar 5) (gSub (tVar 3) (tVar 7) L2.rSetL))
  (tAsg (tC (.bl true)) (gName 4)))) tNext)))))
  (tRet (tTup (tCons (tVar 2) (tCons (tVar 3) tNil))))))))))

/-- Ways.lead -/
def t_Ways_lead (K : PySem.W.Frag) (w : World) : TS :=
  (tSeq (tAsg (tMeth (He.ga K "Ways") "most" (sp_Ways_most K w) [] E0 (tVar 0) tNil) (gTup K 2 (gCons (gName 1) (gCons (gName 2) gNil))))
  (tSeq (tAsg (tOp qSub (tCB (qLen K) (tCons (tFld K (tVar 0) "days") tNil)) (tC (.int 1))) (gName 3))
  (tWhile (tTest (tOp qGt (tVar 3) (tC (.int 0)))) (tSeq (tAsg (tOp (rIxL K) (tVar 2) (tVar 3)) (gTup K 4 (gCons (gName 4) (gCons (gName 5) (gCons (gName 6) (gCons (gName 7) gNil))))))
  (tSeq (tAsg (tVar 7) (gTup K 2 (gCons (gName 8) (gCons (gName 9) gNil))))
  (tSeq (tIfS (tTest (tOp qLt (tVar 8) (tC (.int 2)))) (tAugS (tFld K (tVar 0) "idle") (tVar 9) (tOp qSub (tC (.int 1)) (tOp qMul (tC (.int 2)) (tVar 8))) (rGetL K) qAddI L2.rSetL) (tAsg (tOp rEq (tVar 8) (tC (.int 2))) (gSub (tFld K (tVar 0) "taken") (tVar 9) L2.rSetL)))
  (tAsg (tVar 4) (gName 3))))))))

/-- Ways.choice -/
def t_Ways_choice (K : PySem.W.Frag) (w : World) : TS :=
  (tRet (tLc (iEnum K (tCons (tFld K (tVar 0) "taken") tNil)) (gTup K 2 (gCons (gName 1) (gCons (gName 2) gNil))) (tB (tVar 2)) (tVar 1) [1, 2]))

/-- Ways.amounts -/
def t_Ways_amounts (K : PySem.W.Frag) (w : World) : TS :=
  (tSeq (tAsg (tMeth (He.ga K "Ways") "most" (sp_Ways_most K w) [] E0 (tVar 0) tNil) (gTup K 2 (gCons (gName 1) (gCons (gName 2) gNil))))
  (tSeq (tAsg (tLst tNil) (gName 3))
  (tSeq (tFor (iRng1 (tCons (tCB (qLen K) (tCons (tFld K (tVar 0) "idle") tNil)) tNil)) (gName 4) (tIfS (tTest (tOp qGt (tOp (rIxL K) (tVar 1) (tOp qAdd (tVar 4) (tC (.int 1)))) (tOp (rIxL K) (tVar 1) (tVar 4)))) (tDrop (tBM K "list" rAppend (tVar 3) (tCons (tTup (tCons (tOp (rIxL K) (tFld K (tVar 0) "days") (tVar 4)) (tCons (tOp qSub (tOp (rIxL K) (tVar 1) (tOp qAdd (tVar 4) (tC (.int 1)))) (tOp (rIxL K) (tVar 1) (tVar 4))) tNil))) tNil))) tNext))
  (tRet (tVar 3)))))

/-- best_of -/
def t_best_of (K : PySem.W.Frag) (w : World) : TS :=
  (tSeq (tIfS (tTest (tOp rEq (tCB (qLen K) (tCons (tVar 0) tNil)) (tC (.int 0)))) (tRet (tTup (tCons (tLst tNil) (tCons (tLst tNil) tNil)))) tNext)
  (tSeq (tAsg (tMake (He.ga K "Ways") (sp_Ways___init__ K w) [] E0 (tCons (tVar 0) (tCons (tVar 1) tNil))) (gName 2))
  (tRet (tTup (tCons (tMeth (He.ga K "Ways") "choice" (sp_Ways_choice K w) [] E0 (tVar 2) tNil) (tCons (tMeth (He.ga K "Ways") "amounts" (sp_Ways_amounts K w) [] E0 (tVar 2) tNil) tNil))))))

/-- best -/
def t_best (K : PySem.W.Frag) (w : World) : TS :=
  (tSeq (tDrop (tCall (sp_check_requests K w) [] E0 (tCons (tVar 0) tNil)))
  (tSeq (tDrop (tCall (sp_check_rooms K w) [] E0 (tCons (tVar 1) (tCons (tC (.int 0)) tNil))))
  (tSeq (tAsg (tCall (sp_best_of K w) [] E0 (tCons (tVar 0) (tCons (tVar 1) tNil))) (gTup K 2 (gCons (gName 2) (gCons (gName 3) gNil))))
  (tRet (tMake (He.ga K "Best") (sp_Best___init__ K w) [] E0 (tCons (tVar 2) (tCons (tVar 3) tNil)))))))

end Spn

namespace Spn
open PySem PySem.Spec PyProof.Rows L2
/-! ### for i, x in enumerate(xs) -/
theorem for_enum {K : PySem.W.Frag} {a : Addr} {xs : List V} {g : TG} {tb : TS} {D : Ends} {σ : L2.St} {H : Hp} (Pv : Nat → L2.St → Hp → Prop) (h0 : Pv 0 σ H) (hl : ∀ i σ H, i ≤ xs.length → Pv i σ H → SqL K H a xs)
    (hs : ∀ i x σ H T, xs[i]? = some x → Pv i σ H → H T = none → g (.ref T) σ (upd H T (.tup [.int (i : Nat), x])) fun σ2 H2 => tb { D with nx := Pv (i + 1), ct := Pv (i + 1), bk := D.nx } σ2 H2) (hd : ∀ σ H, Pv xs.length σ H → D.nx σ H) :
    ∃ W : Nat → Nat → L2.St → Hp → Prop, (∃ m, W 0 m σ H) ∧ ∀ i m σ H, W i m σ H →
      ((Ite K a).stop i H ∧ D.nx σ H) ∨ ((Ite K a).go i H ∧ ∃ N : L2.St → Hp → Prop, (∀ σ' H', N σ' H' → ∃ m', m' < m ∧ W (i + 1) m' σ' H') ∧ ∀ x H', (Ite K a).yld i H x H' → g x σ H' fun σ2 H2 => tb { D with nx := N, ct := N, bk := D.nx } σ2 H2) := by
  refine ⟨fun i m σ H => m = xs.length - i ∧ i ≤ xs.length ∧ Pv i σ H, ⟨xs.length, by simp, Nat.zero_le _, h0⟩, ?_⟩
  rintro i m σ H ⟨rfl, hi, p⟩
  have q := hl i σ H hi p
  by_cases hlt : i < xs.length
  · refine .inr ⟨⟨xs, xs[i], q, by simp [hlt]⟩, Pv (i + 1), fun σ' H' p' => ⟨xs.length - (i + 1), by omega, rfl, hlt, p'⟩, fun x H' y => ?_⟩
    obtain ⟨T, z, rfl, hT, rfl, hz⟩ := y
    exact hs i z σ H T (hz xs q) p hT
  · have e : i = xs.length := by omega
    subst e
    exact .inl ⟨⟨xs, q, Nat.le_refl _⟩, hd σ H p⟩
theorem tFor_rng1 {n : Nat} {ta : TA} {g : TG} {tb : TS} {D : Ends} {σ : L2.St} {H : Hp} (ea : ∀ R : List V → Hp → Prop, R [.int n] H → ta σ H R) (hz : n < 2 ^ 62) (Pv : Nat → L2.St → Hp → Prop) (h0 : Pv 0 σ H)
    (hs : ∀ i σ H (nx : L2.St → Hp → Prop), (∀ σ' H', Pv (i + 1) σ' H' → nx σ' H') → i < n → Pv i σ H → g (.int i) σ H fun σ2 H2 => tb { D with nx := nx, ct := nx, bk := D.nx } σ2 H2) (hd : ∀ σ H, Pv n σ H → D.nx σ H) : tFor (iRng1 ta) g tb D σ H := by
  refine ea _ ⟨n, rfl, by omega, by omega, ?_⟩
  rw [Int.toNat_natCast]
  refine for_range Pv h0 (fun i σ H hi p => ?_) hd
  rw [Int.zero_add]
  exact hs i σ H _ (fun _ _ h => h) hi p
theorem tFor_lst {K : PySem.W.Frag} {a : Addr} {xs : List V} {ta : TE} {g : TG} {tb : TS} {D : Ends} {σ : L2.St} {H : Hp} (ea : ∀ R : VK, R (.ref a) H → ta σ H R) (Pv : Nat → L2.St → Hp → Prop) (h0 : Pv 0 σ H) (hl : ∀ i σ H, Pv i σ H → H a = some (.lst xs))
    (hs : ∀ i x σ H (nx : L2.St → Hp → Prop), (∀ σ' H', Pv (i + 1) σ' H' → nx σ' H') → xs[i]? = some x → Pv i σ H → g x σ H fun σ2 H2 => tb { D with nx := nx, ct := nx, bk := D.nx } σ2 H2) (hd : ∀ σ H, Pv xs.length σ H → D.nx σ H) : tFor (iList K ta) g tb D σ H :=
  ea _ ⟨a, rfl, ⟨xs, SqL.of (hl 0 σ H h0)⟩, for_list (K := K) (a := a) (xs := xs) Pv h0 (fun i σ H _ p => SqL.of (hl i σ H p)) (fun i x σ H => hs i x σ H _ (fun _ _ h => h)) hd⟩
theorem tFor_tup {K : PySem.W.Frag} {a : Addr} {xs : List V} {ta : TE} {g : TG} {tb : TS} {D : Ends} {σ : L2.St} {H : Hp} (ea : ∀ R : VK, R (.ref a) H → ta σ H R) (Pv : Nat → L2.St → Hp → Prop) (h0 : Pv 0 σ H) (hl : ∀ i σ H, Pv i σ H → H a = some (.tup xs))
    (hs : ∀ i x σ H (nx : L2.St → Hp → Prop), (∀ σ' H', Pv (i + 1) σ' H' → nx σ' H') → xs[i]? = some x → Pv i σ H → g x σ H fun σ2 H2 => tb { D with nx := nx, ct := nx, bk := D.nx } σ2 H2) (hd : ∀ σ H, Pv xs.length σ H → D.nx σ H) : tFor (iTup K ta) g tb D σ H :=
  ea _ ⟨a, rfl, ⟨xs, SqT.of (hl 0 σ H h0)⟩, for_tup (K := K) (a := a) (xs := xs) Pv h0 (fun i σ H _ p => SqT.of (hl i σ H p)) (fun i x σ H => hs i x σ H _ (fun _ _ h => h)) hd⟩
theorem tFor_enum {K : PySem.W.Frag} {a : Addr} {xs : List V} {ta : TA} {g : TG} {tb : TS} {D : Ends} {σ : L2.St} {H : Hp} (ea : ∀ R : List V → Hp → Prop, R [.ref a] H → ta σ H R) (Pv : Nat → L2.St → Hp → Prop) (h0 : Pv 0 σ H) (hl : ∀ i σ H, Pv i σ H → H a = some (.lst xs))
    (hs : ∀ i x σ H T (nx : L2.St → Hp → Prop), (∀ σ' H', Pv (i + 1) σ' H' → nx σ' H') → xs[i]? = some x → Pv i σ H → H T = none → g (.ref T) σ (upd H T (.tup [.int (i : Nat), x])) fun σ2 H2 => tb { D with nx := nx, ct := nx, bk := D.nx } σ2 H2) (hd : ∀ σ H, Pv xs.length σ H → D.nx σ H) : tFor (iEnum K ta) g tb D σ H :=
  ea _ ⟨a, xs, rfl, SqL.of (hl 0 σ H h0), for_enum (K := K) (a := a) (xs := xs) Pv h0 (fun i σ H _ p => SqL.of (hl i σ H p)) (fun i x σ H T => hs i x σ H T _ (fun _ _ h => h)) hd⟩
/-! ### what stays under new things and lists that change -/
abbrev TK (H H' : Hp) : Prop := ∀ b xs, H b = some (.tup xs) → H' b = some (.tup xs)
theorem TK.refl (H : Hp) : TK H H := fun _ _ h => h
theorem TK.trans {H H1 H2 : Hp} (a : TK H H1) (b : TK H1 H2) : TK H H2 := fun c xs h => b c xs (a c xs h)
theorem TK.same {H H' : Hp} (s : Same H H') : TK H H' := fun b xs h => s b _ h
theorem TK.lst {H H' : Hp} {a : Addr} {l : List V} {o : HO} (s : TK H H') (h : H' a = some (.lst l)) : TK H (upd H' a o) := fun b xs e => by
  rw [upd_ne (ne_of (s b xs e) h (by intro z; cases z))]
  exact s b xs e
theorem TK.new {H H' : Hp} {a : Addr} {o : HO} (s : TK H H') (h : H' a = none) : TK H (upd H' a o) := fun b xs e => by
  rw [upd_ne (ne_of_none (s b xs e) h)]
  exact s b xs e
theorem Same.upd3 {H H' : Hp} {p : Addr} {o : HO} (s : Same H H') (h : H p = none) : Same H (L2.upd H' p o) := fun b u e => by rw [upd_ne (ne_of_none e h)]; exact s b u e
theorem IsSt.keep {H H' : Hp} {v : V} {st : Net.Stp} (h : IsSt H v st) (k : TK H H') : IsSt H' v st := by
  obtain ⟨t, u, e, h1, h2⟩ := h
  exact ⟨t, u, e, k _ _ h1, k _ _ h2⟩
theorem IsE.keep {H H' : Hp} {v : V} {st : Nat × Nat × Int} (h : IsE H v st) (k : TK H H') : IsE H' v st := by
  obtain ⟨t, e, h1⟩ := h
  exact ⟨t, e, k _ _ h1⟩
theorem IsP.keep {H H' : Hp} {v : V} {st : Int × Int} (h : IsP H v st) (k : TK H H') : IsP H' v st := by
  obtain ⟨t, e, h1⟩ := h
  exact ⟨t, e, k _ _ h1⟩
theorem IsR.keep {H H' : Hp} {v : V} {st : Rq} (h : IsR H v st) (k : TK H H') : IsR H' v st := by
  obtain ⟨t, e, h1⟩ := h
  exact ⟨t, e, k _ _ h1⟩
theorem IsO.keep {H H' : Hp} {v : V} {o : Option Net.Stp} (h : IsO H v o) (k : TK H H') : IsO H' v o := by
  cases o with
  | none => exact h
  | some st => exact IsSt.keep h k
/-- what stood, and the new lists and tuples -/
def ltH (H H4 : Hp) : Hp := fun b => match H b, H4 b with
  | some _, o => o
  | none, some (.lst l) => some (.lst l)
  | none, some (.tup l) => some (.tup l)
  | none, _ => none
theorem ltH_old {H H4 : Hp} {b : Addr} {o : HO} (h : H b = some o) : ltH H H4 b = H4 b := by
  unfold ltH
  rw [h]
theorem ltH_lst {H H4 : Hp} {b : Addr} {l : List V} (h : H4 b = some (.lst l)) : ltH H H4 b = some (.lst l) := by
  unfold ltH
  rw [h]
  cases H b <;> rfl
theorem ltH_tup {H H4 : Hp} {b : Addr} {l : List V} (h : H4 b = some (.tup l)) : ltH H H4 b = some (.tup l) := by
  unfold ltH
  rw [h]
  cases H b <;> rfl
theorem ltH_tk (H H4 : Hp) : TK H4 (ltH H H4) := fun _ _ h => ltH_tup h
theorem ltH_same {H H4 : Hp} (s : Same H H4) : Same H (ltH H H4) := fun b o h => by rw [ltH_old h]; exact s b o h
theorem ltH_new {H H4 : Hp} {b : Addr} {o : HO} (h : H b = none) (e : ltH H H4 b = some o) : (∃ l, o = .lst l) ∨ ∃ l, o = .tup l := by
  unfold ltH at e
  rw [h] at e
  cases q : H4 b with
  | none => rw [q] at e; cases e
  | some u =>
    rw [q] at e
    cases u with
    | lst l => exact .inl ⟨l, (Option.some.inj e).symm⟩
    | tup l => exact .inr ⟨l, (Option.some.inj e).symm⟩
    | _ => cases e
theorem ltH_noT {H H4 : Hp} (n : NoT H) (s : Same H H4) : NoT (ltH H H4) := fun b o e => by
  cases h : H b with
  | some u =>
    rw [ltH_old h, s b u h] at e
    cases e
    exact n b _ h
  | none =>
    rcases ltH_new h e with ⟨l, rfl⟩ | ⟨l, rfl⟩ <;> rfl
theorem ltH_shr {H H4 : Hp} (n : NoT H) (s : Same H H4) : Shr H (ltH H H4) H4 := by
  refine ⟨fun b o h => ltH_old h, fun b o e => ?_, fun a C dx fs e => ?_, ltH_noT n s⟩
  · cases h : H b with
    | some u => rw [ltH_old h] at e; exact e
    | none =>
      unfold ltH at e
      rw [h] at e
      cases q : H4 b with
      | none => rw [q] at e; cases e
      | some u =>
        rw [q] at e
        cases u with
        | lst l => exact e
        | tup l => exact e
        | _ => cases e
  · cases h : H a with
    | some u =>
      rw [ltH_old h, s a u h] at e
      cases e
      exact .inl ⟨_, _, rfl⟩
    | none =>
      rcases ltH_new h e with ⟨l, z⟩ | ⟨l, z⟩ <;> cases z
theorem Fin.new {H : Hp} {Q Q0 : VK} (fin : Fin H Q Q0) (n : NoT H) {v : V} {H4 : Hp} (s : Same H H4) (q : Q v (ltH H H4)) : Q0 v H4 := fin _ _ _ (ltH_shr n s) q
/-- xs.append(x) -/
theorem rapp {K : PySem.W.Frag} {H : Hp} {l : Addr} {xs : List V} {y : V} {Q : VK} (h : H l = some (.lst xs)) (hz : xs.length < sizeLine) (q : Q .non (upd H l (.lst (xs ++ [y])))) : rAppend (.ref l) [y] H Q := ⟨l, xs, y, rfl, rfl, h, hz, q⟩
theorem ty_lst {K : PySem.W.Frag} {H : Hp} {l : Addr} {xs : List V} (h : H l = some (.lst xs)) : tyV K "list" (.ref l) H := .inl ⟨rfl, _, SqL.of h⟩
/-! ### sorted steps -/
theorem perm_paired {α β : Type} {F : α → β → Prop} {ys xs : List α} (p : ys.Perm xs) : ∀ {bs : List β}, Paired F xs bs → ∃ cs : List β, cs.Perm bs ∧ Paired F ys cs := by
  induction p with
  | nil => intro bs h; exact ⟨bs, List.Perm.refl _, h⟩
  | cons x p ih =>
    intro bs h
    cases h with
    | cons r t =>
      obtain ⟨cs, q, z⟩ := ih t
      exact ⟨_ :: cs, q.cons _, .cons r z⟩
  | swap x y l =>
    intro bs h
    cases h with
    | cons r t =>
      cases t with
      | cons r' t =>
        exact ⟨_ :: _ :: _, List.Perm.swap _ _ _, .cons r' (.cons r t)⟩
  | trans p q ih1 ih2 =>
    intro bs h
    obtain ⟨cs, a, b⟩ := ih2 h
    obtain ⟨es, c, d⟩ := ih1 b
    exact ⟨es, c.trans a, d⟩
def stD (st : Net.Stp) : PyData := .tuple [.int st.s, .int st.e, .int st.m, .tuple [.int st.kd, .int st.ix]]
theorem st_dp {K : PySem.W.Frag} {H : Hp} {v : V} {st : Net.Stp} (h : IsSt H v st) : Dp K H v (stD st) := by
  obtain ⟨t, u, rfl, h1, h2⟩ := h
  exact .tup (SqT.of h1) (.cons (.int _) (.cons (.int _) (.cons (.int _) (.cons (.tup (SqT.of h2) (.cons (.int _) (.cons (.int _) .nil))) .nil))))
theorem st_dps {K : PySem.W.Frag} {H : Hp} : ∀ {vs : List V} {sts : List Net.Stp}, Paired (IsSt H) vs sts → DpAll K H vs (sts.map stD)
  | _, _, .nil => .nil
  | _, _, .cons r t => .cons (st_dp r) (st_dps t)
theorem st_depth (st : Net.Stp) : (stD st).depth ≤ 10 := by
  simp [stD, PyData.depth, PyData.depthAll]
theorem rsort_st {K : PySem.W.Frag} {H : Hp} {p : Addr} {sts : List Net.Stp} {Q : VK} (h : StepsAt H p sts) (q : ∀ (vs : List V) (sts' : List Net.Stp) (d : Addr), H d = none → sts'.Perm sts → Paired (IsSt H) vs sts' → Q (.ref d) (upd H d (.lst vs))) : rSortedD K [.ref p] H Q := by
  obtain ⟨vs, e, pr⟩ := h
  refine ⟨p, vs, sts.map stD, rfl, SqL.of e, st_dps pr, PySem.W.AllAlike.of fun a b => ?_, PySem.W.Sortable.tuples fun b => ⟨_, _, rfl⟩, fun d hd => ?_, fun ys d hp hd => ?_⟩
  · simp [stD, PySem.W.alike, PySem.W.alikeAll]
  · obtain ⟨st, _, rfl⟩ := List.mem_map.mp hd
    exact st_depth st
  · obtain ⟨cs, a, b⟩ := perm_paired hp pr
    exact q ys cs d hd a b
end Spn

namespace Spn
open PySem PySem.Spec PyProof.Rows L2
section
variable {K : PySem.W.Frag} {w : World} {vs : List V} {H : Hp} {Q Q0 : VK} {E : XK}
theorem wf_days (a b c d : Addr) : (waysF a b c d).lookup ("days" : Str) = some (.ref a) := lk_here
theorem wf_ends (a b c d : Addr) : (waysF a b c d).lookup ("ends" : Str) = some (.ref b) := (lk_past (by decide +kernel)).trans lk_here
theorem wf_taken (a b c d : Addr) : (waysF a b c d).lookup ("taken" : Str) = some (.ref c) := (lk_past (by decide +kernel)).trans ((lk_past (by decide +kernel)).trans lk_here)
theorem wf_idle (a b c d : Addr) : (waysF a b c d).lookup ("idle" : Str) = some (.ref d) := (lk_past (by decide +kernel)).trans ((lk_past (by decide +kernel)).trans ((lk_past (by decide +kernel)).trans lk_here))
/-- a step laid and put behind a list -/
theorem app_new {H' : Hp} {c : Addr} {xs : List V} {s e m kd ix : Int} {nx : Hp → Prop} (hc : H' c = some (.lst xs)) (hz : xs.length < sizeLine) (n : NoT H')
    (k : ∀ H3 v, (∀ st : Net.Stp, (st.s : Int) = s → (st.e : Int) = e → st.m = m → st.kd = kd → (st.ix : Int) = ix → IsSt H3 v st) → TK H' H3 → (∀ b o, H' b = some o → b ≠ c → H3 b = some o) → H3 c = some (.lst (xs ++ [v])) → NoT H3 → nx H3) :
    tyV K "list" (.ref c) H' ∧ 2 ≤ sizeLine ∧ ∀ p, H' p = none → 4 ≤ sizeLine ∧ ∀ t, upd H' p (.tup [.int kd, .int ix]) t = none → rAppend (.ref c) [.ref t] (upd (upd H' p (.tup [.int kd, .int ix])) t (.tup [.int s, .int e, .int m, .ref p])) fun x H1 => nx H1 := by
  refine ⟨ty_lst (K := K) hc, by decide, fun p hp => ⟨by decide, fun t ht => ?_⟩⟩
  have s1 := Same.upd (o := .tup [.int kd, .int ix]) hp
  have s2 := Same.upd2 (o := .tup [.int s, .int e, .int m, .ref p]) s1 ht
  have hc2 := s2 _ _ hc
  refine rapp (K := K) hc2 hz (k _ (.ref t) (fun st e1 e2 e3 e4 e5 => ?_) ((TK.same s2).lst hc2) (fun b o h ne => by rw [upd_ne ne]; exact s2 b o h) upd_same ((n.upd).upd).upd)
  have ntp : t ≠ p := fun z => by rw [z, upd_same] at ht; cases ht
  refine ⟨t, p, rfl, ?_, ?_⟩
  · rw [upd_ne (ne_of (H := upd (upd H' p (.tup [.int kd, .int ix])) t (.tup [.int s, .int e, .int m, .ref p])) upd_same hc2 (by intro z; cases z)), upd_same, e1, e2, e3]
  · have hp2 : (upd (upd H' p (.tup [.int kd, .int ix])) t (.tup [.int s, .int e, .int m, .ref p])) p = some (.tup [.int kd, .int ix]) := by rw [upd_ne ntp.symm, upd_same]
    rw [upd_ne (ne_of hp2 hc2 (by intro z; cases z)), hp2, e4, e5]
structure SI (H H' : Hp) (pf pb : Addr) (F B : List Net.Stp) : Prop where
  s : Same H H'
  n : NoT H'
  f : StepsAt H' pf F
  b : StepsAt H' pb B
theorem SI.addF {H H' H3 : Hp} {pf pb : Addr} {F B : List Net.Stp} {st : Net.Stp} {xs : List V} {v : V} (I : SI H H' pf pb F B) (hf : H pf = none) (ne : pf ≠ pb) (hx : H' pf = some (.lst xs)) (px : Paired (IsSt H') xs F) (is : IsSt H3 v st) (tk : TK H' H3) (keep : ∀ b o, H' b = some o → b ≠ pf → H3 b = some o) (e : H3 pf = some (.lst (xs ++ [v]))) (n3 : NoT H3) : SI H H3 pf pb (F ++ [st]) B := by
  obtain ⟨ys, hy, py⟩ := I.b
  exact ⟨fun b o h => keep b o (I.s b o h) (ne_of_none h hf), n3, ⟨_, e, (px.mono fun _ _ q => q.keep tk).snoc is⟩, ⟨ys, keep _ _ hy ne.symm, py.mono fun _ _ q => q.keep tk⟩⟩
theorem SI.addB {H H' H3 : Hp} {pf pb : Addr} {F B : List Net.Stp} {st : Net.Stp} {xs : List V} {v : V} (I : SI H H' pf pb F B) (hf : H pb = none) (ne : pf ≠ pb) (hx : H' pb = some (.lst xs)) (px : Paired (IsSt H') xs B) (is : IsSt H3 v st) (tk : TK H' H3) (keep : ∀ b o, H' b = some o → b ≠ pb → H3 b = some o) (e : H3 pb = some (.lst (xs ++ [v]))) (n3 : NoT H3) : SI H H3 pf pb F (B ++ [st]) := by
  obtain ⟨ys, hy, py⟩ := I.f
  exact ⟨fun b o h => keep b o (I.s b o h) (ne_of_none h hf), n3, ⟨ys, keep _ _ hy ne, py.mono fun _ _ q => q.keep tk⟩, ⟨_, e, (px.mono fun _ _ q => q.keep tk).snoc is⟩⟩
/-- the steps so far -/
def Part (N : Net) (id : List Int) (tk : List Bool) (i r : Nat) (st : Net.Stp) : Prop :=
  (∃ j, j < i ∧ st = ⟨j, j + 1, 0, 0, j⟩) ∨ (∃ j, j < i ∧ 0 < idF id j ∧ st = ⟨j + 1, j, 0, 1, j⟩) ∨ (∃ j, j < r ∧ tkF tk j = false ∧ st = ⟨N.fi j, N.ei j, N.p j, 2, j⟩) ∨ (∃ j, j < r ∧ tkF tk j = true ∧ st = ⟨N.ei j, N.fi j, -N.p j, 3, j⟩)
theorem part_iff {N : Net} {id : List Int} {tk : List Bool} {st : Net.Stp} : Part N id tk N.L N.n st ↔ N.IsStep (idF id) (tkF tk) st := by
  constructor
  · rintro (⟨j, h, rfl⟩ | ⟨j, h, h2, rfl⟩ | ⟨j, h, h2, rfl⟩ | ⟨j, h, h2, rfl⟩)
    · exact .on j h
    · exact .off j h h2
    · exact .take j h h2
    · exact .give j h h2
  · intro h
    cases h with
    | on j h => exact .inl ⟨j, h, rfl⟩
    | off j h h2 => exact .inr (.inl ⟨j, h, h2, rfl⟩)
    | take j h h2 => exact .inr (.inr (.inl ⟨j, h, h2, rfl⟩))
    | give j h h2 => exact .inr (.inr (.inr ⟨j, h, h2, rfl⟩))
theorem part_on {N : Net} {id : List Int} {tk : List Bool} {i : Nat} {st : Net.Stp} : Part N id tk (i + 1) 0 st ↔ Part N id tk i 0 st ∨ st = ⟨i, i + 1, 0, 0, i⟩ ∨ (0 < idF id i ∧ st = ⟨i + 1, i, 0, 1, i⟩) := by
  constructor
  · rintro (⟨j, h, rfl⟩ | ⟨j, h, h2, rfl⟩ | ⟨j, h, h2, rfl⟩ | ⟨j, h, h2, rfl⟩)
    · by_cases c : j = i
      · subst c; exact .inr (.inl rfl)
      · exact .inl (.inl ⟨j, by omega, rfl⟩)
    · by_cases c : j = i
      · subst c; exact .inr (.inr ⟨h2, rfl⟩)
      · exact .inl (.inr (.inl ⟨j, by omega, h2, rfl⟩))
    · omega
    · omega
  · rintro ((⟨j, h, rfl⟩ | ⟨j, h, h2, rfl⟩ | ⟨j, h, h2, rfl⟩ | ⟨j, h, h2, rfl⟩) | rfl | ⟨h2, rfl⟩)
    · exact .inl ⟨j, by omega, rfl⟩
    · exact .inr (.inl ⟨j, by omega, h2, rfl⟩)
    · omega
    · omega
    · exact .inl ⟨i, by omega, rfl⟩
    · exact .inr (.inl ⟨i, by omega, h2, rfl⟩)
theorem part_take {N : Net} {id : List Int} {tk : List Bool} {L i : Nat} {st : Net.Stp} : Part N id tk L (i + 1) st ↔ Part N id tk L i st ∨ (tkF tk i = false ∧ st = ⟨N.fi i, N.ei i, N.p i, 2, i⟩) ∨ (tkF tk i = true ∧ st = ⟨N.ei i, N.fi i, -N.p i, 3, i⟩) := by
  constructor
  · rintro (⟨j, h, rfl⟩ | ⟨j, h, h2, rfl⟩ | ⟨j, h, h2, rfl⟩ | ⟨j, h, h2, rfl⟩)
    · exact .inl (.inl ⟨j, h, rfl⟩)
    · exact .inl (.inr (.inl ⟨j, h, h2, rfl⟩))
    · by_cases c : j = i
      · subst c; exact .inr (.inl ⟨h2, rfl⟩)
      · exact .inl (.inr (.inr (.inl ⟨j, by omega, h2, rfl⟩)))
    · by_cases c : j = i
      · subst c; exact .inr (.inr ⟨h2, rfl⟩)
      · exact .inl (.inr (.inr (.inr ⟨j, by omega, h2, rfl⟩)))
  · rintro ((⟨j, h, rfl⟩ | ⟨j, h, h2, rfl⟩ | ⟨j, h, h2, rfl⟩ | ⟨j, h, h2, rfl⟩) | ⟨h2, rfl⟩ | ⟨h2, rfl⟩)
    · exact .inl ⟨j, h, rfl⟩
    · exact .inr (.inl ⟨j, h, h2, rfl⟩)
    · exact .inr (.inr (.inl ⟨j, by omega, h2, rfl⟩))
    · exact .inr (.inr (.inr ⟨j, by omega, h2, rfl⟩))
    · exact .inr (.inr (.inl ⟨i, by omega, h2, rfl⟩))
    · exact .inr (.inr (.inr ⟨i, by omega, h2, rfl⟩))
theorem idF_get {id : List Int} {j : Nat} (h : j < id.length) : (id.map V.int)[j]? = some (.int (idF id j)) := by
  rw [List.getElem?_map, List.getElem?_eq_getElem h]
  unfold idF
  rw [List.getD_eq_getElem?_getD, List.getElem?_eq_getElem h]
  rfl
theorem tkF_get {tk : List Bool} {j : Nat} (h : j < tk.length) : (tk.map V.bl)[j]? = some (.bl (tkF tk j)) := by
  rw [List.getElem?_map, List.getElem?_eq_getElem h]
  unfold tkF
  rw [List.getD_eq_getElem?_getD, List.getElem?_eq_getElem h]
  rfl
theorem pure_Ways_steps (C : WaysC K) (h : sp_Ways_steps K w vs H Q E) (fin : Fin H Q Q0) : t_Ways_steps K w (endS Q0) (start ["self", "forth", "back", "at", "request", "first", "end", "price"] vs) H := by
  obtain ⟨a, N, ld, le, lt, li, ds, es, tk, id, rfl, W, n, q⟩ := h
  obtain ⟨dx, hx⟩ := W.ins
  obtain ⟨vE, hE, pE⟩ := W.ends
  have zL := W.zL
  have zn := W.zn
  have big : ∀ m, m ≤ 4000 → m < sizeLine := fun m hm => by rw [sizeLine_eq]; omega
  refine seq_i fun nx k => ?_
  try walk_at "rd"
  refine ⟨Nat.zero_le _, fun pf hpf => k _ _ (seq_i fun nx2 k2 => ?_)⟩
  try walk_at "rd"
  refine ⟨Nat.zero_le _, fun pb hpb => k2 _ _ (seq_i fun nx3 k3 => ?_)⟩
  have s1 := Same.upd (o := .lst []) hpf
  have s2 := Same.upd2 (o := .lst []) s1 hpb
  have npf : pf ≠ pb := fun z => by rw [← z, upd_same] at hpb; cases hpb
  have hpb0 : H pb = none := s1.free hpb
  refine tFor_rng1 (n := N.L) (fun R h => ?_) (by omega) (fun i σ H' => ∃ F B x, σ = [some (.ref a), some (.ref pf), some (.ref pb), x, none, none, none, none] ∧ SI H H' pf pb F B ∧ (∀ st, (st ∈ F ∨ st ∈ B) ↔ Part N id tk i 0 st) ∧ F.length + B.length ≤ 2 * i) ?_ ?_ ?_
  · try walk_at "rd"
    exact rfld (fun Q h => ⟨_, rfl, h⟩) (s2 _ _ hx) C.cl C.ni (wf_idle ld le lt li) (rlen_lst (s2 _ _ W.idle) ((List.length_map _).trans W.lid) h)
  · refine ⟨[], [], none, rfl, ⟨s2, (n.upd).upd, ⟨[], ?_, .nil⟩, ⟨[], upd_same, .nil⟩⟩, fun st => ?_, by simp⟩
    · rw [upd_ne npf, upd_same]
    · constructor
      · rintro (h | h) <;> cases h
      · rintro (⟨j, h, _⟩ | ⟨j, h, _⟩ | ⟨j, h, _⟩ | ⟨j, h, _⟩) <;> omega
  · rintro i σ H' nxL kL hi ⟨F, B, x, rfl, I, mem, len⟩
    refine seq_i fun nx4 k4 => ?_
    obtain ⟨xf, ef, pF⟩ := I.f
    try walk_at "rd"
    refine app_new (nx := nx4 _) ef (big _ (by rw [pF.length]; omega)) I.n fun H3 v is tk3 keep e3 n3 => k4 _ _ (if_i fun th el h1 h2 => ?_)
    have I3 := I.addF hpf npf ef pF (is ⟨i, i + 1, 0, 0, i⟩ rfl rfl rfl rfl rfl) tk3 keep e3 n3
    try walk_at "rd"
    refine rfld (fun Q h => ⟨_, rfl, h⟩) (I3.s _ _ hx) C.cl C.ni (wf_idle ld le lt li) ?_
    refine rix_lst (I3.s _ _ W.idle) (Int.natCast_nonneg i) (by rw [Int.toNat_natCast]; exact idF_get (by rw [W.lid]; exact hi)) ?_
    try walk_at "rd"
    by_cases c : 0 < idF id i
    · rw [if_pos c]
      refine h1 _ ?_
      obtain ⟨xb, eb, pB⟩ := I3.b
      try walk_at "rd"
      refine app_new (nx := nxL _) eb (big _ (by rw [pB.length]; omega)) I3.n fun H4 v is tk4 keep e4 n4 => ?_
      have I4 := I3.addB hpb0 npf eb pB (is ⟨i + 1, i, 0, 1, i⟩ rfl rfl rfl rfl rfl) tk4 keep e4 n4
      refine kL _ _ ⟨_, _, _, rfl, I4, fun st => ?_, by simp; omega⟩
      rw [part_on, ← mem st]
      simp only [List.mem_append, List.mem_singleton, c, true_and]
      constructor
      · rintro ((h | h) | (h | h))
        · exact .inl (.inl h)
        · exact .inr (.inl h)
        · exact .inl (.inr h)
        · exact .inr (.inr h)
      · rintro ((h | h) | (h | h))
        · exact .inl (.inl h)
        · exact .inr (.inl h)
        · exact .inl (.inr h)
        · exact .inr (.inr h)
    · rw [if_neg c]
      refine h2 _ ?_
      refine kL _ _ ⟨_, _, _, rfl, I3, fun st => ?_, by simp; omega⟩
      rw [part_on, ← mem st]
      simp only [List.mem_append, List.mem_singleton, c, false_and, or_false]
      constructor
      · rintro ((h | h) | h)
        · exact .inl (.inl h)
        · exact .inr h
        · exact .inl (.inr h)
      · rintro ((h | h) | h)
        · exact .inl (.inl h)
        · exact .inr h
        · exact .inl (.inr h)
  · rintro σ H' ⟨F, B, x, rfl, I, mem, len⟩
    refine k3 _ _ (seq_i fun nx4 k4 => ?_)
    refine tFor_enum (K := K) (a := le) (xs := vE) (fun R h => ?_) (fun i σ H' => ∃ F B x1 x2 x3 x4 x5, σ = [some (.ref a), some (.ref pf), some (.ref pb), x1, x2, x3, x4, x5] ∧ SI H H' pf pb F B ∧ (∀ st, (st ∈ F ∨ st ∈ B) ↔ Part N id tk N.L i st) ∧ F.length + B.length ≤ 2 * N.L + i) ?_ ?_ ?_ ?_
    · try walk_at "rd"
      exact rfld (fun Q h => ⟨_, rfl, h⟩) (I.s _ _ hx) C.cl C.ne (wf_ends ld le lt li) h
    · exact ⟨F, B, _, _, _, _, _, rfl, I, mem, by omega⟩
    · rintro i σ H' ⟨F, B, _, _, _, _, _, rfl, I, _⟩
      exact I.s _ _ hE
    · rintro i v σ H' T nxL kL hv ⟨F, B, x1, x2, x3, x4, x5, rfl, I, mem, len⟩ hT
      obtain ⟨e, he, t, rfl, ht⟩ := Paired.getR pE hv
      have hin : i < N.n := by rw [← W.les]; exact (List.getElem?_eq_some_iff.mp he).1
      have e2 := W.es i hin
      rw [he] at e2
      have e2 := Option.some.inj e2
      subst e2
      have I1 : SI H (upd H' T (.tup [.int i, .ref t])) pf pb F B := by
        have s := Same.upd (o := .tup [.int i, .ref t]) hT
        obtain ⟨xf, ef, pF⟩ := I.f
        obtain ⟨xb, eb, pB⟩ := I.b
        exact ⟨fun b o h => s _ _ (I.s b o h), I.n.upd, ⟨xf, s _ _ ef, pF.mono fun _ _ q => q.keep (TK.same s)⟩, ⟨xb, s _ _ eb, pB.mono fun _ _ q => q.keep (TK.same s)⟩⟩
      refine gtup2 upd_same (seq_i fun nx5 k5 => ?_)
      try walk_at "rd"
      refine gtup3 (I1.s _ _ ht) (k5 _ _ (if_i fun th el h1 h2 => ?_))
      try walk_at "rd"
      refine rfld (fun Q h => ⟨_, rfl, h⟩) (I1.s _ _ hx) C.cl C.nt (wf_taken ld le lt li) ?_
      refine rix_lst (I1.s _ _ W.taken) (Int.natCast_nonneg i) (by rw [Int.toNat_natCast]; exact tkF_get (by rw [W.ltk]; exact hin)) ⟨_, rfl, ?_⟩
      cases c : tkF tk i with
      | true =>
        refine iteT (h1 _ ?_)
        obtain ⟨xb, eb, pB⟩ := I1.b
        try walk_at "rd"
        refine app_new (nx := nxL _) eb (big _ (by rw [pB.length]; omega)) I1.n fun H4 v is tk4 keep e4 n4 => ?_
        have I4 := I1.addB hpb0 npf eb pB (is ⟨N.ei i, N.fi i, -N.p i, 3, i⟩ rfl rfl rfl rfl rfl) tk4 keep e4 n4
        refine kL _ _ ⟨_, _, _, _, _, _, _, rfl, I4, fun st => ?_, by simp; omega⟩
        rw [part_take, ← mem st]
        simp only [List.mem_append, List.mem_singleton, c, true_and, Bool.true_eq_false, false_and, false_or, or_assoc]
      | false =>
        refine iteF (h2 _ ?_)
        obtain ⟨xf, ef, pF⟩ := I1.f
        try walk_at "rd"
        refine app_new (nx := nxL _) ef (big _ (by rw [pF.length]; omega)) I1.n fun H4 v is tk4 keep e4 n4 => ?_
        have I4 := I1.addF hpf npf ef pF (is ⟨N.fi i, N.ei i, N.p i, 2, i⟩ rfl rfl rfl rfl rfl) tk4 keep e4 n4
        refine kL _ _ ⟨_, _, _, _, _, _, _, rfl, I4, fun st => ?_, by simp; omega⟩
        rw [part_take, ← mem st]
        simp only [List.mem_append, List.mem_singleton, c, true_and, Bool.false_eq_true, false_and, or_false]
        constructor
        · rintro ((h | h) | h)
          · exact .inl (.inl h)
          · exact .inr h
          · exact .inl (.inr h)
        · rintro ((h | h) | h)
          · exact .inl (.inl h)
          · exact .inr h
          · exact .inl (.inr h)
    · rintro σ H' ⟨F, B, x1, x2, x3, x4, x5, rfl, I, mem, len⟩
      refine k4 _ _ ?_
      rw [pE.length, W.les] at mem len
      try walk_at "rd"
      refine rsort_st I.f fun vF F' d1 hd1 pm1 pF => ?_
      have sd1 := Same.upd (o := .lst vF) hd1
      obtain ⟨xb, eb, pB⟩ := I.b
      unfold tRevL
      try walk_at "rd"
      refine rsort_st (⟨xb, sd1 _ _ eb, pB.mono fun _ _ q => q.keep (TK.same sd1)⟩ : StepsAt _ pb B) fun vB B' d2 hd2 pm2 pB' => ⟨d2, rfl, vB, SqL.of upd_same, fun d3 hd3 => ?_⟩
      have sd2 := Same.upd2 (o := .lst vB) sd1 hd2
      have sd3 := Same.upd2 (o := .lst vB.reverse) sd2 hd3
      have l1 : vF.length = F.length := by rw [pF.length, pm1.length_eq]
      have l2 : vB.length = B.length := by rw [pB'.length, pm2.length_eq]
      have hd13 : upd (upd (upd H' d1 (.lst vF)) d2 (.lst vB)) d3 (.lst vB.reverse) d1 = some (.lst vF) := (Same.upd2 (o := .lst vB.reverse) (Same.upd (o := .lst vB) hd2) hd3) _ _ upd_same
      refine ⟨d1, d3, vF, vB.reverse, rfl, rfl, hd13, upd_same, by rw [List.length_reverse, sizeLine_eq]; omega, fun d4 hd4 => ?_⟩
      have sd4 := Same.upd2 (o := .lst (vF ++ vB.reverse)) sd3 hd4
      have sAll : Same H _ := I.s.trans sd4
      have kF : TK (upd H' d1 (.lst vF)) _ := TK.same ((Same.upd2 (o := .lst (vF ++ vB.reverse)) (Same.upd2 (o := .lst vB.reverse) (Same.upd (o := .lst vB) hd2) hd3) hd4))
      have pFin : Paired (IsSt (upd (upd (upd (upd H' d1 (.lst vF)) d2 (.lst vB)) d3 (.lst vB.reverse)) d4 (.lst (vF ++ vB.reverse)))) (vF ++ vB.reverse) (F' ++ B'.reverse) :=
        Paired.app ((pF.mono fun _ _ q => q.keep (TK.same (Same.upd hd1))).mono fun _ _ q => q.keep kF) ((Paired.rev pB').mono fun _ _ q => q.keep kF)
      have hd40 : H d4 = none := (I.s.trans sd3).free hd4
      refine fin.new n sAll (q _ d4 (F' ++ B'.reverse) (ltH_same sAll) (ltH_noT n sAll) hd40 ⟨_, ltH_lst upd_same, pFin.mono fun _ _ q => q.keep (ltH_tk _ _)⟩ (fun st => ?_) ?_)
      · rw [← part_iff, ← mem st, List.mem_append, List.mem_reverse, pm1.mem_iff, pm2.mem_iff]
      · rw [List.length_append, List.length_reverse, pm1.length_eq, pm2.length_eq]
        omega
end
end Spn

namespace Spn
open PySem PySem.Spec PyProof.Rows L2
theorem tWhile_i {c : TT} {tb : TS} {D : Ends} {σ : L2.St} {H : Hp} (W : Nat → L2.St → Hp → Prop) (h0 : ∃ m, W m σ H)
    (hs : ∀ m σ H (th el : Hp → Prop), (∀ H1, (∀ nx : L2.St → Hp → Prop, (∀ σ' H' m', m' < m → W m' σ' H' → nx σ' H') → tb { D with nx := nx, ct := nx, bk := D.nx } σ H1) → th H1) → (∀ H1, D.nx σ H1 → el H1) → W m σ H → c σ H fun b H1 => if b = true then th H1 else el H1) : tWhile c tb D σ H := by
  refine ⟨W, h0, fun m σ H w => ?_⟩
  exact hs m σ H (fun H1 => ∃ N : L2.St → Hp → Prop, (∀ σ' H', N σ' H' → ∃ m', m' < m ∧ W m' σ' H') ∧ tb { D with nx := N, ct := N, bk := D.nx } σ H1) (fun H1 => D.nx σ H1) (fun H1 h => ⟨fun σ' H' => ∃ m', m' < m ∧ W m' σ' H', fun _ _ h => h, h _ fun σ' H' m' l w => ⟨m', l, w⟩⟩) (fun _ h => h) w
theorem rset {H : Hp} {p : Addr} {xs : List V} {k : Int} {j : Nat} {v : V} {Q : Hp → Prop} (h : H p = some (.lst xs)) (e : k = (j : Int)) (hj : j < xs.length) (q : Q (upd H p (.lst (xs.set j v)))) : L2.rSetL (.ref p) (.int k) v H Q := by
  have a : ixN xs.length k = some j := by
    rw [e]
    unfold ixN
    rw [if_pos (by omega)]
    simp
    omega
  exact ⟨p, xs, k, j, rfl, rfl, h, a, q⟩
theorem gsub_set {to ti : TE} {v : V} {σ : L2.St} {H : Hp} {P : L2.St → Hp → Prop} {p : Addr} {xs : List V} {k : Int} {j : Nat} (eo : ∀ Q : VK, Q (.ref p) H → to σ H Q) (ei : ∀ Q : VK, Q (.int k) H → ti σ H Q) (h : H p = some (.lst xs)) (e : k = (j : Int)) (hj : j < xs.length) (q : P σ (upd H p (.lst (xs.set j v)))) : gSub to ti L2.rSetL v σ H P := eo _ (ei _ (rset h e hj q))
theorem tAsg_i {te : TE} {g : TG} {D : Ends} {σ : L2.St} {H : Hp} {v : V} (e : ∀ Q : VK, Q v H → te σ H Q) (q : g v σ H D.nx) : tAsg te g D σ H := e _ q
theorem Paired.setP {α β : Type} {F : α → β → Prop} {x : α} {y : β} (r : F x y) : ∀ {xs : List α} {ys : List β} (i : Nat), Paired F xs ys → Paired F (xs.set i x) (ys.set i y)
  | _, _, _, .nil => .nil
  | _, _, 0, .cons _ t => .cons r t
  | _, _, i + 1, .cons q t => .cons q (Paired.setP r i t)
def oV : Option Int → V
  | none => .non
  | some x => .int x
theorem brV_get {br : List (Option Int)} {i : Nat} {o : Option Int} (h : br[i]? = some o) : (br.map oV)[i]? = some (oV o) := by
  rw [List.getElem?_map, h]
  rfl
theorem fm_const {α : Type} (v : V) (ys : List α) : ys.filterMap (fun _ => some v) = List.replicate ys.length v := by
  induction ys with
  | nil => rfl
  | cons y r ih => rw [List.filterMap_cons, ih]; rfl
section
variable {K : PySem.W.Frag} {w : World} {vs : List V} {H : Hp} {Q Q0 : VK} {E : XK}
theorem wf_no {f : Str} (a b c d : Addr) (h1 : (f == "days") = false := by decide +kernel) (h2 : (f == "ends") = false := by decide +kernel) (h3 : (f == "taken") = false := by decide +kernel) (h4 : (f == "idle") = false := by decide +kernel) : (waysF a b c d).lookup f = none :=
  (lk_past h1).trans ((lk_past h2).trans ((lk_past h3).trans ((lk_past h4).trans rfl)))
theorem rmeth0 {Cl a dx : Addr} {fs : List (Str × V)} {m : Str} {sp : Sp} {ta : TE} {σ : L2.St} {Q : VK} {E : XK} (ea : ∀ Q : VK, Q (.ref a) H → ta σ H Q) (h : H a = some (.ins Cl dx fs)) (l : fs.lookup m = none) (q : sp [.ref a] H Q E) : tMeth Cl m sp [] E ta tNil σ H Q := ea _ ⟨a, dx, fs, rfl, h, l, q⟩
theorem rmeth {Cl a dx : Addr} {fs : List (Str × V)} {m : Str} {sp : Sp} {ta : TE} {t : TA} {vs : List V} {σ : L2.St} {Q : VK} {E : XK} (ea : ∀ Q : VK, Q (.ref a) H → ta σ H Q) (h : H a = some (.ins Cl dx fs)) (l : fs.lookup m = none) (et : ∀ R : List V → Hp → Prop, R vs H → t σ H R) (q : sp (.ref a :: vs) H Q E) : tMeth Cl m sp [] E ta t σ H Q := ea _ ⟨a, dx, fs, rfl, h, l, et _ (by rw [List.append_nil]; exact q)⟩
/-- the relaxing loop's heap: what is brought, by which steps -/
structure MI (H H' : Hp) (pb pc : Addr) (br : List (Option Int)) (cm : List (Option Net.Stp)) : Prop where
  s : Same H H'
  b : H' pb = some (.lst (br.map oV))
  c : CameAt H' pc cm
def Lax (st : Net.Stp) (br : List (Option Int)) : Prop := ∀ y, br[st.s]? = some (some y) → ∃ x, br[st.e]? = some (some x) ∧ y + st.m ≤ x
theorem pure_Ways_most (C : WaysC K) (h : sp_Ways_most K w vs H Q E) (fin : Fin H Q Q0) : t_Ways_most K w (endS Q0) (start ["self", "steps", "brought", "came", "moved", "step", "start", "end", "more", "which", "day"] vs) H := by
  obtain ⟨a, N, ld, le, lt, li, ds, es, tk, id, rfl, W, n, ⟨φ, hφ⟩, q⟩ := h
  obtain ⟨dx, hx⟩ := W.ins
  have zL := W.zL
  have small : N.L + 1 ≤ sizeLine := by rw [sizeLine_eq]; omega
  refine seq_i fun nx k => ?_
  try walk_at "rd"
  refine rmeth0 (fun Q h => ⟨_, rfl, h⟩) hx (wf_no _ _ _ _) ⟨a, N, ld, le, lt, li, ds, es, tk, id, rfl, W, n, fun Hs ps sts ss ns hps hst mem lst => k _ _ (seq_i fun nx2 k2 => ?_)⟩
  obtain ⟨vS, eS, pS⟩ := hst
  have big : ds.length ≤ sizeLine := by rw [W.lds]; exact small
  refine tLc_list ds (fun _ => some .non) (fun R h => rfld (fun Q h => ⟨_, rfl, h⟩) (ss _ _ hx) C.cl C.nd (wf_days ld le lt li) h) (ss _ _ W.days) (ints_paired ds) big (fun D v d acc Nx hD _ _ add _ => by
    try walk_at "rd"
    exact add _ rfl) fun pb hpb => k2 _ _ (seq_i fun nx3 k3 => ?_)
  rw [fm_const, W.lds]
  have s1 := Same.upd (o := .lst (List.replicate (N.L + 1) V.non)) hpb
  refine tAsg_i (v := .int 0) (fun Q h => h) (gsub_set (j := 0) (fun Q h => ⟨_, rfl, h⟩) (fun Q h => h) upd_same rfl (by simp) (k3 _ _ (seq_i fun nx4 k4 => ?_)))
  rw [upd_upd]
  have s2 := Same.upd (o := .lst ((List.replicate (N.L + 1) V.non).set 0 (.int 0))) hpb
  refine tLc_list ds (fun _ => some .non) (fun R h => rfld (fun Q h => ⟨_, rfl, h⟩) (s2 _ _ (ss _ _ hx)) C.cl C.nd (wf_days ld le lt li) h) (s2 _ _ (ss _ _ W.days)) (ints_paired ds) big (fun D v d acc Nx hD _ _ add _ => by
    try walk_at "rd"
    exact add _ rfl) fun pc hpc => k4 _ _ (seq_i fun nx5 k5 => ?_)
  rw [fm_const, W.lds]
  have npc : pb ≠ pc := fun z => by rw [← z, upd_same] at hpc; cases hpc
  have hpc0 : Hs pc = none := by rw [upd_ne npc.symm] at hpc; exact hpc
  have s3 := Same.upd2 (o := .lst (List.replicate (N.L + 1) V.non)) s2 hpc
  have M0 : MI Hs (upd (upd Hs pb (.lst ((List.replicate (N.L + 1) V.non).set 0 (.int 0)))) pc (.lst (List.replicate (N.L + 1) V.non))) pb pc ((List.replicate (N.L + 1) none).set 0 (some 0)) (List.replicate (N.L + 1) none) := by
    refine ⟨s3, ?_, _, upd_same, ?_⟩
    · rw [upd_ne npc, upd_same, List.map_set, List.map_replicate]
      rfl
    · have : ∀ m : Nat, Paired (IsO (upd (upd Hs pb (.lst ((List.replicate (N.L + 1) V.non).set 0 (.int 0)))) pc (.lst (List.replicate (N.L + 1) V.non)))) (List.replicate m V.non) (List.replicate m none) := fun m => by
        induction m with
        | zero => exact .nil
        | succ m ih => exact .cons rfl ih
      exact this _
  try walk_at "rd"
  refine k5 _ _ (seq_i fun nx6 k6 => ?_)
  try walk_at "rd"
  refine tWhile_i (fun m σ H' => ∃ br cm mv x5 x6 x7 x8 x9 x10, σ = [some (.ref a), some (.ref ps), some (.ref pb), some (.ref pc), some (.bl mv), x5, x6, x7, x8, x9, x10] ∧ MI Hs H' pb pc br cm ∧ N.BF φ (idF id) (tkF tk) br cm ∧ (mv = false → ∀ st ∈ sts, Lax st br) ∧ m = 2 * Net.mu N φ br (N.L + 1) + (if mv = true then 1 else 0)) ⟨_, _, _, true, _, _, _, _, _, _, rfl, M0, Net.BF.start, fun z => (by cases z), rfl⟩ ?_
  rintro m σ H' th el hth hel ⟨br, cm, mv, x5, x6, x7, x8, x9, x10, rfl, M, B, still, rfl⟩
  try walk_at "rd"
  cases mv with
  | false =>
    refine iteF (hel _ (k6 _ _ ?_))
    try walk_at "rd"
    refine ⟨by decide, fun t ht => ?_⟩
    obtain ⟨ψ, e1, D⟩ := B.done (fun st h => still rfl st ((mem st).mpr h))
    obtain ⟨vC, eC, pC⟩ := M.c
    have sT := Same.upd (o := .tup [V.ref pb, V.ref pc]) ht
    have sAll : Same H (upd H' t (.tup [V.ref pb, V.ref pc])) := ss.trans (M.s.trans sT)
    have eb : br.map oV = (List.range (N.L + 1)).map fun v => V.int (ψ v) := by
      refine List.ext_getElem? fun i => ?_
      by_cases c : i < N.L + 1
      · rw [brV_get (e1 i (by omega)), List.getElem?_map, List.getElem?_range c]
        rfl
      · rw [List.getElem?_eq_none (by rw [List.length_map, B.lb]; omega), List.getElem?_eq_none (by rw [List.length_map, List.length_range]; omega)]
    refine fin.new n sAll (q _ t pb pc ψ cm (ltH_same sAll) (ltH_noT n sAll) (ltH_tup upd_same) (ss.free hpc0) (ltH_lst ?_) ⟨vC, ltH_lst (sT _ _ eC), pC.mono fun _ _ q => (q.keep (TK.same sT)).keep (ltH_tk _ _)⟩ D)
    rw [← eb]
    exact sT _ _ M.b
  | true =>
    refine iteT (hth _ fun nxW kW => seq_i fun nx7 k7 => ?_)
    try walk_at "rd"
    refine k7 _ _ ?_
    refine tFor_lst (K := K) (a := ps) (xs := vS) (fun R h => ⟨_, rfl, h⟩) (fun i σ H' => ∃ br1 cm1 mv x5 x6 x7 x8 x9 x10, σ = [some (.ref a), some (.ref ps), some (.ref pb), some (.ref pc), some (.bl mv), x5, x6, x7, x8, x9, x10] ∧ MI Hs H' pb pc br1 cm1 ∧ N.BF φ (idF id) (tkF tk) br1 cm1 ∧ (mv = false → br1 = br ∧ ∀ st ∈ sts.take i, Lax st br) ∧ (mv = true → Net.mu N φ br1 (N.L + 1) < Net.mu N φ br (N.L + 1))) ⟨br, cm, false, _, _, _, _, _, _, rfl, M, B, fun _ => ⟨rfl, fun st h => by simp at h⟩, fun z => by cases z⟩ ?_ ?_ ?_
    · rintro i σ H2 ⟨br1, cm1, mv, _, _, _, _, _, _, rfl, M1, _⟩
      exact M1.s _ _ eS
    · rintro i v σ H2 nxL kL hv ⟨br1, cm1, mv, y5, y6, y7, y8, y9, y10, rfl, M1, B1, hf, ht⟩
      obtain ⟨st, hst, t, u, rfl, et, eu⟩ := Paired.getR pS hv
      have is := (mem st).mp (List.mem_of_getElem? hst)
      obtain ⟨l1, l2⟩ := is.le
      have tk2 : sts.take (i + 1) = sts.take i ++ [st] := take_snoc hst
      refine seq_i fun nx8 k8 => ?_
      try walk_at "rd"
      refine gtup4 (M1.s _ _ et) (k8 _ _ (if_i fun th2 el2 h1 h2 => ?_))
      -- where nothing more is brought
      have skip : Lax st br1 → el2 H2 := fun lx => h2 _ (kL _ _ ⟨br1, cm1, mv, _, _, _, _, _, _, rfl, M1, B1, fun z => ⟨(hf z).1, fun s hs => by
        rw [tk2] at hs
        rcases List.mem_append.mp hs with hs | hs
        · exact (hf z).2 s hs
        · rw [List.mem_singleton.mp hs, ← (hf z).1]
          exact lx⟩, ht⟩)
      obtain ⟨o1, ho1⟩ : ∃ o, br1[st.s]? = some o := ⟨_, List.getElem?_eq_getElem (by rw [B1.lb]; omega)⟩
      obtain ⟨o2, ho2⟩ : ∃ o, br1[st.e]? = some o := ⟨_, List.getElem?_eq_getElem (by rw [B1.lb]; omega)⟩
      try walk_at "rd"
      have at1 : ∀ {Q : VK}, Q (oV o1) H2 → rIxL K (.ref pb) (.int st.s) H2 Q := fun q => rix_lst M1.b (Int.natCast_nonneg _) (by rw [Int.toNat_natCast]; exact brV_get ho1) q
      have at2 : ∀ {Q : VK}, Q (oV o2) H2 → rIxL K (.ref pb) (.int st.e) H2 Q := fun q => rix_lst M1.b (Int.natCast_nonneg _) (by rw [Int.toNat_natCast]; exact brV_get ho2) q
      refine at1 ?_
      cases o1 with
      | none =>
        rw [if_neg (by simp [oV])]
        exact skip fun y hy => by rw [ho1] at hy; cases hy
      | some y =>
        rw [if_pos (by simp [oV])]
        refine at2 ?_
        -- more is brought
        have more : (∀ x, br1[st.e]? = some (some x) → x < y + st.m) → th2 H2 := fun lt2 => h1 _ (seq_i fun nx9 k9 => by
          obtain ⟨B2, dec⟩ := B1.relax hφ is ho1 lt2
          obtain ⟨vC, eC, pC⟩ := M1.c
          have lb1 : st.e < (br1.map oV).length := by rw [List.length_map, B1.lb]; omega
          have hbC : H2 pb ≠ H2 pc → True := fun _ => trivial
          refine tAsg_i (v := .int (y + st.m)) (fun Q h => by
            try walk_at "rd"
            exact at1 ⟨_, rfl, h⟩) (gsub_set (fun Q h => ⟨_, rfl, h⟩) (fun Q h => ⟨_, rfl, h⟩) M1.b rfl lb1 (k9 _ _ (seq_i fun nx10 k10 => ?_)))
          have kt1 : TK H2 (upd H2 pb (.lst ((br1.map oV).set st.e (.int (y + st.m))))) := (TK.refl H2).lst M1.b
          have eC2 : upd H2 pb (.lst ((br1.map oV).set st.e (.int (y + st.m)))) pc = some (.lst vC) := by rw [upd_ne npc.symm]; exact eC
          refine tAsg_i (v := .ref t) (fun Q h => ⟨_, rfl, h⟩) (gsub_set (fun Q h => ⟨_, rfl, h⟩) (fun Q h => ⟨_, rfl, h⟩) eC2 rfl (by rw [pC.length, B1.lc]; omega) (k10 _ _ ?_))
          try walk_at "rd"
          have kt2 : TK H2 (upd (upd H2 pb (.lst ((br1.map oV).set st.e (.int (y + st.m))))) pc (.lst (vC.set st.e (.ref t)))) := kt1.lst eC2
          refine kL _ _ ⟨br1.set st.e (some (y + st.m)), cm1.set st.e (some st), true, _, _, _, _, _, _, rfl, ⟨Same.upd3 (Same.upd3 M1.s hpb) hpc0, ?_, _, upd_same, Paired.setP ?_ st.e (pC.mono fun _ _ q => q.keep kt2)⟩, B2, fun z => (by cases z), fun _ => ?_⟩
          · rw [upd_ne npc, upd_same, List.map_set]
            rfl
          · exact ⟨t, u, rfl, kt2 _ _ (M1.s _ _ et), kt2 _ _ (M1.s _ _ eu)⟩
          · cases mv with
            | true => exact Nat.lt_trans dec (ht rfl)
            | false => rw [← (hf rfl).1]; exact dec)
        cases o2 with
        | none =>
          rw [if_pos (by simp [oV])]
          exact more fun x hx => by rw [ho2] at hx; cases hx
        | some x =>
          rw [if_neg (by simp [oV])]
          refine at1 ?_
          refine ⟨y, rfl, ?_⟩
          try walk_at "rd"
          refine at2 ⟨x, rfl, ?_⟩
          by_cases c : x < y + st.m
          · rw [if_pos c]
            exact more fun x' hx' => by rw [ho2] at hx'; cases hx'; exact c
          · rw [if_neg c]
            exact skip fun y' hy' => by
              rw [ho1] at hy'
              cases hy'
              exact ⟨x, ho2, by omega⟩
    · rintro σ H2 ⟨br1, cm1, mv, y5, y6, y7, y8, y9, y10, rfl, M1, B1, hf, ht⟩
      rw [pS.length, List.take_length] at hf
      refine kW _ _ _ ?_ ⟨br1, cm1, mv, _, _, _, _, _, _, rfl, M1, B1, fun z st hs => by rw [(hf z).1]; exact (hf z).2 st hs, rfl⟩
      cases mv with
      | true =>
        have := ht rfl
        simp
        omega
      | false =>
        rw [(hf rfl).1]
        simp
end
end Spn

namespace Spn
open PySem PySem.Spec PyProof.Rows L2
section
variable {K : PySem.W.Frag} {w : World} {vs : List V} {H : Hp} {Q Q0 : VK} {E : XK}
/-- [.. for i, x in enumerate(list)] -/
theorem tLc_enum {a : Addr} {xs : List V} {g : TG} {tt : TT} {te : TE} {vs : List Nat} {σ : L2.St} {ta : TA} (f : Nat → Option V) (ea : ∀ R : List V → Hp → Prop, R [.ref a] H → ta σ H R) (hs : H a = some (.lst xs)) (hz : xs.length ≤ sizeLine)
    (turn : ∀ D i x T H2 (Nx : Hp → Prop), xs[i]? = some x → Same H H2 → NoT H2 → H2 T = some (.tup [.int (i : Nat), x]) → (∀ z, f i = some z → ∃ acc, H2 D = some (.lst acc) ∧ acc.length < sizeLine ∧ Nx (upd H2 D (.lst (acc ++ [z])))) → (f i = none → Nx H2) →
      g (.ref T) (wipe σ vs) H2 fun σ2 H2 => wipe σ2 vs = wipe σ vs ∧ tt σ2 H2 fun b H3 =>
        if b = true then te σ2 H3 fun y H4 => ∃ acc, H4 D = some (.lst acc) ∧ acc.length < sizeLine ∧ Nx (upd H4 D (.lst (acc ++ [y]))) else Nx H3) (n : NoT H)
    (fin : ∀ D H2, H D = none → Same H H2 → NoT H2 → H2 D = some (.lst ((List.range xs.length).filterMap f)) → Q (.ref D) H2) : tLc (iEnum K ta) g tt te vs σ H Q := by
  refine ea _ ⟨a, xs, rfl, SqL.of hs, fun D hD => ?_⟩
  refine lc_it (walk_enum (xs := xs)) (fun i H2 => Same H H2 ∧ NoT H2 ∧ H2 D = some (.lst ((List.range i).filterMap f))) ⟨Same.upd hD, n.upd, upd_same⟩ (fun i H2 _ p => SqL.of (p.1 _ _ hs)) ?_ fun H2 p => fin D H2 hD p.1 p.2.1 p.2.2
  rintro i x H2 H3 hi ⟨s, n2, e⟩ ⟨T, y, z, rfl, hT, rfl, ey, ez⟩
  have ey := Option.some.inj ey
  subst ey
  have hTD : D ≠ T := ne_of_none e hT
  have e3 : (upd H2 T (.tup [.int (i : Nat), z])) D = some (.lst ((List.range i).filterMap f)) := by rw [upd_ne hTD]; exact e
  refine turn D i z T _ (fun H4 => Same H H4 ∧ NoT H4 ∧ H4 D = some (.lst ((List.range (i + 1)).filterMap f))) ez (Same.upd2 s hT) n2.upd upd_same (fun y ey => ⟨_, e3, ?_, Same.upd3 (Same.upd2 s hT) hD, n2.upd.upd, ?_⟩) fun ey => ⟨Same.upd2 s hT, n2.upd, ?_⟩
  · refine Nat.lt_of_le_of_lt (List.length_filterMap_le _ _) ?_
    rw [List.length_range]
    omega
  · rw [upd_same, List.range_succ, List.filterMap_append]
    simp [ey]
  · rw [e3, List.range_succ, List.filterMap_append]
    simp [ey]
theorem fm_range {n : Nat} {p : Nat → Bool} : (List.range n).filterMap (fun i => if p i = true then some (V.int (i : Nat)) else none) = (((List.range n).filter p).map Int.ofNat).map V.int := by
  rw [fm_filter p (fun i => V.int (i : Nat)), List.map_map]
  rfl
theorem pure_Ways_choice (C : WaysC K) (h : sp_Ways_choice K w vs H Q E) (fin : Fin H Q Q0) : t_Ways_choice K w (endS Q0) (start ["self", "at", "mark"] vs) H := by
  obtain ⟨a, N, ld, le, lt, li, ds, es, tk, id, rfl, W, n, q⟩ := h
  obtain ⟨dx, hx⟩ := W.ins
  have zn := W.zn
  unfold t_Ways_choice
  try walk_at "rd"
  refine tLc_enum (xs := tk.map V.bl) (fun i => if tkF tk i = true then some (.int (i : Nat)) else none) (fun R h => ?_) W.taken (by rw [List.length_map, W.ltk, sizeLine_eq]; omega) ?_ n ?_
  · exact rfld (fun Q h => ⟨_, rfl, h⟩) hx C.cl C.nt (wf_taken ld le lt li) h
  · rintro D i x T H2 Nx hx s n2 hT add skip
    have hi : i < tk.length := by
      have := (List.getElem?_eq_some_iff.mp hx).1
      rwa [List.length_map] at this
    rw [tkF_get hi] at hx
    have hx := Option.some.inj hx
    subst hx
    refine gtup2 hT ?_
    try walk_at "rd"
    by_cases c : tkF tk i = true
    · rw [if_pos c]
      exact add _ (if_pos c)
    · rw [if_neg c]
      exact skip (if_neg c)
  · intro D H2 hD s n2 e
    refine fin _ _ _ (Shr.one n s hD ?_ (fun _ _ _ z => by cases z)) (q D hD)
    rw [e, List.length_map, W.ltk, fm_range]
    rfl
theorem pure_Ways_amounts (C : WaysC K) (h : sp_Ways_amounts K w vs H Q E) (fin : Fin H Q Q0) : t_Ways_amounts K w (endS Q0) (start ["self", "brought", "came", "found", "at"] vs) H := by
  obtain ⟨a, N, ld, le, lt, li, ds, es, tk, id, rfl, W, n, hφ, q⟩ := h
  obtain ⟨dx, hx⟩ := W.ins
  have zL := W.zL
  refine seq_i fun nx k => ?_
  try walk_at "rd"
  refine rmeth0 (fun Q h => ⟨_, rfl, h⟩) hx (wf_no _ _ _ _) ⟨a, N, ld, le, lt, li, ds, es, tk, id, rfl, W, n, hφ, fun Hm t pb pc ψ cm sm nm ht hpc hpb _ D => ?_⟩
  refine gtup2 ht (k _ _ (seq_i fun nx2 k2 => ?_))
  try walk_at "rd"
  refine ⟨Nat.zero_le _, fun pf hpf => k2 _ _ (seq_i fun nx3 k3 => ?_)⟩
  have s1 := Same.upd (o := .lst []) hpf
  have hpf0 : H pf = none := sm.free hpf
  have bv : ∀ v, v ≤ N.L → ((List.range (N.L + 1)).map fun v => V.int (ψ v))[v]? = some (.int (ψ v)) := fun v hv => by
    rw [List.getElem?_map, List.getElem?_range (by omega)]
    rfl
  refine tFor_rng1 (n := N.L) (fun R h => ?_) (by omega) (fun i σ H' => ∃ x, σ = [some (.ref a), some (.ref pb), some (.ref pc), some (.ref pf), x] ∧ Same H H' ∧ NoT H' ∧ H' pb = some (.lst ((List.range (N.L + 1)).map fun v => V.int (ψ v))) ∧ ∃ vs, H' pf = some (.lst vs) ∧ Paired (IsP H') vs (tollsOf i (idF ds) ψ)) ?_ ?_ ?_
  · try walk_at "rd"
    exact rfld (fun Q h => ⟨_, rfl, h⟩) (s1 _ _ (sm _ _ hx)) C.cl C.ni (wf_idle ld le lt li) (rlen_lst (s1 _ _ (sm _ _ W.idle)) ((List.length_map _).trans W.lid) h)
  · exact ⟨none, rfl, sm.trans s1, nm.upd, s1 _ _ hpb, [], upd_same, .nil⟩
  · rintro i σ H' nxL kL hi ⟨x, rfl, s, n', hb, us, hf, pr⟩
    refine if_i fun th el h1 h2 => ?_
    have e1 : ∀ {Q : VK}, Q (.int (ψ (i + 1))) H' → rIxL K (.ref pb) (.int ((i : Int) + 1)) H' Q := fun q => rix_lst hb (by omega) (by rw [show ((i : Int) + 1).toNat = i + 1 by omega]; exact bv _ (by omega)) q
    have e0 : ∀ {Q : VK}, Q (.int (ψ i)) H' → rIxL K (.ref pb) (.int (i : Int)) H' Q := fun q => rix_lst hb (by omega) (by rw [Int.toNat_natCast]; exact bv _ (by omega)) q
    try walk_at "rd"
    refine e1 (e0 ⟨_, rfl, _, rfl, ?_⟩)
    have tl : tollsOf (i + 1) (idF ds) ψ = tollsOf i (idF ds) ψ ++ if ψ i < ψ (i + 1) then [(idF ds i, ψ (i + 1) - ψ i)] else [] := by
      unfold tollsOf
      rw [List.range_succ, List.filter_append, List.map_append]
      by_cases c : ψ i < ψ (i + 1)
      · rw [if_pos c, List.filter_cons_of_pos (by simp [c])]
        rfl
      · rw [if_neg c, List.filter_cons_of_neg (by simp [c])]
        rfl
    by_cases c : ψ i < ψ (i + 1)
    · rw [if_pos c] at tl
      rw [if_pos c]
      refine h1 _ ?_
      try walk_at "rd"
      refine ⟨ty_lst (K := K) hf, ?_⟩
      refine rfld (fun Q h => ⟨_, rfl, h⟩) (s _ _ hx) C.cl C.nd (wf_days ld le lt li) ?_
      refine rix_lst (s _ _ W.days) (Int.natCast_nonneg i) (by rw [Int.toNat_natCast]; exact idF_get (by rw [W.lds]; omega)) ?_
      refine e1 (e0 ⟨_, rfl, _, rfl, ?_⟩)
      refine ⟨by decide, fun t' ht' => ?_⟩
      have s2 := Same.upd (o := .tup [.int (idF ds i), .int (ψ (i + 1) - ψ i)]) ht'
      have hf2 := s2 _ _ hf
      have pl : us.length ≤ N.L := by
        have : (tollsOf i (idF ds) ψ).length ≤ i := by
          unfold tollsOf
          rw [List.length_map]
          exact Nat.le_trans (List.length_filter_le _ _) (by rw [List.length_range]; exact Nat.le_refl _)
        rw [pr.length]
        omega
      refine rapp (K := K) hf2 (by rw [sizeLine_eq]; omega) (kL _ _ ⟨_, rfl, Same.upd3 (s.trans s2) hpf0, n'.upd.upd, ?_, _, upd_same, ?_⟩)
      · rw [upd_ne fun z => ?_]
        · exact s2 _ _ hb
        · have := z ▸ sm.free hpf
          rw [z] at hpb
          exact absurd hpb (by rw [hpf]; intro z; cases z)
      · rw [tl]
        refine (pr.mono fun _ _ q => q.keep ((TK.same s2).lst hf2)).snoc ⟨t', rfl, ?_⟩
        exact ((TK.refl _).lst hf2) _ _ upd_same
    · rw [if_neg c, List.append_nil] at tl
      rw [if_neg c]
      refine h2 _ (kL _ _ ⟨_, rfl, s, n', hb, us, hf, ?_⟩)
      rw [tl]
      exact pr
  · rintro σ H' ⟨x, rfl, s, n', hb, us, hf, pr⟩
    refine k3 _ _ ?_
    try walk_at "rd"
    exact fin.new n s (q _ pf ψ (ltH_same s) (ltH_noT n s) hpf0 ⟨us, ltH_lst hf, pr.mono fun _ _ q => q.keep (ltH_tk _ _)⟩ D.feas)
end
end Spn

namespace Spn
open PySem PySem.Spec PyProof.Rows L2
section
variable {K : PySem.W.Frag} {w : World} {vs : List V} {H : Hp} {Q Q0 : VK} {E : XK}
theorem idF_set {id : List Int} {j : Nat} {x : Int} (h : j < id.length) : idF (id.set j x) = Net.setF (idF id) j x := by
  funext i
  unfold idF Net.setF
  simp only [List.getD_eq_getElem?_getD, List.getElem?_set]
  by_cases c : i = j
  · subst c
    simp [h]
  · rw [if_neg c, if_neg fun z => c z.symm]
theorem tkF_set {id : List Bool} {j : Nat} {x : Bool} (h : j < id.length) : tkF (id.set j x) = Net.setF (tkF id) j x := by
  funext i
  unfold tkF Net.setF
  simp only [List.getD_eq_getElem?_getD, List.getElem?_set]
  by_cases c : i = j
  · subst c
    simp [h]
  · rw [if_neg c, if_neg fun z => c z.symm]
/-- two lists changed, what else is new forgotten -/
theorem Shr.two {H H' : Hp} {p q : Addr} {xs ys us ws : List V} (n : NoT H) (hp : H p = some (.lst us)) (hq : H q = some (.lst ws)) (ne : p ≠ q) (e1 : H' p = some (.lst xs)) (e2 : H' q = some (.lst ys)) (k : ∀ b o, H b = some o → b ≠ p → b ≠ q → H' b = some o) : Shr H (L2.upd (L2.upd H p (.lst xs)) q (.lst ys)) H' := by
  refine ⟨fun b o e => ?_, fun b o e => ?_, fun a C dx fs e => ?_, n.upd.upd⟩
  · by_cases c : b = q
    · subst c; rw [upd_same, e2]
    · rw [upd_ne c]
      by_cases d : b = p
      · subst d; rw [upd_same, e1]
      · rw [upd_ne d, e, k b o e d c]
  · by_cases c : b = q
    · subst c; rw [upd_same] at e; rw [e2]; exact e
    · rw [upd_ne c] at e
      by_cases d : b = p
      · subst d; rw [upd_same] at e; rw [e1]; exact e
      · rw [upd_ne d] at e; exact k b o e d c
  · by_cases c : a = q
    · subst c; rw [upd_same] at e; cases e
    · rw [upd_ne c] at e
      by_cases d : a = p
      · subst d; rw [upd_same] at e; cases e
      · rw [upd_ne d] at e; exact .inl ⟨_, _, e⟩
structure LI (H H' : Hp) (lt li pc : Addr) (cm : List (Option Net.Stp)) (id : List Int) (tk : List Bool) : Prop where
  k : ∀ b o, H b = some o → b ≠ lt → b ≠ li → H' b = some o
  t : H' lt = some (.lst (tk.map V.bl))
  i : IntsAt H' li id
  c : CameAt H' pc cm
theorem pure_Ways_lead (C : WaysC K) (h : sp_Ways_lead K w vs H Q E) (fin : Fin H Q Q0) : t_Ways_lead K w (endS Q0) (start ["self", "brought", "came", "day", "start", "end", "more", "which", "kind", "at"] vs) H := by
  obtain ⟨a, N, ld, le, lt, li, ds, es, tk, id, k, rfl, W, n, hf, hφ, q⟩ := h
  obtain ⟨dx, hx⟩ := W.ins
  refine seq_i fun nx kk => ?_
  try walk_at "rd"
  refine rmeth0 (fun Q h => ⟨_, rfl, h⟩) hx (wf_no _ _ _ _) ⟨a, N, ld, le, lt, li, ds, es, tk, id, rfl, W, n, hφ, fun Hm t pb pc ψ cm sm nm ht hpc hpb hcm D => ?_⟩
  refine gtup2 ht (kk _ _ (seq_i fun nx2 k2 => ?_))
  try walk_at "rd"
  refine rfld (fun Q h => ⟨_, rfl, h⟩) (sm _ _ hx) C.cl C.nd (wf_days ld le lt li) (rlen_lst (sm _ _ W.days) ((List.length_map _).trans W.lds) ?_)
  try walk_at "rd"
  refine k2 _ _ ?_
  obtain ⟨d0, L0⟩ := Net.Led.start D hf
  have nlt : lt ≠ a := ne_of W.taken hx (by intro z; cases z)
  have nli : li ≠ a := ne_of W.idle hx (by intro z; cases z)
  have npt : lt ≠ pc := ne_of_none W.taken hpc
  have npi : li ≠ pc := ne_of_none W.idle hpc
  refine tWhile_i (fun m σ H' => ∃ (v : Nat) (id2 : List Int) (tk2 : List Bool) (x4 x5 x6 x7 x8 x9 : Option V), σ = [some (.ref a), some (.ref pb), some (.ref pc), some (.int v), x4, x5, x6, x7, x8, x9] ∧ LI H H' lt li pc cm id2 tk2 ∧ id2.length = N.L ∧ tk2.length = N.n ∧ N.Led (idF id) (tkF tk) ψ cm k m v (idF id2) (tkF tk2)) ⟨d0, N.L, id, tk, none, none, none, none, none, none, ?_, ⟨fun b o e _ _ => sm b o e, sm _ _ W.taken, sm _ _ W.idle, hcm⟩, W.lid, W.ltk, L0⟩ ?_
  · rw [show ((N.L + 1 : Nat) : Int) - 1 = N.L by omega]
  rintro m σ H' th el hth hel ⟨v, id2, tk2, x4, x5, x6, x7, x8, x9, rfl, I, l1, l2, L⟩
  try walk_at "rd"
  by_cases c : (0 : Int) < v
  · rw [if_pos c]
    refine hth _ fun nxW kW => seq_i fun nx3 k3 => ?_
    obtain ⟨st, d', hst, is, ev, rfl, turn⟩ := L.turn D (by omega)
    obtain ⟨vC, eC, pC⟩ := I.c
    obtain ⟨y, hy, ho⟩ := Paired.getL pC hst
    obtain ⟨t', u', rfl, ht', hu'⟩ := ho
    have hx' := I.k _ _ hx nlt.symm nli.symm
    try walk_at "rd"
    refine rix_lst eC (Int.natCast_nonneg v) (by rw [Int.toNat_natCast]; exact hy) (gtup4 ht' (k3 _ _ (seq_i fun nx4 k4 => ?_)))
    try walk_at "rd"
    refine gtup2 hu' (k4 _ _ (seq_i fun nx5 k5 => if_i fun th2 el2 h1 h2 => ?_))
    try walk_at "rd"
    rcases turn with ⟨c2, kd, hix, L'⟩ | ⟨c2, hix, L'⟩
    · rw [if_pos c2]
      refine h1 _ ?_
      have hl : st.ix < id2.length := by omega
      refine rfld (fun Q h => ⟨_, rfl, h⟩) hx' C.cl C.ni (wf_idle ld le lt li) ?_
      try walk_at "rd"
      refine ⟨li, _, st.ix, .int (idF id2 st.ix), rfl, rfl, SqL.of I.i, idF_get hl, ?_⟩
      try walk_at "rd"
      refine ⟨?_, rset I.i rfl (by rw [List.length_map]; exact hl) (k5 _ _ ?_)⟩
      · rcases kd with e | e <;> rw [e] <;> unfold CMul <;> decide
      try walk_at "rd"
      refine kW _ _ d' (Nat.lt_succ_self _) ⟨st.s, id2.set st.ix (idF id2 st.ix + (1 - 2 * st.kd)), tk2, _, _, _, _, _, _, rfl, ⟨fun b o e e1 e2 => ?_, ?_, ?_, _, ?_, pC.mono fun _ _ q => q.keep ((TK.refl _).lst I.i)⟩, by rw [List.length_set]; exact l1, l2, ?_⟩
      · rw [upd_ne e2]
        exact I.k b o e e1 e2
      · rw [upd_ne W.nt]
        exact I.t
      · show _ = _
        rw [upd_same, List.map_set]
      · rw [upd_ne npi.symm]
        exact eC
      · rw [idF_set hl]
        exact L'
    · rw [if_neg c2]
      refine h2 _ ?_
      have hl : st.ix < tk2.length := by omega
      refine tAsg_i (v := .bl (decide (st.kd = 2))) (fun Q h => by
        try walk_at "rd"
        exact req_int h) (gsub_set (fun Q h => rfld (fun Q h => ⟨_, rfl, h⟩) hx' C.cl C.nt (wf_taken ld le lt li) h) (fun Q h => ⟨_, rfl, h⟩) I.t rfl (by rw [List.length_map]; exact hl) (k5 _ _ ?_))
      try walk_at "rd"
      refine kW _ _ d' (Nat.lt_succ_self _) ⟨st.s, id2, tk2.set st.ix (decide (st.kd = 2)), _, _, _, _, _, _, rfl, ⟨fun b o e e1 e2 => ?_, ?_, ?_, _, ?_, pC.mono fun _ _ q => q.keep ((TK.refl _).lst I.t)⟩, l1, by rw [List.length_set]; exact l2, ?_⟩
      · rw [upd_ne e1]
        exact I.k b o e e1 e2
      · rw [upd_same, List.map_set]
      · show _ = _
        rw [upd_ne W.nt.symm]
        exact I.i
      · rw [upd_ne npt.symm]
        exact eC
      · rw [tkF_set hl]
        exact L'
  · rw [if_neg c]
    refine hel _ ?_
    have : v = 0 := by omega
    subst this
    obtain ⟨f1, f2⟩ := L.end_
    exact fin _ _ _ (Shr.two n W.taken W.idle W.nt I.t I.i I.k) (q tk2 id2 l2 l1 f1 ⟨ψ, f2⟩)
end
end Spn

namespace Spn
open PySem PySem.Spec PyProof.Rows L2
section
variable {K : PySem.W.Frag} {w : World} {vs : List V} {H : Hp} {Q Q0 : VK} {E : XK}
/-- a list of new things, one for each item -/
theorem tLc_new {α β : Type} {R : V → α → Prop} {F : Hp → V → β → Prop} {a : Addr} {xs : List V} {g : TG} {te : TE} {vs : List Nat} {σ : L2.St} {ta : TE} (ys : List α) (f : α → β) (ea : ∀ R : VK, R (.ref a) H → ta σ H R) (hs : H a = some (.lst xs)) (hp : Paired R xs ys) (hz : ys.length ≤ sizeLine) (n : NoT H)
    (keep : ∀ H1 H2 v b, TK H1 H2 → F H1 v b → F H2 v b)
    (turn : ∀ x y H2, R x y → y ∈ ys → Same H H2 → NoT H2 →
      ∀ (go : V → Hp → Prop), (∀ v H3, Same H2 H3 → NoT H3 → F H3 v (f y) → go v H3) → g x (wipe σ vs) H2 fun σ2 H3 => wipe σ2 vs = wipe σ vs ∧ te σ2 H3 go)
    (fin : ∀ D H2 us, H D = none → Same H H2 → NoT H2 → H2 D = some (.lst us) → Paired (F H2) us (ys.map f) → Q (.ref D) H2) : tLc (iList K ta) g tYes te vs σ H Q := by
  refine ea _ ⟨a, rfl, ⟨xs, SqL.of hs⟩, fun D hD => ?_⟩
  refine lc_it (walk_list (xs := xs)) (fun i H2 => Same H H2 ∧ NoT H2 ∧ ∃ us, H2 D = some (.lst us) ∧ Paired (F H2) us ((ys.take i).map f)) ⟨Same.upd hD, n.upd, [], upd_same, .nil⟩ (fun i H2 _ p => SqL.of (p.1 _ _ hs)) ?_ fun H2 ⟨s, n2, us, e, p⟩ => ?_
  · rintro i x H2 H3 hi ⟨s, n2, us, e, p⟩ ⟨rfl, hx⟩
    obtain ⟨y, hy, r⟩ := Paired.getR hp hx
    have il : i < ys.length := (List.getElem?_eq_some_iff.mp hy).1
    have z := turn x y H3 r (List.mem_of_getElem? hy) s n2 (fun v H4 => ∃ acc, H4 D = some (.lst acc) ∧ acc.length < sizeLine ∧ (Same H (upd H4 D (.lst (acc ++ [v]))) ∧ NoT (upd H4 D (.lst (acc ++ [v]))) ∧ ∃ us, (upd H4 D (.lst (acc ++ [v]))) D = some (.lst us) ∧ Paired (F (upd H4 D (.lst (acc ++ [v])))) us ((ys.take (i + 1)).map f))) fun v H4 s4 n4 h4 => by
      have tk : TK H4 (upd H4 D (.lst (us ++ [v]))) := (TK.refl _).lst (s4 _ _ e)
      refine ⟨us, s4 _ _ e, ?_, Same.upd3 (s.trans s4) hD, n4.upd, _, upd_same, ?_⟩
      · rw [p.length, List.length_map, List.length_take]
        omega
      · rw [take_snoc hy, List.map_append]
        exact (p.mono fun _ _ q => keep _ _ _ _ tk (keep _ _ _ _ (TK.same s4) q)).snoc (keep _ _ _ _ tk h4)
    unfold tYes
    simp only [if_true]
    exact z
  · refine fin D H2 us hD s n2 e ?_
    rwa [hp.length, List.take_length] at p
theorem cut1 {v : V} {r : List V} : cutV (v :: r) (some 1) none = r := by
  unfold cutV
  rw [show (some (1 : Int)) = some ((1 : Nat) : Int) from rfl, HT.sIx_nat, HT.sIx_none, List.length_cons]
  rw [show min 1 (r.length + 1) = 1 by omega]
  simp
/-! ### an instance that is being set up -/
structure JI (H Hn : Hp) (x C dx : Addr) (fs : List (Str × V)) : Prop where
  k : ∀ b o, H b = some o → b ≠ x → Hn b = some o
  n : NoT Hn
  x : Hn x = some (.ins C dx fs)
theorem JI.new {H Hn : Hp} {x C dx p : Addr} {fs : List (Str × V)} {o : HO} (J : JI H Hn x C dx fs) (hp : Hn p = none) (ho : plainO o = true := by rfl) : JI H (upd Hn p o) x C dx fs :=
  ⟨fun b u e ne => Same.upd hp _ _ (J.k b u e ne), J.n.upd ho, Same.upd hp _ _ J.x⟩
theorem JI.same {H Hn Hm : Hp} {x C dx : Addr} {fs : List (Str × V)} (J : JI H Hn x C dx fs) (s : Same Hn Hm) (n : NoT Hm) : JI H Hm x C dx fs := ⟨fun b u e ne => s _ _ (J.k b u e ne), n, s _ _ J.x⟩
theorem JI.put {H Hn : Hp} {x C dx : Addr} {fs fs' : List (Str × V)} (J : JI H Hn x C dx fs) : JI H (upd Hn x (.ins C dx fs')) x C dx fs' :=
  ⟨fun b u e ne => by rw [upd_ne ne]; exact J.k b u e ne, J.n.upd, upd_same⟩
theorem JI.free {H Hn : Hp} {x C dx p : Addr} {fs : List (Str × V)} (J : JI H Hn x C dx fs) (hp : Hn p = none) : H p = none := by
  cases e : H p with
  | none => rfl
  | some o =>
    by_cases c : p = x
    · subst c; rw [J.x] at hp; cases hp
    · rw [J.k p o e c] at hp; cases hp
/-- a list behind a field that is set -/
theorem put_lst {Hn : Hp} {x C dx p : Addr} {fs fs' : List (Str × V)} {l : List V} (h : Hn p = some (.lst l)) (hx : Hn x = some (.ins C dx fs)) : (upd Hn x (.ins C dx fs')) p = some (.lst l) := by
  rw [upd_ne (ne_of h hx (by intro z; cases z))]
  exact h
theorem put_tk {Hn : Hp} {x C dx : Addr} {fs fs' : List (Str × V)} (hx : Hn x = some (.ins C dx fs)) : TK Hn (upd Hn x (.ins C dx fs')) := fun p l h => by
  rw [upd_ne (ne_of h hx (by intro z; cases z))]
  exact h
theorem Fin.newX {H : Hp} {Q Q0 : VK} (fin : Fin H Q Q0) {v : V} {H4 : Hp} {x C dx : Addr} {fs0 fs : List (Str × V)} (n : NoT H) (hx : H x = some (.ins C dx fs0)) (J : JI H H4 x C dx fs) (q : NoT (ltH H H4) → Q v (ltH H H4)) : Q0 v H4 := by
  have nT : NoT (ltH H H4) := fun b o e => by
    cases h : H b with
    | some u =>
      rw [ltH_old h] at e
      exact J.n b o e
    | none => rcases ltH_new h e with ⟨l, rfl⟩ | ⟨l, rfl⟩ <;> rfl
  refine fin _ _ _ ⟨fun b o h => ltH_old h, fun b o e => ?_, fun a C1 dx1 fs1 e => ?_, nT⟩ (q nT)
  · cases h : H b with
    | some u => rw [ltH_old h] at e; exact e
    | none =>
      unfold ltH at e
      rw [h] at e
      cases z : H4 b with
      | none => rw [z] at e; cases e
      | some u =>
        rw [z] at e
        cases u with
        | lst l => exact e
        | tup l => exact e
        | _ => cases e
  · by_cases c : a = x
    · subst c
      rw [ltH_old hx, J.x] at e
      cases e
      exact .inl ⟨_, _, hx⟩
    · cases h : H a with
      | some u =>
        rw [ltH_old h, J.k a u h c] at e
        cases e
        exact .inl ⟨_, _, rfl⟩
      | none => rcases ltH_new h e with ⟨l, z⟩ | ⟨l, z⟩ <;> cases z
theorem WA.move {H1 H2 : Hp} {N : Net} {a ld le lt li : Addr} {ds : List Int} {es : List (Nat × Nat × Int)} {tk : List Bool} {id : List Int} (W : WA K H1 N a ld le lt li ds es tk id) (ha : H2 a = H1 a) (hl : ∀ b xs, H1 b = some (.lst xs) → H2 b = some (.lst xs)) (ht : TK H1 H2) : WA K H2 N a ld le lt li ds es tk id := by
  obtain ⟨vE, hE, pE⟩ := W.ends
  exact { W with ins := by obtain ⟨dx, h⟩ := W.ins; exact ⟨dx, ha.trans h⟩, days := hl _ _ W.days, ends := ⟨vE, hl _ _ hE, pE.mono fun _ _ q => q.keep ht⟩, taken := hl _ _ W.taken, idle := hl _ _ W.idle }
theorem WA.led {H : Hp} {N : Net} {a ld le lt li : Addr} {ds : List Int} {es : List (Nat × Nat × Int)} {tk tk' : List Bool} {id id' : List Int} (W : WA K H N a ld le lt li ds es tk id) (nd : lt ≠ ld) (ne1 : lt ≠ le) (ne2 : li ≠ le) (lT : tk'.length = N.n) (lI : id'.length = N.L) : WA K (upd (upd H lt (.lst (tk'.map V.bl))) li (.lst (id'.map V.int))) N a ld le lt li ds es tk' id' := by
  obtain ⟨vE, hE, pE⟩ := W.ends
  obtain ⟨dx, hx⟩ := W.ins
  have k1 : TK H (upd H lt (.lst (tk'.map V.bl))) := (TK.refl _).lst W.taken
  have k2 : TK H (upd (upd H lt (.lst (tk'.map V.bl))) li (.lst (id'.map V.int))) := k1.lst (by rw [upd_ne W.nt.symm]; exact W.idle)
  refine { W with ins := ⟨dx, ?_⟩, days := ?_, ends := ⟨vE, ?_, pE.mono fun _ _ q => q.keep k2⟩, taken := ?_, idle := upd_same, lid := lI, ltk := lT }
  · rw [upd_ne (ne_of hx W.idle (by intro z; cases z)), upd_ne (ne_of hx W.taken (by intro z; cases z))]
    exact hx
  · show _ = _
    rw [upd_ne W.ne.symm, upd_ne nd.symm]
    exact W.days
  · rw [upd_ne ne2.symm, upd_ne ne1.symm]
    exact hE
  · rw [upd_ne W.nt, upd_same]
theorem flow_congr {N : Net} {id id' : Nat → Int} {tk : Nat → Bool} {k : Int} (h : ∀ j, j < N.L → id' j = id j) (f : N.Flow id tk k) : N.Flow id' tk k := fun j hj => by
  rw [h j hj]
  exact f j hj
theorem idF_map {id : List Int} {f : Int → Int} {j : Nat} (h : j < id.length) : idF (id.map f) j = f (idF id j) := by
  unfold idF
  rw [List.getD_eq_getElem?_getD, List.getD_eq_getElem?_getD, List.getElem?_map, List.getElem?_eq_getElem h]
  rfl
theorem idF_zero (n : Nat) : idF (List.replicate n 0) = fun _ => 0 := by
  funext j
  unfold idF
  rw [List.getD_eq_getElem?_getD, List.getElem?_replicate]
  split <;> rfl
theorem tkF_false (n : Nat) : tkF (List.replicate n false) = fun _ => false := by
  funext j
  unfold tkF
  rw [List.getD_eq_getElem?_getD, List.getElem?_replicate]
  split <;> rfl
theorem idx_days {p : Addr} {ks : List Int} {x : Int} {Q : VK} (h : IntsAt H p ks) (hm : x ∈ ks) (q : Q (.int (ixOf ks x)) H) : rIndex K (.ref p) [.int x] H Q := by
  have g := ixOf_get hm
  refine ⟨p, ks.map V.int, .int x, ixOf ks x, .int x, rfl, rfl, SqL.of h, rfl, ?_, by rw [List.getElem?_map, g]; rfl, ?_, fun m z hm hz => ?_, q⟩
  · rw [List.all_map]
    exact List.all_eq_true.mpr fun _ _ => rfl
  · simp [eqV]
  · rw [List.getElem?_map] at hz
    cases e : ks[m]? with
    | none => rw [e] at hz; cases hz
    | some y =>
      rw [e] at hz
      have hz := Option.some.inj hz
      subst hz
      have := ixOf_before hm e
      simp [eqV, this]
end
end Spn

namespace Spn
open PySem PySem.Spec PyProof.Rows L2
section
variable {K : PySem.W.Frag} {w : World} {vs : List V} {H : Hp} {Q Q0 : VK} {E : XK}
theorem pf1 (a b : V) : putF ("ends" : Str) b ([("days", a)] : List (Str × V)) = ([("days", a), ("ends", b)] : List (Str × V)) := by
  rw [putF_past (by decide +kernel), putF_nil]
theorem pf2 (a b c : V) : putF ("taken" : Str) c ([("days", a), ("ends", b)] : List (Str × V)) = ([("days", a), ("ends", b), ("taken", c)] : List (Str × V)) := by
  rw [putF_past (by decide +kernel), putF_past (by decide +kernel), putF_nil]
theorem pf3 (a b c d : V) : putF ("idle" : Str) d ([("days", a), ("ends", b), ("taken", c)] : List (Str × V)) = ([("days", a), ("ends", b), ("taken", c), ("idle", d)] : List (Str × V)) := by
  rw [putF_past (by decide +kernel), putF_past (by decide +kernel), putF_past (by decide +kernel), putF_nil]
theorem pf4 (a b c d : Addr) (e : Addr) : putF ("idle" : Str) (.ref e) (waysF a b c d) = waysF a b c e := by
  unfold waysF
  rw [putF_past (by decide +kernel), putF_past (by decide +kernel), putF_past (by decide +kernel), putF_here]
theorem JI.set {H Hn : Hp} {x C dx p : Addr} {fs : List (Str × V)} {l l' : List V} (J : JI H Hn x C dx fs) (hp : H p = none) (e : Hn p = some (.lst l)) : JI H (upd Hn p (.lst l')) x C dx fs :=
  ⟨fun b o h ne => by rw [upd_ne (ne_of_none h hp)]; exact J.k b o h ne, J.n.upd, by rw [upd_ne (ne_of J.x e (by intro z; cases z))]; exact J.x⟩
theorem tLc_via {ta : TE} {g : TG} {tt : TT} {te : TE} {vs : List Nat} {σ : L2.St} {H : Hp} {Q : VK} (h : ta σ H fun v H1 => tLc (iList K fun _ H2 Q2 => Q2 v H2) g tt te vs σ H1 Q) : tLc (iList K ta) g tt te vs σ H Q := h
theorem fm_rq (f : Rq → Int) (rs : List Rq) : rs.filterMap (fun r => some (V.int (f r))) = (rs.map f).map V.int := fm_map f V.int rs
theorem pure_Ways___init__ (C : WaysC K) (h : sp_Ways___init__ K w vs H Q E) (fin : Fin H Q Q0) : t_Ways___init__ K w (endS Q0) (start ["self", "requests", "rooms", "marks", "room", "first", "last", "price", "request", "day", "more"] vs) H := by
  obtain ⟨x, dx, a, m, rs, rfl, hx, hr, ok, ne, zn, m0, n, q⟩ := h
  obtain ⟨rvs, ha, pr⟩ := hr
  have big : ∀ k, k ≤ 4000 → k < sizeLine := fun k hk => by rw [sizeLine_eq]; omega
  have J0 : JI H H x (He.ga K "Ways") dx [] := ⟨fun _ _ e _ => e, n, hx⟩
  have hax : a ≠ x := ne_of ha hx (by intro z; cases z)
  -- marks
  refine seq_i fun nx k => ?_
  try walk_at "rd"
  refine tLc_list rs (fun r => some (.int r.1)) (fun R h => ⟨_, rfl, h⟩) ha pr (Nat.le_of_lt (big _ (by omega))) (fun D v r acc Nx hD ⟨t, e, ht⟩ _ add _ => ?_) fun p1 hp1 => ?_
  · subst e
    try walk_at "rd"
    exact rix_tup (Same.upd hD _ _ ht) (by decide) rfl (add _ rfl)
  have J1 := J0.new (o := .lst (rs.filterMap fun r => some (V.int r.1))) hp1
  have pr1 : Paired (IsR (upd H p1 (.lst (rs.filterMap fun r => some (V.int r.1))))) rvs rs := pr.mono fun _ _ q => q.same (Same.upd hp1)
  refine tLc_list rs (fun r => some (.int (r.2.1 + 1))) (fun R h => ⟨_, rfl, h⟩) (J1.k _ _ ha hax) pr1 (Nat.le_of_lt (big _ (by omega))) (fun D v r acc Nx hD ⟨t, e, ht⟩ _ add _ => ?_) fun p2 hp2 => ?_
  · subst e
    try walk_at "rd"
    refine rix_tup (Same.upd hD _ _ ht) (by decide) rfl ?_
    try walk_at "rd"
    exact add _ rfl
  have J2 := J1.new (o := .lst (rs.filterMap fun r => some (V.int (r.2.1 + 1)))) hp2
  refine ⟨p1, p2, _, _, rfl, rfl, Same.upd hp2 _ _ upd_same, upd_same, ?_, fun p3 hp3 => k _ _ (seq_i fun nx2 k2 => ?_)⟩
  · rw [fm_rq, fm_rq, List.length_map, List.length_map, List.length_map, List.length_map]
    rw [sizeLine_eq]; omega
  have em : (rs.filterMap fun r => some (V.int r.1)) ++ (rs.filterMap fun r => some (V.int (r.2.1 + 1))) = (marks rs).map V.int := by
    rw [fm_rq, fm_rq, ← List.map_append]
    rfl
  have lm : (marks rs).length ≤ 1000 := by
    unfold marks
    rw [List.length_append, List.length_map, List.length_map]
    omega
  have J3 := J2.new (o := .lst ((rs.filterMap fun r => some (V.int r.1)) ++ (rs.filterMap fun r => some (V.int (r.2.1 + 1))))) hp3
  -- days
  refine ⟨_, rfl, p3, marks rs, rfl, by rw [em]; exact SqL.of upd_same, by omega, fun ps c hps => ⟨ps, _, c, rfl, upd_same, fun ks pd pw hk hpd => ?_⟩⟩
  have J4 := J3.new (o := SetO w ps (fun j => decide (j ∈ marks rs)) c) hps
  have J5 := J4.new (o := .lst (ks.map V.int)) hpd
  refine ⟨_, rfl, x, _, dx, _, rfl, J5.x, C.cl, C.nd, by decide, k2 _ _ (seq_i fun nx3 k3 => ?_)⟩
  obtain ⟨N, NO, lks, lN, eN⟩ := mkNet ok ne pw fun k => (hk k).trans decide_eq_true_iff
  have nN := NO.n
  have J6 := J5.put (fs' := putF ("days" : Str) (.ref pd) [])
  have d6 := put_lst (fs' := putF ("days" : Str) (.ref pd) []) upd_same J5.x
  rw [putF_nil] at J6 d6 ⊢
  generalize (upd _ x _ : Hp) = H6 at J6 d6 ⊢
  -- ends
  have hin : ∀ r ∈ rs, r.1 ∈ ks ∧ r.2.1 + 1 ∈ ks := fun r hr => ⟨((hk _).trans decide_eq_true_iff).mpr (marks_mem hr).1, ((hk _).trans decide_eq_true_iff).mpr (marks_mem hr).2⟩
  refine tLc_new (F := IsE) rs (netE ks) (fun R h => ⟨_, rfl, h⟩) (J6.k _ _ ha hax) (R := fun v r => ∃ t, v = .ref t ∧ H t = some (.tup (r3 r))) pr (Nat.le_of_lt (big _ (by omega))) J6.n (fun H1 H2 v b tk h => IsE.keep h tk) ?_ ?_
  · rintro v r H2 ⟨t, rfl, ht⟩ hr s2 n2 go hgo
    have ht2 := s2 _ _ (J6.k _ _ ht (ne_of ht hx (by intro z; cases z)))
    have x2 := s2 _ _ J6.x
    have d2 := s2 _ _ d6
    refine gtup3 ht2 ⟨rfl, ?_⟩
    try walk_at "rd"
    refine rfld (fun Q h => ⟨_, rfl, h⟩) x2 C.cl C.nd lk_here ⟨ty_lst (K := K) d2, idx_days d2 (hin r hr).1 ?_⟩
    refine rfld (fun Q h => ⟨_, rfl, h⟩) x2 C.cl C.nd lk_here ⟨ty_lst (K := K) d2, idx_days d2 (hin r hr).2 ?_⟩
    exact ⟨by decide, fun p hp => hgo _ _ (Same.upd hp) n2.upd ⟨p, rfl, upd_same⟩⟩
  · intro pe H7 us hpe s7 n7 e7 p7
    have J7 := J6.same s7 n7
    refine ⟨_, rfl, x, _, dx, _, rfl, J7.x, C.cl, C.ne, by show 1 < 1000; decide, k3 _ _ (seq_i fun nx4 k4 => ?_)⟩
    have J8 := J7.put (fs' := putF ("ends" : Str) (.ref pe) [("days", .ref pd)])
    have d8 := put_lst (fs' := putF ("ends" : Str) (.ref pe) [("days", .ref pd)]) (s7 _ _ d6) J7.x
    have e8 := put_lst (fs' := putF ("ends" : Str) (.ref pe) [("days", .ref pd)]) e7 J7.x
    have p8 := p7.mono fun _ _ q => q.keep (put_tk (fs' := putF ("ends" : Str) (.ref pe) [("days", .ref pd)]) J7.x)
    have nde : pd ≠ pe := ne_of_none d6 hpe
    rw [pf1] at J8 d8 e8 p8 ⊢
    generalize (upd H7 x _ : Hp) = H8 at J8 d8 e8 p8 ⊢
    -- taken
    refine tLc_list rs (fun _ => some (.bl false)) (fun R h => ⟨_, rfl, h⟩) (J8.k _ _ ha hax) pr (Nat.le_of_lt (big _ (by omega))) (fun D v r acc Nx hD _ _ add _ => ?_) fun pt hpt => ?_
    · try walk_at "rd"
      exact add _ rfl
    rw [fm_const]
    have J9 := J8.new (o := .lst (List.replicate rs.length (.bl false))) hpt
    refine ⟨_, rfl, x, _, dx, _, rfl, J9.x, C.cl, C.nt, by show 2 < 1000; decide, k4 _ _ (seq_i fun nx5 k5 => ?_)⟩
    have J10 := J9.put (fs' := putF ("taken" : Str) (.ref pt) [("days", .ref pd), ("ends", .ref pe)])
    have d10 := put_lst (fs' := putF ("taken" : Str) (.ref pt) [("days", .ref pd), ("ends", .ref pe)]) (Same.upd (o := .lst (List.replicate rs.length (.bl false))) hpt _ _ d8) J9.x
    have e10 := put_lst (fs' := putF ("taken" : Str) (.ref pt) [("days", .ref pd), ("ends", .ref pe)]) (Same.upd (o := .lst (List.replicate rs.length (.bl false))) hpt _ _ e8) J9.x
    have t10 := put_lst (fs' := putF ("taken" : Str) (.ref pt) [("days", .ref pd), ("ends", .ref pe)]) upd_same J9.x
    have p10 := (p8.mono fun _ _ q => q.keep (TK.same (Same.upd (o := .lst (List.replicate rs.length (.bl false))) hpt))).mono fun _ _ q => q.keep (put_tk (fs' := putF ("taken" : Str) (.ref pt) [("days", .ref pd), ("ends", .ref pe)]) J9.x)
    have ndt : pd ≠ pt := ne_of_none d8 hpt
    have net : pe ≠ pt := ne_of_none e8 hpt
    have hpt0 := J8.free hpt
    rw [pf2] at J10 d10 e10 t10 p10 ⊢
    generalize (upd (upd H8 pt _) x _ : Hp) = H10 at J10 d10 e10 t10 p10 ⊢
    -- idle
    refine tLc_via ?_
    refine rfld (fun Q h => ⟨_, rfl, h⟩) J10.x C.cl C.nd lk_here ⟨1, rfl, pd, _, rfl, SqL.of d10, fun pc hpc => ?_⟩
    have J11 := J10.new (o := .lst (cutV (ks.map V.int) (some 1) none)) hpc
    have lcut : (cutV (ks.map V.int) (some 1) none).length = N.L := by
      cases ks with
      | nil => simp at lks
      | cons k0 kr =>
        rw [List.map_cons, cut1, List.length_map]
        rw [List.length_cons] at lks
        omega
    refine tLc_list (R := fun v y => v = y) (cutV (ks.map V.int) (some 1) none) (fun _ => some (.int 0)) (fun R h => h) upd_same ?_ (by rw [lcut, sizeLine_eq]; omega) (fun D v r acc Nx hD _ _ add _ => ?_) fun pi hpi => ?_
    · generalize cutV (ks.map V.int) (some 1) none = l
      induction l with
      | nil => exact .nil
      | cons y r ih => exact .cons rfl ih
    · try walk_at "rd"
      exact add _ rfl
    rw [fm_const, lcut]
    have sA := Same.upd (o := .lst (cutV (ks.map V.int) (some 1) none)) hpc
    have sB := Same.upd2 (o := .lst (List.replicate N.L (.int 0))) sA hpi
    have J12 := J11.new (o := .lst (List.replicate N.L (.int 0))) hpi
    refine ⟨_, rfl, x, _, dx, _, rfl, J12.x, C.cl, C.ni, by show 3 < 1000; decide, k5 _ _ (seq_i fun nx6 k6 => ?_)⟩
    have J13 := J12.put (fs' := putF ("idle" : Str) (.ref pi) [("days", .ref pd), ("ends", .ref pe), ("taken", .ref pt)])
    have d13 := put_lst (fs' := putF ("idle" : Str) (.ref pi) [("days", .ref pd), ("ends", .ref pe), ("taken", .ref pt)]) (sB _ _ d10) J12.x
    have e13 := put_lst (fs' := putF ("idle" : Str) (.ref pi) [("days", .ref pd), ("ends", .ref pe), ("taken", .ref pt)]) (sB _ _ e10) J12.x
    have t13 := put_lst (fs' := putF ("idle" : Str) (.ref pi) [("days", .ref pd), ("ends", .ref pe), ("taken", .ref pt)]) (sB _ _ t10) J12.x
    have i13 := put_lst (fs' := putF ("idle" : Str) (.ref pi) [("days", .ref pd), ("ends", .ref pe), ("taken", .ref pt)]) upd_same J12.x
    have p13 := (p10.mono fun _ _ q => q.keep (TK.same sB)).mono fun _ _ q => q.keep (put_tk (fs' := putF ("idle" : Str) (.ref pi) [("days", .ref pd), ("ends", .ref pe), ("taken", .ref pt)]) J12.x)
    have ndi : pd ≠ pi := ne_of_none (sA _ _ d10) hpi
    have nei : pe ≠ pi := ne_of_none (sA _ _ e10) hpi
    have nti : pt ≠ pi := ne_of_none (sA _ _ t10) hpi
    have hpi0 := J11.free hpi
    rw [pf3] at J13 d13 e13 t13 i13 p13 ⊢
    generalize (upd (upd (upd H10 pc _) pi _) x _ : Hp) = H13 at J13 d13 e13 t13 i13 p13 ⊢
    have W13 : WA K H13 N x pd pe pt pi ks (rs.map (netE ks)) (List.replicate N.n false) (List.replicate N.L 0) := by
      refine ⟨⟨dx, J13.x⟩, d13, ⟨us, e13, p13⟩, ?_, ?_, ndi.symm, nti, lks, List.length_replicate, List.length_replicate, by rw [List.length_map, nN], eN, by omega, by omega⟩
      · rw [t13, List.map_replicate, nN]
      · show _ = _
        rw [i13, List.map_replicate]
    have mn : ((min m.toNat rs.length : Nat) : Int) = if (rs.length : Int) < m then (rs.length : Int) else m := by
      split <;> omega
    -- rooms led, one by one
    refine tFor_rng1 (n := min m.toNat rs.length) (fun R h => ?_) (by omega) (fun i σ H' => ∃ x4, σ = [some (.ref x), some (.ref a), some (.int m), some (.ref p3), x4, none, none, none, none, none, none] ∧ ∃ tk id, JI H H' x (He.ga K "Ways") dx (waysF pd pe pt pi) ∧ WA K H' N x pd pe pt pi ks (rs.map (netE ks)) tk id ∧ N.Flow (idF id) (tkF tk) i ∧ ∃ φ, N.Feas φ (idF id) (tkF tk)) ⟨none, rfl, _, _, J13, W13, ?_, ?_⟩ ?_ ?_
    · try walk_at "rd"
      refine rlen_lst (J13.k _ _ ha hax) pr.length ⟨m, _, rfl, ?_⟩
      rw [← mn]
      exact h
    · rw [idF_zero, tkF_false]
      exact Net.flow_start
    · rw [idF_zero, tkF_false]
      exact Net.feas_start
    · rintro i σ H' nxL kL hi ⟨x4, rfl, tk, id, J, W, fl, fe⟩
      try walk_at "rd"
      refine rmeth0 (fun Q h => ⟨_, rfl, h⟩) J.x (wf_no _ _ _ _) ⟨x, N, pd, pe, pt, pi, ks, _, tk, id, i, rfl, W, J.n, fl, fe, fun tk' id' l1 l2 fl' fe' => ?_⟩
      refine kL _ _ ⟨_, rfl, tk', id', ?_, W.led ndt.symm net.symm nei.symm l1 l2, by rw [Int.natCast_succ]; exact fl', fe'⟩
      refine (J.set hpt0 W.taken).set hpi0 (l := id.map V.int) ?_
      rw [upd_ne nti.symm]
      exact W.idle
    · rintro σ H' ⟨x4, rfl, tk, id, J, W, fl, ⟨φ, fe⟩⟩
      refine k6 _ _ (if_i fun th el h1 h2 => ?_)
      try walk_at "rd"
      refine rlen_lst (J.k _ _ ha hax) pr.length ?_
      try walk_at "rd"
      by_cases c : (rs.length : Int) < m
      · rw [if_pos c] at mn ⊢
        rw [mn, ← nN] at fl
        refine h1 _ ?_
        refine tLc_list id (fun i => some (.int (i + m - rs.length))) (fun R h => rfld (fun Q h => ⟨_, rfl, h⟩) J.x C.cl C.ni (wf_idle pd pe pt pi) h) W.idle (ints_paired id) (by rw [W.lid, sizeLine_eq]; omega) (fun D v i acc Nx hD e _ add _ => ?_) fun p5 hp5 => ?_
        · subst e
          try walk_at "rd"
          refine rlen_lst (Same.upd hD _ _ (J.k _ _ ha hax)) pr.length ?_
          try walk_at "rd"
          exact add _ rfl
        rw [fm_map (fun i => i + m - rs.length) V.int]
        have s5 := Same.upd (o := .lst ((id.map fun i => i + m - rs.length).map V.int)) hp5
        have J5 := J.new (o := .lst ((id.map fun i => i + m - rs.length).map V.int)) hp5
        refine ⟨_, rfl, x, _, dx, _, rfl, J5.x, C.cl, C.ni, by show 4 < 1000; decide, ?_⟩
        have J6 := J5.put (fs' := putF ("idle" : Str) (.ref p5) (waysF pd pe pt pi))
        have i6 := put_lst (fs' := putF ("idle" : Str) (.ref p5) (waysF pd pe pt pi)) upd_same J5.x
        have d6 := put_lst (fs' := putF ("idle" : Str) (.ref p5) (waysF pd pe pt pi)) (s5 _ _ W.days) J5.x
        have t6 := put_lst (fs' := putF ("idle" : Str) (.ref p5) (waysF pd pe pt pi)) (s5 _ _ W.taken) J5.x
        obtain ⟨vE, hE, pE⟩ := W.ends
        have e6 := put_lst (fs' := putF ("idle" : Str) (.ref p5) (waysF pd pe pt pi)) (s5 _ _ hE) J5.x
        have p6 := (pE.mono fun _ _ q => q.keep (TK.same s5)).mono fun _ _ q => q.keep (put_tk (fs' := putF ("idle" : Str) (.ref p5) (waysF pd pe pt pi)) J5.x)
        rw [pf4] at J6 i6 d6 t6 e6 p6 ⊢
        have W6 : WA K _ N x pd pe pt p5 ks (rs.map (netE ks)) tk (id.map fun i => i + m - rs.length) := ⟨⟨dx, J6.x⟩, d6, ⟨vE, e6, p6⟩, t6, i6, (ne_of_none W.days hp5).symm, ne_of_none W.taken hp5, W.lds, by rw [List.length_map, W.lid], W.ltk, W.les, W.es, W.zn, W.zL⟩
        refine fin.newX n hx J6 fun nT => q _ N pd pe pt p5 ks _ tk _ (fun b o e ne => ?_) nT (W6.move (ltH_old hx) (fun b xs h => ltH_lst h) (ltH_tk _ _)) NO ?_ ⟨_, Net.feas_more fl fe _⟩
        · rw [ltH_old e]
          exact J6.k b o e ne
        · have f2 := Net.flow_more (m := m - rs.length) (by omega) fl
          rw [show ((N.n : Int) + (m - rs.length)) = m by omega] at f2
          exact flow_congr (fun j hj => by rw [idF_map (by rw [W.lid]; exact hj)]; omega) f2
      · rw [if_neg c] at mn ⊢
        rw [mn] at fl
        refine h2 _ (fin.newX n hx J fun nT => q _ N pd pe pt pi ks _ tk id (fun b o e ne => ?_) nT (W.move (ltH_old hx) (fun b xs h => ltH_lst h) (ltH_tk _ _)) NO fl ⟨φ, fe⟩)
        rw [ltH_old e]
        exact J.k b o e ne
end
end Spn

namespace Spn
open PySem PySem.Spec PyProof.Rows L2
section
variable {K : PySem.W.Frag} {w : World} {vs : List V} {H : Hp} {Q Q0 : VK} {E : XK}
theorem tollsOf_len (L : Nat) (ds φ : Nat → Int) : (tollsOf L ds φ).length ≤ L := by
  unfold tollsOf
  rw [List.length_map]
  exact Nat.le_trans (List.length_filter_le _ _) (by rw [List.length_range]; exact Nat.le_refl _)
theorem pure_best_of (C : WaysC K) (h : sp_best_of K w vs H Q E) (fin : Fin H Q Q0) : t_best_of K w (endS Q0) (start ["requests", "rooms", "ways"] vs) H := by
  obtain ⟨a, m, rs, rfl, hr, ok, zn, m0, n, q⟩ := h
  obtain ⟨rvs, ha, pr⟩ := id hr
  refine seq_i fun nx k => if_i fun th el h1 h2 => ?_
  try walk_at "rd"
  refine rlen_lst ha pr.length (req_int ⟨_, rfl, ?_⟩)
  by_cases c : rs = []
  · subst c
    refine iteT (h1 _ ?_)
    try walk_at "rd"
    refine ⟨Nat.zero_le _, fun p hp => ⟨Nat.zero_le _, fun r hr' => ⟨by decide, fun t ht => ?_⟩⟩⟩
    have s1 := Same.upd (o := .lst []) hp
    have s2 := Same.upd2 (o := .lst []) s1 hr'
    have s3 := Same.upd2 (o := .tup [.ref p, .ref r]) s2 ht
    have nr : p ≠ r := ne_of_none upd_same hr'
    have s4 := Same.upd (o := .tup [.ref p, .ref r]) ht
    have er : (upd (upd (upd H p (.lst [])) r (.lst [])) t (.tup [.ref p, .ref r])) r = some (.lst []) := s4 _ _ upd_same
    have ep : (upd (upd (upd H p (.lst [])) r (.lst [])) t (.tup [.ref p, .ref r])) p = some (.lst []) := s4 _ _ (by rw [upd_ne nr, upd_same])
    exact fin.new n s3 (q _ t p r [] [] (ltH_same s3) (ltH_noT n s3) (s2.free ht) hp (s1.free hr') nr (ltH_tup upd_same) (ltH_lst ep) ⟨[], ltH_lst er, .nil⟩ (best_nil m) (Nat.zero_le _))
  · have l0 : ¬ ((rs.length : Int) = 0) := fun z => c (List.length_eq_zero_iff.mp (by omega))
    rw [decide_eq_false l0]
    refine iteF (h2 _ (k _ _ (seq_i fun nx2 k2 => ?_)))
    refine ⟨_, rfl, _, rfl, fun x dx hx hd nx0 => ?_⟩
    have sA := Same.upd (o := .own x) hd
    have hxA : (upd H dx (.own x)) x = none := by rw [upd_ne nx0.symm]; exact hx
    have sB := Same.upd2 (o := .ins (He.ga K "Ways") dx []) sA hxA
    refine ⟨x, dx, a, m, rs, rfl, upd_same, hr.same sB, ok, c, zn, m0, n.upd.upd, fun H' N ld le lt li ds es tk id keep n' W NO fl ⟨φ, fe⟩ => ⟨rfl, ?_⟩⟩
    obtain ⟨dx2, hx2⟩ := W.ins
    have sC : Same H H' := fun b o e => keep b o (sB b o e) (ne_of_none e hx)
    refine k2 _ _ ?_
    try walk_at "rd"
    refine rmeth0 (fun Q h => ⟨_, rfl, h⟩) hx2 (wf_no _ _ _ _) ⟨x, N, ld, le, lt, li, ds, es, tk, id, rfl, W, n', fun p hp => ?_⟩
    have sp := Same.upd (o := .lst ((takenOf N.n (tkF tk)).map V.int)) hp
    have W2 : WA K (upd H' p (.lst ((takenOf N.n (tkF tk)).map V.int))) N x ld le lt li ds es tk id := W.move (upd_ne (ne_of_none hx2 hp)) (fun b xs h => sp _ _ h) (TK.same sp)
    refine rmeth0 (fun Q h => ⟨_, rfl, h⟩) (sp _ _ hx2) (wf_no _ _ _ _) ⟨x, N, ld, le, lt, li, ds, es, tk, id, rfl, W2, n'.upd, ⟨φ, fe⟩, fun H3 r ψ s3 n3 hr3 hτ fe' => ⟨by decide, fun t ht => ?_⟩⟩
    have s4 := Same.upd (o := .tup [.ref p, .ref r]) ht
    have sp0 : Same H (upd H' p (.lst ((takenOf N.n (tkF tk)).map V.int))) := sC.trans sp
    have s5 : Same H H3 := sp0.trans s3
    have s6 : Same H (upd H3 t (.tup [.ref p, .ref r])) := s5.trans s4
    have npr : p ≠ r := ne_of_none upd_same hr3
    refine fin.new n s6 (q _ t p r _ _ (ltH_same s6) (ltH_noT n s6) (s5.free ht) (sC.free hp) (sp0.free hr3) npr (ltH_tup upd_same) (ltH_lst (s4 _ _ (s3 _ _ upd_same))) ?_ (cert NO fl fe') (Nat.le_trans (tollsOf_len _ _ _) W.zL))
    obtain ⟨us, eu, pu⟩ := hτ
    exact ⟨us, ltH_lst (s4 _ _ eu), (pu.mono fun _ _ q => q.keep (TK.same s4)).mono fun _ _ q => q.keep (ltH_tk _ _)⟩
/-- what stood, new lists and tuples, and one new instance -/
def lxH (H H4 : Hp) (x dx : Addr) (o : HO) : Hp := upd (upd (ltH H H4) dx (.own x)) x o
theorem lxH_shr {H H4 : Hp} {x dx C : Addr} {fs : List (Str × V)} (n : NoT H) (s : Same H H4) (hx : H x = none) (hd : H dx = none) (ne : dx ≠ x) (ex : H4 x = some (.ins C dx fs)) (ed : H4 dx = some (.own x)) : Shr H (lxH H H4 x dx (.ins C dx fs)) H4 := by
  have S := ltH_shr n s
  refine ⟨fun b o e => ?_, fun b o e => ?_, fun a C1 dx1 fs1 e => ?_, ((S.noT.upd).upd)⟩
  · unfold lxH
    rw [upd_ne (ne_of_none e hx), upd_ne (ne_of_none e hd)]
    exact S.keep b o e
  · unfold lxH at e
    by_cases c : b = x
    · subst c; rw [upd_same] at e; rw [ex]; exact e
    · rw [upd_ne c] at e
      by_cases d : b = dx
      · subst d; rw [upd_same] at e; rw [ed]; exact e
      · rw [upd_ne d] at e
        exact S.sub b o e
  · unfold lxH at e ⊢
    by_cases c : a = x
    · subst c
      rw [upd_same] at e
      cases e
      exact .inr (by rw [upd_ne ne, upd_same])
    · rw [upd_ne c] at e
      by_cases d : a = dx
      · subst d; rw [upd_same] at e; cases e
      · rw [upd_ne d] at e
        rcases S.own a C1 dx1 fs1 e with z | z
        · exact .inl z
        · refine .inr ?_
          cases h : H dx1 with
          | some u =>
            rw [upd_ne (ne_of_none h hx), upd_ne (ne_of_none h hd)]
            exact z
          | none =>
            rcases ltH_new h z with ⟨l, y⟩ | ⟨l, y⟩ <;> cases y
theorem lxH_lst {H H4 : Hp} {x dx C b : Addr} {fs : List (Str × V)} {l : List V} (ex : H4 x = some (.ins C dx fs)) (ed : H4 dx = some (.own x)) (h : H4 b = some (.lst l)) : lxH H H4 x dx (.ins C dx fs) b = some (.lst l) := by
  unfold lxH
  rw [upd_ne (ne_of h ex (by intro z; cases z)), upd_ne (ne_of h ed (by intro z; cases z))]
  exact ltH_lst h
theorem lxH_tup {H H4 : Hp} {x dx C b : Addr} {fs : List (Str × V)} {l : List V} (ex : H4 x = some (.ins C dx fs)) (ed : H4 dx = some (.own x)) (h : H4 b = some (.tup l)) : lxH H H4 x dx (.ins C dx fs) b = some (.tup l) := by
  unfold lxH
  rw [upd_ne (ne_of h ex (by intro z; cases z)), upd_ne (ne_of h ed (by intro z; cases z))]
  exact ltH_tup h
theorem lxH_same {H H4 : Hp} {x dx : Addr} {o : HO} (s : Same H H4) (hx : H x = none) (hd : H dx = none) : Same H (lxH H H4 x dx o) := fun b u e => by
  unfold lxH
  rw [upd_ne (ne_of_none e hx), upd_ne (ne_of_none e hd)]
  exact ltH_same s b u e
theorem pure_best (h : sp_best K w vs H Q E) (fin : Fin H Q Q0) : t_best K w (endS Q0) (start ["requests", "rooms", "taken", "tolls"] vs) H := by
  obtain ⟨a, m, rs, rfl, hr, ok, zn, m0, n, q⟩ := h
  refine seq_i fun nx k => ?_
  try walk_at "rd"
  refine ⟨a, rs, rfl, hr, ok, by omega, n, k _ _ (seq_i fun nx2 k2 => ?_)⟩
  try walk_at "rd"
  refine ⟨m, 0, rfl, m0, n, k2 _ _ (seq_i fun nx3 k3 => ?_)⟩
  try walk_at "rd"
  refine ⟨a, m, rs, rfl, hr, ok, zn, m0, n, fun H1 t p r ns τ s1 n1 ht hp hr' npr et ep er hb hl => ?_⟩
  refine gtup2 et (k3 _ _ ?_)
  obtain ⟨us, eu, pu⟩ := er
  refine ⟨_, rfl, _, rfl, fun x dx hx hd nx0 => ?_⟩
  have sA := Same.upd (o := .own x) hd
  have hxA : (upd H1 dx (.own x)) x = none := by rw [upd_ne nx0.symm]; exact hx
  have sB := Same.upd2 (o := .ins (He.ga K "Best") dx []) sA hxA
  refine ⟨x, dx, p, r, _, us, rfl, upd_same, sB _ _ ep, sB _ _ eu, n1.upd.upd, fun H4 p' r' hp' hr2 npr' ex ep' er' keep n4 => ⟨rfl, ?_⟩⟩
  have ed : H4 dx = some (.own x) := keep _ _ (by rw [upd_ne nx0, upd_same]) nx0
  have s4 : Same H H4 := fun b o e => keep b o (sB b o (s1 b o e)) (ne_of_none (s1 b o e) hx)
  have k14 : TK H1 H4 := fun b xs e => keep b _ (sB b _ e) (ne_of_none e hx)
  have hx0 := s1.free hx
  have hd0 := s1.free hd
  have f1 : ∀ z, (upd (upd H1 dx (.own x)) x (.ins (He.ga K "Best") dx [])) z = none → H z = none := fun z hz => s1.free (sB.free hz)
  refine fin _ _ _ (lxH_shr n s4 hx0 hd0 nx0 ex ed) (q _ x p' r' ns τ ⟨lxH_same s4 hx0 hd0, (lxH_shr n s4 hx0 hd0 nx0 ex ed).noT, hx0, f1 _ hp', f1 _ hr2, npr', ⟨dx, upd_same⟩, lxH_lst ex ed ep', us, lxH_lst ex ed er', (pu.mono fun _ _ q => q.keep k14).mono fun _ _ q => q.keep fun b xs h => lxH_tup ex ed h⟩ hb hl)
end
end Spn

namespace Spn
open PySem PySem.Spec PyProof.Rows L2
/-! ### what the laws' own helpers do -/
/-- the script -/
def ScrAt (K : PySem.W.Frag) (H : Hp) (a : Addr) (ns : List Int) : Prop := SqL K H a (ns.map V.int)
/-- drawn requests -/
def OkL (rs : List Rq) : Prop := ∀ r ∈ rs, r.1 ≤ r.2.1 ∧ 0 ≤ r.2.2 ∧ -(10 ^ 60) < r.1 ∧ r.2.1 < 10 ^ 60 ∧ r.2.2 < 10 ^ 60
def sp__law_cell_at (K : PySem.W.Frag) (w : World) : Sp := fun vs H Q _ => ∃ a ns k, vs = [.ref a, .int k] ∧ ScrAt K H a ns ∧ 0 ≤ k ∧ NoT H ∧ ∀ z : Int, Q (.int z) H
def sp__law_draw (K : PySem.W.Frag) (w : World) : Sp := fun vs H Q _ => ∃ c k m, vs = [.int c, .int k, .int m] ∧ 0 ≤ k ∧ 0 < m ∧ NoT H ∧ ∀ z : Int, 0 ≤ z → z < m → Q (.int z) H
def sp__law_requests (K : PySem.W.Frag) (w : World) : Sp := fun vs H Q _ => ∃ a ns, vs = [.ref a] ∧ ScrAt K H a ns ∧ ns.length ≤ 63 ∧ NoT H ∧
  ∀ H' p rs, Same H H' → NoT H' → H p = none → ReqsAt H' p rs → OkL rs → rs.length ≤ 126 → Q (.ref p) H'
def sp__law_rooms (K : PySem.W.Frag) (w : World) : Sp := fun vs H Q _ => ∃ a ns k, vs = [.ref a, .int k] ∧ ScrAt K H a ns ∧ 0 ≤ k ∧ k ≤ 1000 ∧ NoT H ∧ ∀ z : Int, 0 ≤ z → z < k + 4 → Q (.int z) H
def sp__law_whole := sp_is_whole
def sp__law_chosen (K : PySem.W.Frag) (w : World) : Sp := fun vs H Q _ => ∃ a b rs ns, vs = [.ref a, .ref b] ∧ ReqsAt H a rs ∧ IntsAt H b ns ∧ ns.length ≤ 1000 ∧ NoT H ∧ Q (.bl (isChoice rs.length ns)) H
def sp__law_there := sp_for_day
def sp__law_worth := sp_worth_of
def sp__law_best := sp_is_best
end Spn

namespace Spn
open PySem PySem.Spec PyProof.Rows L2
/-! ### readings -/
/-- _law_cell_at -/
def t__law_cell_at (K : PySem.W.Frag) (w : World) : TS :=
  (tSeq (tIfS (tTest (tOp qLt (tVar 1) (tCB (qLen K) (tCons (tVar 0) tNil)))) (tRet (tOp (rIxL K) (tVar 0) (tVar 1))) tNext)
  (tRet (tC (.int 0))))

/-- _law_draw -/
def t__law_draw (K : PySem.W.Frag) (w : World) : TS :=
  (tSeq (tAsg (tTup (tCons (tC (.int 1000003)) (tCons (tC (.int 1000033)) (tCons (tC (.int 1000037)) (tCons (tC (.int 1000039)) (tCons (tC (.int 1000081)) (tCons (tC (.int 1000099)) (tCons (tC (.int 1000117)) (tCons (tC (.int 1000121)) (tCons (tC (.int 1000133)) (tCons (tC (.int 1000151)) (tCons (tC (.int 1000159)) (tCons (tC (.int 1000171)) (tCons (tC (.int 1000183)) (tCons (tC (.int 1000187)) (tCons (tC (.int 1000193)) (tCons (tC (.int 1000199)) tNil))))))))))))))))) (gName 3))
  (tRet (tOp qMod (tOp qMod (tOp qAdd (tOp qMul (tVar 0) (tC (.int 48271))) (tOp qMul (tVar 1) (tC (.int 69621)))) (tOp (rIxT K) (tVar 3) (tOp qMod (tVar 1) (tC (.int 16))))) (tVar 2))))

/-- _law_requests -/
def t__law_requests (K : PySem.W.Frag) (w : World) : TS :=
  (tSeq (tAsg (tLst tNil) (gName 1))
  (tSeq (tIfS (tTest (tOp rEq (tOp qMod (tCB (qLen K) (tCons (tVar 0) tNil)) (tC (.int 3))) (tC (.int 0)))) (tSeq (tFor (iRng3 (tCons (tC (.int 0)) (tCons (tCB (qLen K) (tCons (tVar 0) tNil)) (tCons (tC (.int 3)) tNil)))) (gName 2) (tSeq (tAsg (tOp qMul (tOp qMod (tOp qDiv (tOp (rIxL K) (tVar 0) (tVar 2)) (tC (.int 2))) (tOp qPow (tC (.int 10)) (tC (.int 40)))) (tOp qSub (tC (.int 1)) (tOp qMul (tOp qMod (tOp (rIxL K) (tVar 0) (tVar 2)) (tC (.int 2))) (tC (.int 2))))) (gName 3))
  (tDrop (tBM K "list" rAppend (tVar 1) (tCons (tTup (tCons (tVar 3) (tCons (tOp qAdd (tVar 3) (tOp qMod (tOp (rIxL K) (tVar 0) (tOp qAdd (tVar 2) (tC (.int 1)))) (tOp qPow (tC (.int 10)) (tC (.int 40))))) (tCons (tOp qMod (tOp (rIxL K) (tVar 0) (tOp qAdd (tVar 2) (tC (.int 2)))) (tOp qPow (tC (.int 10)) (tC (.int 60)))) tNil)))) tNil)))))
  (tRet (tVar 1))) tNext)
  (tSeq (tPar 4 5 (tCons (tCall (sp__law_draw K w) [] E0 (tCons (tCall (sp__law_cell_at K w) [] E0 (tCons (tVar 0) (tCons (tC (.int 0)) tNil))) (tCons (tC (.int 6)) (tCons (tC (.int 4)) tNil)))) (tCons (tOp (rIxT K) (tTup (tCons (tC (.int 1)) (tCons (tC (.int 1)) (tCons (tOp qPow (tC (.int 10)) (tC (.int 9))) (tCons (tC (.int 7)) tNil))))) (tCall (sp__law_draw K w) [] E0 (tCons (tCall (sp__law_cell_at K w) [] E0 (tCons (tVar 0) (tCons (tC (.int 1)) tNil))) (tCons (tC (.int 7)) (tCons (tC (.int 4)) tNil))))) tNil)))
  (tSeq (tPar 6 7 (tCons (tOp (rIxT K) (tTup (tCons (tC (.int 5)) (tCons (tC (.int 12)) (tCons (tC (.int 30)) (tCons (tC (.int 3)) tNil))))) (tVar 4)) (tCons (tOp (rIxT K) (tTup (tCons (tC (.int 4)) (tCons (tC (.int 50)) (tCons (tC (.int 1000000)) (tCons (tC (.int 10)) tNil))))) (tCall (sp__law_draw K w) [] E0 (tCons (tCall (sp__law_cell_at K w) [] E0 (tCons (tVar 0) (tCons (tC (.int 2)) tNil))) (tCons (tC (.int 8)) (tCons (tC (.int 4)) tNil))))) tNil)))
  (tSeq (tAsg (tIf (tTest (tOp rEq (tCall (sp__law_draw K w) [] E0 (tCons (tCall (sp__law_cell_at K w) [] E0 (tCons (tVar 0) (tCons (tC (.int 1)) tNil))) (tCons (tC (.int 9)) (tCons (tC (.int 8)) tNil)))) (tC (.int 0)))) (tC (.int 2)) (tC (.int 1))) (gName 8))
  (tSeq (tFor (iRng1 (tCons (tOp qMul (tVar 8) (tCB (qLen K) (tCons (tVar 0) tNil))) tNil)) (gName 2) (tSeq (tAsg (tOp qAdd (tOp (rIxL K) (tVar 0) (tOp qDiv (tVar 2) (tVar 8))) (tOp qMul (tC (.int 977)) (tOp qMod (tVar 2) (tVar 8)))) (gName 9))
  (tSeq (tAsg (tOp qSub (tCall (sp__law_draw K w) [] E0 (tCons (tVar 9) (tCons (tOp qAdd (tOp qMod (tVar 2) (tC (.int 5))) (tC (.int 1))) (tCons (tOp qAdd (tVar 6) (tOp qMod (tVar 2) (tC (.int 3)))) tNil)))) (tOp qDiv (tVar 6) (tC (.int 2)))) (gName 3))
  (tSeq (tAsg (tOp qAdd (tVar 3) (tCall (sp__law_draw K w) [] E0 (tCons (tVar 9) (tCons (tOp qAdd (tOp qMod (tVar 2) (tC (.int 7))) (tC (.int 2))) (tCons (tOp (rIxT K) (tTup (tCons (tC (.int 1)) (tCons (tC (.int 3)) (tCons (tC (.int 8)) (tCons (tC (.int 2)) tNil))))) (tVar 4)) tNil))))) (gName 10))
  (tDrop (tBM K "list" rAppend (tVar 1) (tCons (tTup (tCons (tOp qMul (tVar 3) (tVar 5)) (tCons (tOp qMul (tVar 10) (tVar 5)) (tCons (tCall (sp__law_draw K w) [] E0 (tCons (tVar 9) (tCons (tOp qAdd (tOp qMod (tVar 2) (tC (.int 3))) (tC (.int 9))) (tCons (tVar 7) tNil)))) tNil)))) tNil)))))))
  (tRet (tVar 1))))))))

/-- _law_rooms -/
def t__law_rooms (K : PySem.W.Frag) (w : World) : TS :=
  (tSeq (tIfS (tTest (tOp rEq (tCall (sp__law_draw K w) [] E0 (tCons (tCall (sp__law_cell_at K w) [] E0 (tCons (tVar 0) (tCons (tC (.int 3)) tNil))) (tCons (tC (.int 9)) (tCons (tC (.int 4)) tNil)))) (tC (.int 0)))) (tRet (tCall (sp__law_draw K w) [] E0 (tCons (tCall (sp__law_cell_at K w) [] E0 (tCons (tVar 0) (tCons (tC (.int 3)) tNil))) (tCons (tC (.int 6)) (tCons (tOp qAdd (tVar 1) (tC (.int 2))) tNil))))) tNext)
  (tRet (tCall (sp__law_draw K w) [] E0 (tCons (tCall (sp__law_cell_at K w) [] E0 (tCons (tVar 0) (tCons (tC (.int 3)) tNil))) (tCons (tC (.int 5)) (tCons (tC (.int 4)) tNil))))))

/-- _law_whole -/
def t__law_whole (K : PySem.W.Frag) (w : World) : TS :=
  (tRet (tAndV (tCB (rIsi K) (tCons (tVar 0) (tCons (tC (.ty "int")) tNil))) (tNotV (tCB (rIsi K) (tCons (tVar 0) (tCons (tC (.ty "bool")) tNil))))))

/-- _law_chosen -/
def t__law_chosen (K : PySem.W.Frag) (w : World) : TS :=
  (tSeq (tIfS (tNot (tB (tCB (rAll K) (tCons (tLc (iList K (tVar 1)) (gName 2) tYes (tAndV (tCall (sp__law_whole K w) [] E0 (tCons (tVar 2) tNil)) (tChain qLe qLt (tC (.int 0)) (tVar 2) (tCB (qLen K) (tCons (tVar 0) tNil)))) [2]) tNil)))) (tRet (tC (.bl false))) tNext)
  (tRet (tOp (rEqD K) (tVar 1) (tCB (rSortedSetI w) (tCons (tCB (rSetOf K w) (tCons (tVar 1) tNil)) tNil)))))

/-- _law_there -/
def t__law_there (K : PySem.W.Frag) (w : World) : TS :=
  (tRet (tLc (iList K (tVar 1)) (gName 3) (tTest (tChain qLe qLe (tOp (rIxT K) (tOp (rIxL K) (tVar 0) (tVar 3)) (tC (.int 0))) (tVar 2) (tOp (rIxT K) (tOp (rIxL K) (tVar 0) (tVar 3)) (tC (.int 1))))) (tVar 3) [3]))

/-- _law_worth -/
def t__law_worth (K : PySem.W.Frag) (w : World) : TS :=
  (tRet (tCB (rSum K) (tCons (tLc (iList K (tVar 1)) (gName 2) tYes (tOp (rIxT K) (tOp (rIxL K) (tVar 0) (tVar 2)) (tC (.int 2))) [2]) tNil)))

/-- _law_best -/
def t__law_best (K : PySem.W.Frag) (w : World) : TS :=
  (tSeq (tIfS (tNot (tB (tCall (sp__law_chosen K w) [] E0 (tCons (tVar 0) (tCons (tVar 2) tNil))))) (tRet (tC (.bl false))) tNext)
  (tSeq (tIfS (tB (tCB (rAny K) (tCons (tLc (iList K (tVar 2)) (gName 8) tYes (tShr (tOp qGt (tCB (qLen K) (tCons (tCall (sp__law_there K w) [] E0 (tCons (tVar 0) (tCons (tVar 2) (tCons (tOp (rIxT K) (tOp (rIxL K) (tVar 0) (tVar 8)) (tC (.int 0))) tNil)))) tNil)) (tVar 1))) [8]) tNil))) (tRet (tC (.bl false))) tNext)
  (tSeq (tIfS (tNot (tB (tCB (rAll K) (tCons (tLc (iList K (tVar 3)) (gTup K 2 (gCons (gName 10) (gCons (gName 11) gNil))) tYes (tAndV (tCall (sp__law_whole K w) [] E0 (tCons (tVar 10) tNil)) (tAndV (tCall (sp__law_whole K w) [] E0 (tCons (tVar 11) tNil)) (tOp qGe (tVar 11) (tC (.int 0))))) [10, 11]) tNil)))) (tRet (tC (.bl false))) tNext)
  (tSeq (tIfS (tB (tCB (rAny K) (tCons (tLc (iRng1 (tCons (tOp qSub (tCB (qLen K) (tCons (tVar 3) tNil)) (tC (.int 1))) tNil)) (gName 9) tYes (tOp qGe (tOp (rIxT K) (tOp (rIxL K) (tVar 3) (tVar 9)) (tC (.int 0))) (tOp (rIxT K) (tOp (rIxL K) (tVar 3) (tOp qAdd (tVar 9) (tC (.int 1)))) (tC (.int 0)))) [9]) tNil))) (tRet (tC (.bl false))) tNext)
  (tSeq (tAsg (tOp qMul (tVar 1) (tCB (rSum K) (tCons (tLc (iList K (tVar 3)) (gTup K 2 (gCons (gName 10) (gCons (gName 11) gNil))) tYes (tVar 11) [10, 11]) tNil))) (gName 4))
  (tSeq (tFor (iList K (tVar 0)) (gTup K 3 (gCons (gName 5) (gCons (gName 6) (gCons (gName 7) gNil)))) (tAsg (tOp qAdd (tVar 4) (tCB qMax2 (tCons (tC (.int 0)) (tCons (tOp qSub (tVar 7) (tCB (rSum K) (tCons (tLc (iList K (tVar 3)) (gTup K 2 (gCons (gName 10) (gCons (gName 11) gNil))) (tTest (tChain qLe qLe (tVar 5) (tVar 10) (tVar 6))) (tVar 11) [10, 11]) tNil))) tNil)))) (gName 4)))
  (tRet (tOp rEq (tCall (sp__law_worth K w) [] E0 (tCons (tVar 0) (tCons (tVar 2) tNil))) (tVar 4)))))))))

end Spn

namespace Spn
open PySem PySem.Spec PyProof.Rows L2
/-! ### lists as data -/
def dI (ns : List Int) : PyData := .list (ns.map .int)
def dR (rs : List Rq) : PyData := .list (rs.map fun r => .tuple [.int r.1, .int r.2.1, .int r.2.2])
theorem lay_all {α : Type} (f : α → PyData) (h : ∀ a, (f a).canLay0 = true) : ∀ xs : List α, PyData.canLayAll0 (xs.map f) = true
  | [] => rfl
  | x :: xs => by
    rw [List.map_cons, PyData.canLayAll0, h x, lay_all f h xs]
    rfl
theorem dep_all {α : Type} (f : α → PyData) (k : Nat) (h : ∀ a, (f a).depth ≤ k) : ∀ xs : List α, PyData.depthAll (xs.map f) ≤ k
  | [] => Nat.zero_le _
  | x :: xs => by
    rw [List.map_cons, PyData.depthAll]
    exact Nat.max_le.mpr ⟨h x, dep_all f k h xs⟩
theorem sh_list {α : Type} (f : α → PyData) (h : ∀ a, (f a).canLay0 = true) (h2 : ∀ a, (f a).depth ≤ 60) (xs : List α) : SeqAt.shaped (.list (xs.map f)) = true := by
  unfold SeqAt.shaped
  rw [Bool.and_eq_true, decide_eq_true_eq]
  refine ⟨lay_all f h xs, ?_⟩
  show PyData.depthAll (xs.map f) + 1 ≤ 64
  have := dep_all f 60 h2 xs
  omega
theorem sh_I (ns : List Int) : SeqAt.shaped (dI ns) = true := sh_list _ (fun _ => rfl) (fun _ => Nat.zero_le _) ns
theorem sh_R (rs : List Rq) : SeqAt.shaped (dR rs) = true := sh_list _ (fun _ => rfl) (fun _ => by simp [PyData.depth, PyData.depthAll]) rs
theorem eq_I (ns ms : List Int) : PyData.eqv (dI ns) (dI ms) = decide (ns = ms) := PySem.W.Datum.eqv (α := List Int) ns ms
theorem eq_R (rs ss : List Rq) : PyData.eqv (dR rs) (dR ss) = decide (rs = ss) := by
  have e : ∀ l : List Rq, dR l = PySem.W.Datum.toD (l.map fun r => (⟨[r.1, r.2.1, r.2.2]⟩ : PySem.W.Tup Int)) := fun l => by
    show PyData.list _ = PyData.list _
    rw [List.map_map]
    rfl
  rw [e, e, PySem.W.Datum.eqv]
  refine decide_eq_decide.mpr ⟨fun h => ?_, fun h => by rw [h]⟩
  refine (List.map_inj_right fun r s z => ?_).mp h
  have z := congrArg PySem.W.Tup.items z
  simp only [List.cons.injEq, and_true] at z
  exact Prod.ext z.1 (Prod.ext z.2.1 z.2.2)
section
variable {K : PySem.W.Frag} {w : World} {vs : List V} {H : Hp} {Q Q0 : VK} {E : XK}
theorem dpAll_ints (H : Hp) : ∀ ns : List Int, DpAll K H (ns.map V.int) (ns.map PyData.int)
  | [] => .nil
  | i :: r => .cons (.int i) (dpAll_ints H r)
theorem dp_I {a : Addr} {ns : List Int} (h : IntsAt H a ns) : Dp K H (.ref a) (dI ns) := .lst (SqL.of h) (dpAll_ints H ns)
theorem dp_R1 {v : V} {r : Rq} (h : IsR H v r) : Dp K H v (.tuple [.int r.1, .int r.2.1, .int r.2.2]) := by
  obtain ⟨t, rfl, h⟩ := h
  exact .tup (SqT.of h) (.cons (.int _) (.cons (.int _) (.cons (.int _) .nil)))
theorem dpAll_R : ∀ {vs : List V} {rs : List Rq}, Paired (IsR H) vs rs → DpAll K H vs (rs.map fun r => .tuple [.int r.1, .int r.2.1, .int r.2.2])
  | _, _, .nil => .nil
  | _, _, .cons r t => .cons (dp_R1 r) (dpAll_R t)
theorem dp_R {a : Addr} {rs : List Rq} (h : ReqsAt H a rs) : Dp K H (.ref a) (dR rs) := by
  obtain ⟨vs, e, p⟩ := h
  exact .lst (SqL.of e) (dpAll_R p)
theorem reqD_I {a b : Addr} {ns ms : List Int} {Q : VK} (h1 : IntsAt H a ns) (h2 : IntsAt H b ms) (q : Q (.bl (decide (ns = ms))) H) : rEqD K (.ref a) (.ref b) H Q := ⟨_, _, dp_I h1, dp_I h2, sh_I _, sh_I _, by rw [eq_I]; exact q⟩
theorem reqD_R {a b : Addr} {ns ms : List Rq} {Q : VK} (h1 : ReqsAt H a ns) (h2 : ReqsAt H b ms) (q : Q (.bl (decide (ns = ms))) H) : rEqD K (.ref a) (.ref b) H Q := ⟨_, _, dp_R h1, dp_R h2, sh_R _, sh_R _, by rw [eq_R]; exact q⟩
theorem rneD_I {a b : Addr} {ns ms : List Int} {Q : VK} (h1 : IntsAt H a ns) (h2 : IntsAt H b ms) (q : Q (.bl (!decide (ns = ms))) H) : rNeD K (.ref a) (.ref b) H Q := ⟨_, _, dp_I h1, dp_I h2, sh_I _, sh_I _, by rw [eq_I]; exact q⟩
theorem rneD_R {a b : Addr} {ns ms : List Rq} {Q : VK} (h1 : ReqsAt H a ns) (h2 : ReqsAt H b ms) (q : Q (.bl (!decide (ns = ms))) H) : rNeD K (.ref a) (.ref b) H Q := ⟨_, _, dp_R h1, dp_R h2, sh_R _, sh_R _, by rw [eq_R]; exact q⟩
/-! ### the law's helpers -/
theorem ScrAt.same {H H' : Hp} {a : Addr} {ns : List Int} (h : ScrAt K H a ns) (s : Same H H') : ScrAt K H' a ns := s.seq h
theorem rix_scr {a : Addr} {ns : List Int} {z : Int} {Q : VK} (h : ScrAt K H a ns) (h0 : 0 ≤ z) (h1 : z < ns.length) (q : ∀ i : Int, Q (.int i) H) : rIxL K (.ref a) (.int z) H Q := by
  have hl : z.toNat < ns.length := by omega
  exact ⟨_, _, _, _, rfl, rfl, h, at_int h0 (by rw [List.getElem?_map, List.getElem?_eq_getElem hl]; rfl), q ns[z.toNat]⟩
theorem rlen_scr {a : Addr} {ns : List Int} {Q : VK} (h : ScrAt K H a ns) (q : Q (.int ns.length) H) : qLen K [.ref a] H Q := ⟨_, _, rfl, .inl h, by rw [List.length_map]; exact q⟩
theorem pure__law_cell_at (h : sp__law_cell_at K w vs H Q E) (fin : Fin H Q Q0) : t__law_cell_at K w (endS Q0) (start ["_law_script", "_law_k"] vs) H := by
  obtain ⟨a, ns, k, rfl, hs, k0, n, q⟩ := h
  refine seq_i fun nx kk => if_i fun th el h1 h2 => ?_
  try walk_at "rd"
  refine rlen_scr hs ?_
  try walk_at "rd"
  by_cases c : k < ns.length
  · rw [if_pos c]
    refine h1 _ ?_
    try walk_at "rd"
    exact rix_scr hs k0 c fun i => fin.same n (Same.refl H) (q i)
  · rw [if_neg c]
    refine h2 _ (kk _ _ ?_)
    try walk_at "rd"
    exact fin.same n (Same.refl H) (q 0)
def primes : List Int := [1000003, 1000033, 1000037, 1000039, 1000081, 1000099, 1000117, 1000121, 1000133, 1000151, 1000159, 1000171, 1000183, 1000187, 1000193, 1000199]
theorem primes_pos : ∀ i : _root_.Fin 16, 0 < idF primes i := by decide +kernel
theorem pure__law_draw (h : sp__law_draw K w vs H Q E) (fin : Fin H Q Q0) : t__law_draw K w (endS Q0) (start ["_law_cell", "_law_k", "_law_many", "_law_primes"] vs) H := by
  obtain ⟨c, k, m, rfl, k0, m0, n, q⟩ := h
  refine seq_i fun nx kk => ?_
  try walk_at "rd"
  refine ⟨by decide, fun t ht => kk _ _ ?_⟩
  have s := Same.upd (o := .tup [V.int 1000003, V.int 1000033, V.int 1000037, V.int 1000039, V.int 1000081, V.int 1000099, V.int 1000117, V.int 1000121, V.int 1000133, V.int 1000151, V.int 1000159, V.int 1000171, V.int 1000183, V.int 1000187, V.int 1000193, V.int 1000199]) ht
  try walk_at "rd"
  have b0 := Int.emod_nonneg k (by decide : (16 : Int) ≠ 0)
  have b1 := Int.emod_lt_of_pos k (by decide : (0 : Int) < 16)
  have b2 : (k % 16).toNat < 16 := by omega
  refine ⟨.inr (by decide), .inr (by decide), by decide, rix_tup upd_same b0 (idF_get (id := primes) b2) ⟨_, rfl, primes_pos ⟨_, b2⟩, m0, fin.same n s (q _ (Int.emod_nonneg _ (by omega)) (Int.emod_lt_of_pos _ m0))⟩⟩
/-- a draw -/
theorem rdraw {ta : TE} {c k m : Int} {σ : L2.St} {Q : VK} (h : ∀ Q : VK, Q (.int c) H → ta σ H Q) (n : NoT H) (k0 : 0 ≤ k) (m0 : 0 < m) (q : ∀ z : Int, 0 ≤ z → z < m → Q (.int z) H) : ta σ H fun x H1 => sp__law_draw K w [x, .int k, .int m] H1 Q E0 := h _ ⟨c, k, m, rfl, k0, m0, n, q⟩
theorem pure__law_rooms (h : sp__law_rooms K w vs H Q E) (fin : Fin H Q Q0) : t__law_rooms K w (endS Q0) (start ["_law_script", "_law_many"] vs) H := by
  obtain ⟨a, ns, k, rfl, hs, k0, k1, n, q⟩ := h
  refine seq_i fun nx kk => if_i fun th el h1 h2 => ?_
  try walk_at "rd"
  refine ⟨a, ns, 3, rfl, hs, by decide, n, fun c => ⟨c, 9, 4, rfl, by decide, by decide, n, fun z z0 z1 => req_int ⟨_, rfl, ?_⟩⟩⟩
  by_cases e : z = 0
  · rw [decide_eq_true e]
    refine iteT (h1 _ ?_)
    try walk_at "rd"
    exact ⟨a, ns, 3, rfl, hs, by decide, n, fun c => ⟨c, 6, k + 2, rfl, by decide, by omega, n, fun z z0 z1 => fin.same n (Same.refl H) (q z z0 (by omega))⟩⟩
  · rw [decide_eq_false e]
    refine iteF (h2 _ (kk _ _ ?_))
    try walk_at "rd"
    exact ⟨a, ns, 3, rfl, hs, by decide, n, fun c => ⟨c, 5, 4, rfl, by decide, by decide, n, fun z z0 z1 => fin.same n (Same.refl H) (q z z0 (by omega))⟩⟩
theorem pure__law_whole (h : sp__law_whole K w vs H Q E) (fin : Fin H Q Q0) : t__law_whole K w (endS Q0) (start ["_law_number"] vs) H := pure_is_whole h fin
theorem pure__law_there (h : sp__law_there K w vs H Q E) (fin : Fin H Q Q0) : t__law_there K w (endS Q0) (start ["_law_requests_here", "_law_some", "_law_day", "_law_at"] vs) H := pure_for_day h fin
theorem pure__law_worth (h : sp__law_worth K w vs H Q E) (fin : Fin H Q Q0) : t__law_worth K w (endS Q0) (start ["_law_requests_here", "_law_some", "_law_at"] vs) H := pure_worth_of h fin
end
end Spn

namespace Spn
open PySem PySem.Spec PyProof.Rows L2
section
variable {K : PySem.W.Frag} {w : World} {vs : List V} {H : Hp} {Q Q0 : VK} {E : XK}
theorem pure__law_chosen (h : sp__law_chosen K w vs H Q E) (fin : Fin H Q Q0) : t__law_chosen K w (endS Q0) (start ["_law_requests_here", "_law_some", "_law_at"] vs) H := by
  obtain ⟨a, b, rs, ns, rfl, hr, hb, hz, n, q⟩ := h
  obtain ⟨rvs, ha, pr⟩ := id hr
  refine seq_i fun nx k => if_i fun th el h1 h2 => ?_
  try walk_at "rd"
  refine tLc_list ns (fun i => some (.bl (within rs.length i))) (fun R h => ⟨_, rfl, h⟩) hb (ints_paired ns) (le1000 hz) ?_ ?_
  · rintro D _ i acc Nx hD rfl hi add skip
    try walk_at "rd"
    refine ⟨_, _, rfl, IsWh.int, n.upd, ?_⟩
    try walk_at "rd"
    unfold within at add
    by_cases c : 0 ≤ i
    · rw [if_pos c]
      refine rlen_lst (Same.upd hD _ _ ha) pr.length ?_
      try walk_at "rd"
      exact add _ (by rw [decide_eq_true c, Bool.true_and])
    · rw [if_neg c]
      exact add _ (by rw [decide_eq_false c, Bool.false_and])
  · intro D hD
    have s := Same.upd (o := .lst (ns.filterMap fun i => some (V.bl (within rs.length i)))) hD
    refine all_new (bs := ns.map (within rs.length)) (fm_map _ V.bl ns) ⟨_, rfl, ?_⟩
    rw [List.all_map, show (id ∘ within rs.length) = within rs.length from rfl]
    cases c : ns.all (within rs.length) with
    | false =>
      refine iteT (h1 _ ?_)
      try walk_at "rd"
      rw [not_chosen c] at q
      exact fin.same n s q
    | true =>
      refine iteF (h2 _ (k _ _ ?_))
      try walk_at "rd"
      refine ⟨b, ns, rfl, SqL.of (s _ _ hb), by omega, fun p cc hp => ⟨p, _, cc, rfl, upd_same, fun ks d pw hk hd => ?_⟩⟩
      have s1 := Same.upd2 (o := SetO w p (fun j => decide (j ∈ ns)) cc) s hp
      have s2 := Same.upd2 (o := .lst (ks.map V.int)) s1 hd
      refine reqD_I (s2 _ _ hb) upd_same (fin.same n s2 ?_)
      rw [chosen_eq (within_all c) pw fun z => (hk z).trans decide_eq_true_iff]
      exact q
theorem rising_any : ∀ τ : List (Int × Int), ((List.range (τ.length - 1)).map fun k => decide ((τ.getD (k + 1) (0, 0)).1 ≤ (τ.getD k (0, 0)).1)).any id = !risingT τ := fun τ => by
  rw [← all_rising τ, List.any_map, List.all_map, List.not_all_eq_any_not]
  refine congrArg (fun f => List.any (List.range (τ.length - 1)) f) (funext fun k => ?_)
  show decide _ = !decide _
  rw [← decide_not]
  simp only [Int.not_lt]
theorem tLc_rngz {z : Int} {n : Nat} {g : TG} {tt : TT} {te : TE} {vs : List Nat} {σ : L2.St} (f : Nat → Option V) {ta : TA} (ea : ∀ R : List V → Hp → Prop, R [.int z] H → ta σ H R) (hn : z.toNat = n) (hz1 : -(2 ^ 60) < z) (hz : n ≤ sizeLine)
    (turn : ∀ D i acc (Nx : Hp → Prop), H D = none → i < n → (∀ z, f i = some z → ∃ acc', (upd H D (.lst acc)) D = some (.lst acc') ∧ acc'.length < sizeLine ∧ Nx (upd (upd H D (.lst acc)) D (.lst (acc' ++ [z])))) → (f i = none → Nx (upd H D (.lst acc))) →
      g (.int (0 + i)) (wipe σ vs) (upd H D (.lst acc)) fun σ2 H2 => wipe σ2 vs = wipe σ vs ∧ tt σ2 H2 fun b H3 =>
        if b = true then te σ2 H3 fun y H4 => ∃ acc, H4 D = some (.lst acc) ∧ acc.length < sizeLine ∧ Nx (upd H4 D (.lst (acc ++ [y]))) else Nx H3)
    (fin : ∀ D, H D = none → Q (.ref D) (upd H D (.lst ((List.range n).filterMap f)))) : tLc (iRng1 ta) g tt te vs σ H Q := by
  refine ea _ ⟨z, rfl, by omega, by rw [sizeLine_eq] at hz; omega, fun D hD => ?_⟩
  rw [hn]
  exact lc_fmR f hz hD (fun i acc Nx => turn D i acc Nx hD) (fin D hD)
theorem pure__law_best (h : sp__law_best K w vs H Q E) (fin : Fin H Q Q0) : t__law_best K w (endS Q0) (start ["_law_requests_here", "_law_rooms_here", "_law_some", "_law_tolls", "_law_whole_here", "_law_first", "_law_last", "_law_price", "_law_at", "_law_k", "_law_day", "_law_much"] vs) H := by
  obtain ⟨a, m, b, c, rs, ns, τ, rfl, hr, hb, hc, hz, hzn, hzt, hm, n, q⟩ := h
  obtain ⟨rvs, ha, pr⟩ := id hr
  obtain ⟨us, eb, pt⟩ := id hc
  refine seq_i fun nx k => if_i fun th el h1 h2 => ?_
  try walk_at "rd"
  refine ⟨a, b, rs, ns, rfl, hr, hb, hzn, n, _, rfl, ?_⟩
  cases ci : isChoice rs.length ns with
  | false =>
    refine iteT (h1 _ ?_)
    try walk_at "rd"
    have e : isBest rs m ns τ = false := by
      unfold isBest
      rw [ci]
      rfl
    rw [e] at q
    exact fin.same n (Same.refl H) q
  | true =>
  have hin : InR rs.length ns := (choice_iff.mp ci).2
  refine iteF (h2 _ (k _ _ (seq_i fun nx2 k2 => if_i fun th2 el2 h3 h4 => ?_)))
  try walk_at "rd"
  refine tLc_list ns (fun i => some (.bl (!decide (((forDay rs ns (getR rs i).1).length : Int) ≤ m)))) (fun R h => ⟨_, rfl, h⟩) hb (ints_paired ns) (le1000 hzn) ?_ ?_
  · rintro D _ i acc Nx hD rfl hi add skip
    obtain ⟨i0, i1⟩ := hin i hi
    have s := Same.upd (o := .lst acc) hD
    have hr' := hr.same s
    try walk_at "rd"
    refine rix_req hr' i0 i1 fun t ht => rix_tup ht (by decide) rfl ?_
    refine ⟨a, b, _, rs, ns, rfl, hr', s _ _ hb, hin, hzn, n.upd, fun p hp => ?_⟩
    refine rlen_lst upd_same (List.length_map _) ?_
    try walk_at "rd"
    refine ⟨_, Shr.none n.upd (Same.upd hp), add _ ?_⟩
    rw [← decide_not]
    simp only [Int.not_le]
  intro D hD
  have s := Same.upd (o := .lst (ns.filterMap fun i => some (V.bl (!decide (((forDay rs ns (getR rs i).1).length : Int) ≤ m))))) hD
  refine any_new (bs := ns.map fun i => !decide (((forDay rs ns (getR rs i).1).length : Int) ≤ m)) (fm_map _ V.bl ns) ⟨_, rfl, ?_⟩
  have ef : (ns.map fun i => !decide (((forDay rs ns (getR rs i).1).length : Int) ≤ m)).any id = !fits rs m ns := by
    rw [List.any_map]
    unfold fits
    rw [List.not_all_eq_any_not]
    rfl
  rw [ef]
  cases cf : fits rs m ns with
  | false =>
    refine iteT (h3 _ ?_)
    try walk_at "rd"
    have e : isBest rs m ns τ = false := by
      unfold isBest
      rw [ci, cf]
      rfl
    rw [e] at q
    exact fin.same n s q
  | true =>
  refine iteF (h4 _ (k2 _ _ (seq_i fun nx3 k3 => if_i fun th3 el3 h5 h6 => ?_)))
  try walk_at "rd"
  refine tLc_list τ (fun t => some (.bl (decide (0 ≤ t.2)))) (fun R h => ⟨_, rfl, h⟩) (s _ _ eb) (pt.mono fun _ _ q => q.same s) (le1000 hzt) ?_ ?_
  · rintro D2 _ t acc Nx hD2 ⟨p, rfl, hp⟩ ht add skip
    refine gtup2 (Same.upd hD2 _ _ hp) ?_
    try walk_at "rd"
    refine ⟨_, _, rfl, IsWh.int, n.upd.upd, ?_⟩
    try walk_at "rd"
    refine ⟨_, _, rfl, IsWh.int, n.upd.upd, ?_⟩
    try walk_at "rd"
    exact add _ rfl
  intro D2 hD2
  have s2 := Same.upd2 (o := .lst (τ.filterMap fun t => some (.bl (decide (0 ≤ t.2))))) s hD2
  refine all_new (bs := τ.map fun t => decide (0 ≤ t.2)) (fm_map _ V.bl τ) ⟨_, rfl, ?_⟩
  have e2 : (τ.map fun t => decide (0 ≤ t.2)).all id = τ.all fun t => decide (0 ≤ t.2) := by
    rw [List.all_map]
    rfl
  rw [e2]
  cases ct : τ.all fun t => decide (0 ≤ t.2) with
  | false =>
    refine iteT (h5 _ ?_)
    try walk_at "rd"
    have e : isBest rs m ns τ = false := by
      unfold isBest areTolls
      rw [ci, cf, ct]
      rfl
    rw [e] at q
    exact fin.same n s2 q
  | true =>
  refine iteF (h6 _ (k3 _ _ (seq_i fun nx4 k4 => if_i fun th4 el4 h7 h8 => ?_)))
  try walk_at "rd"
  have tc2 := hc.same s2
  refine tLc_rngz (z := (τ.length : Int) - 1) (n := τ.length - 1) (fun i => some (.bl (decide ((τ.getD (i + 1) (0, 0)).1 ≤ (τ.getD i (0, 0)).1)))) (fun R h => ?_) (by omega) (by omega) (by rw [sizeLine_eq]; omega) ?_ ?_
  · try walk_at "rd"
    refine rlen_lst (s2 _ _ eb) pt.length ?_
    try walk_at "rd"
    exact h
  · rintro D3 i acc Nx hD3 hi add skip
    have s3 := Same.upd (o := .lst acc) hD3
    try walk_at "rd"
    refine rix_toll (tc2.same s3) (n := i) (by omega) (by omega) fun t ht => rix_tup ht (by decide) rfl ?_
    try walk_at "rd"
    refine rix_toll (tc2.same s3) (n := i + 1) (by omega) (by omega) fun t ht => rix_tup ht (by decide) rfl ?_
    try walk_at "rd"
    exact add _ rfl
  intro D3 hD3
  have s3 := Same.upd2 (o := .lst ((List.range (τ.length - 1)).filterMap fun i => some (.bl (decide ((τ.getD (i + 1) (0, 0)).1 ≤ (τ.getD i (0, 0)).1))))) s2 hD3
  refine any_new (bs := (List.range (τ.length - 1)).map fun i => decide ((τ.getD (i + 1) (0, 0)).1 ≤ (τ.getD i (0, 0)).1)) (fm_map _ V.bl _) ⟨_, rfl, ?_⟩
  rw [rising_any]
  cases cr : risingT τ with
  | false =>
    refine iteT (h7 _ ?_)
    try walk_at "rd"
    have e : isBest rs m ns τ = false := by
      unfold isBest areTolls
      rw [ci, cf, ct, cr]
      rfl
    rw [e] at q
    exact fin.same n s3 q
  | true =>
  refine iteF (h8 _ (k4 _ _ (seq_i fun nx5 k5 => ?_)))
  have eB : isBest rs m ns τ = decide (worth rs ns = bound rs m τ) := by
    unfold isBest areTolls
    rw [ci, cf, ct, cr]
    rfl
  rw [eB] at q
  try walk_at "rd"
  refine tLc_list τ (fun t => some (.int t.2)) (fun R h => ⟨_, rfl, h⟩) (s3 _ _ eb) (pt.mono fun _ _ q => q.same s3) (le1000 hzt) ?_ ?_
  · rintro D _ t acc Nx hD ⟨p, rfl, hp⟩ ht add skip
    refine gtup2 (Same.upd hD _ _ hp) ?_
    try walk_at "rd"
    exact add _ rfl
  intro D4 hD4
  have s4 := Same.upd2 (o := .lst (τ.filterMap fun t => some (.int t.2))) s3 hD4
  refine sum_new (bs := τ.map (·.2)) (fm_map _ V.int τ) ?_
  refine ⟨_, rfl, .inl hm, k5 _ _ (seq_i fun nx6 k6 => ?_)⟩
  try walk_at "rd"
  refine tFor_lst (K := K) (a := a) (xs := rvs) (fun R h => ⟨_, rfl, h⟩) (fun i σ H' => Same H H' ∧ NoT H' ∧ ∃ x1 x2 x3 x4 x5 x6 x7, σ = [some (.ref a), some (.int m), some (.ref b), some (.ref c), some (.int (m * tollSum τ + ((rs.take i).map (gainOf τ)).sum)), x1, x2, x3, x4, x5, x6, x7]) ⟨s4, n.upd.upd.upd.upd, none, none, none, none, none, none, none, ?_⟩ ?_ ?_ ?_
  · simp [tollSum]
  · rintro i σ H' ⟨s', _⟩
    exact s' _ _ ha
  · rintro i v σ H' nxL kL hi ⟨s', n', x1, x2, x3, x4, x5, x6, x7, rfl⟩
    obtain ⟨r, hr, p, rfl, hp⟩ := Paired.getR pr hi
    refine gtup3 (s' _ _ hp) ?_
    try walk_at "rd"
    refine tLc_list τ (fun t => if covers r t.1 = true then some (.int t.2) else none) (fun R h => ⟨_, rfl, h⟩) (s' _ _ eb) (pt.mono fun _ _ q => q.same s') (le1000 hzt) ?_ ?_
    · rintro D2 _ t acc Nx hD2 ⟨p2, rfl, hp2⟩ ht add skip
      refine gtup2 (Same.upd hD2 _ _ hp2) ?_
      try walk_at "rd"
      by_cases c : r.1 ≤ t.1
      · rw [if_pos c]
        by_cases c2 : t.1 ≤ r.2.1
        · rw [if_pos c2]
          exact add _ (if_pos (covers_iff.mpr ⟨c, c2⟩))
        · rw [if_neg c2]
          exact skip (if_neg fun z => c2 (covers_iff.mp z).2)
      · rw [if_neg c]
        try walk_at "rd"
        exact skip (if_neg fun z => c (covers_iff.mp z).1)
    · intro D2 hD2
      rw [tollOf_fm]
      refine sum_new (bs := (τ.filter fun t => covers r t.1).map (·.2)) rfl ?_
      try walk_at "rd"
      refine ⟨_, _, rfl, ?_⟩
      try walk_at "rd"
      refine kL _ _ ⟨Same.upd2 s' hD2, n'.upd, ?_⟩
      rw [take_snoc hr, List.map_append, List.sum_append]
      refine ⟨_, _, _, _, _, _, _, congrArg (fun z => [some (V.ref a), some (V.int m), some (V.ref b), some (V.ref c), some (V.int z), _, _, _, _, _, _, _]) ?_⟩
      simp only [List.map_cons, List.map_nil, List.sum_cons, List.sum_nil, gainOf, tollOf]
      rw [Int.max_def]
      split <;> split <;> omega
  · rintro σ H' ⟨s', n', x1, x2, x3, x4, x5, x6, x7, rfl⟩
    refine k6 _ _ ?_
    try walk_at "rd"
    rw [pr.length, List.take_length]
    exact ⟨a, b, rs, ns, rfl, hr.same s', s' _ _ hb, hin, hzn, n', req_int (fin.same n s' q)⟩
end
end Spn

namespace Spn
open PySem PySem.Spec PyProof.Rows L2
section
variable {K : PySem.W.Frag} {w : World} {vs : List V} {H : Hp} {Q Q0 : VK} {E : XK}
structure RI (H H' : Hp) (pf : Addr) (rs : List Rq) : Prop where
  s : Same H H'
  n : NoT H'
  r : ReqsAt H' pf rs
  ok : OkL rs
theorem RI.new {H H' : Hp} {pf t : Addr} {rs : List Rq} {o : HO} (I : RI H H' pf rs) (ht : H' t = none) (ho : plainO o = true := by rfl) : RI H (upd H' t o) pf rs := ⟨Same.upd2 I.s ht, I.n.upd ho, I.r.same (Same.upd ht), I.ok⟩
/-- found.append((f, l, p)) -/
theorem RI.add {H H' : Hp} {pf : Addr} {rs : List Rq} {f l p : Int} {P : Hp → Prop} (I : RI H H' pf rs) (hpf : H pf = none) (hz : rs.length < 200) (ok : f ≤ l ∧ 0 ≤ p ∧ -(10 ^ 60) < f ∧ l < 10 ^ 60 ∧ p < 10 ^ 60) (k : ∀ H3, RI H H3 pf (rs ++ [(f, l, p)]) → P H3) :
    3 ≤ sizeLine ∧ ∀ t, H' t = none → rAppend (.ref pf) [.ref t] (upd H' t (.tup [.int f, .int l, .int p])) fun _ H1 => P H1 := by
  refine ⟨by decide, fun t ht => ?_⟩
  have I2 := I.new (o := .tup [.int f, .int l, .int p]) ht
  obtain ⟨vs, e, pr⟩ := I2.r
  refine rapp (K := []) e (by rw [pr.length, sizeLine_eq]; omega) (k _ ⟨Same.upd3 I2.s hpf, I2.n.upd, ⟨_, upd_same, (pr.mono fun _ _ q => q.keep ((TK.refl _).lst e)).snoc ⟨t, rfl, ?_⟩⟩, fun r hr => ?_⟩)
  · exact ((TK.refl _).lst e) _ _ upd_same
  · rcases List.mem_append.mp hr with h | h
    · exact I.ok r h
    · rw [List.mem_singleton.mp h]
      exact ok
theorem rgc3 : ∀ m : _root_.Fin 64, Builtin.Range.small 0 (m.val : Int) 3 = true ∧ Builtin.Range.rangeSize 0 (m.val : Int) 3 = (((m.val + 2) / 3 : Nat) : Int) := by decide +kernel
theorem tFor_rng3 {n : Nat} {ta : TA} {g : TG} {tb : TS} {D : Ends} {σ : L2.St} {H : Hp} {lo hi c : Int} (ea : ∀ R : List V → Hp → Prop, R [.int lo, .int hi, .int c] H → ta σ H R) (hg : RgC lo hi c n) (Pv : Nat → L2.St → Hp → Prop) (h0 : Pv 0 σ H)
    (hs : ∀ i σ H (nx : L2.St → Hp → Prop), (∀ σ' H', Pv (i + 1) σ' H' → nx σ' H') → i < n → Pv i σ H → g (.int (lo + (i : Nat) * c)) σ H fun σ2 H2 => tb { D with nx := nx, ct := nx, bk := D.nx } σ2 H2) (hd : ∀ σ H, Pv n σ H → D.nx σ H) : tFor (iRng3 ta) g tb D σ H :=
  ea _ ⟨lo, hi, c, n, rfl, hg, for_rangeC Pv h0 (fun i σ H hi p => hs i σ H _ (fun _ _ h => h) hi p) hd⟩
/-- (x, y, z, u)[i], laid just now -/
theorem tup4_ix {t : Addr} {x y z u i : Int} {P : Int → Prop} {H' : Hp} {Q : VK} (h : H' t = some (.tup [.int x, .int y, .int z, .int u])) (h0 : 0 ≤ i) (h1 : i < 4) (hx : P x) (hy : P y) (hz : P z) (hu : P u) (q : ∀ v : Int, P v → Q (.int v) H') : rIxT K (.ref t) (.int i) H' Q := by
  have : i = 0 ∨ i = 1 ∨ i = 2 ∨ i = 3 := by omega
  rcases this with e | e | e | e <;> subst e
  · exact rix_tup h (by decide) rfl (q _ hx)
  · exact rix_tup h (by decide) rfl (q _ hy)
  · exact rix_tup h (by decide) rfl (q _ hz)
  · exact rix_tup h (by decide) rfl (q _ hu)
theorem mul_lo {f t : Int} (hf : -100 ≤ f) (h0 : 0 < t) (h1 : t ≤ 10 ^ 9) : -(10 ^ 60) < f * t := by
  have a := Int.mul_le_mul_of_nonneg_right hf (Int.le_of_lt h0)
  omega
theorem mul_hi {f t : Int} (hf : f ≤ 100) (h0 : 0 < t) (h1 : t ≤ 10 ^ 9) : f * t < 10 ^ 60 := by
  have a := Int.mul_le_mul_of_nonneg_right hf (Int.le_of_lt h0)
  omega
theorem pure__law_requests (h : sp__law_requests K w vs H Q E) (fin : Fin H Q Q0) : t__law_requests K w (endS Q0) (start ["_law_script", "_law_found", "_law_k", "_law_first", "_law_kind", "_law_times", "_law_days", "_law_most", "_law_each", "_law_cell", "_law_last"] vs) H := by
  obtain ⟨a, ns, rfl, hs, hl, n, q⟩ := h
  refine seq_i fun nx k => ?_
  try walk_at "rd"
  refine ⟨Nat.zero_le _, fun pf hpf => k _ _ (seq_i fun nx2 k2 => if_i fun th el h1 h2 => ?_)⟩
  have I0 : RI H (upd H pf (.lst [])) pf [] := ⟨Same.upd hpf, n.upd, ⟨[], upd_same, .nil⟩, fun r hr => by cases hr⟩
  have done : ∀ {H' : Hp} {rs : List Rq}, RI H H' pf rs → rs.length ≤ 126 → Q0 (.ref pf) H' := fun {H' rs} I len => by
    obtain ⟨vs, e, pr⟩ := I.r
    exact fin.new n I.s (q _ pf rs (ltH_same I.s) (ltH_noT n I.s) hpf ⟨vs, ltH_lst e, pr.mono fun _ _ q => q.keep (ltH_tk _ _)⟩ I.ok len)
  try walk_at "rd"
  refine rlen_scr (hs.same I0.s) ?_
  try walk_at "rd"
  refine ⟨by decide, req_int ⟨_, rfl, ?_⟩⟩
  by_cases c : (ns.length : Int) % 3 = 0
  · rw [decide_eq_true c]
    refine iteT (h1 _ (seq_i fun nx3 k3 => ?_))
    have g := rgc3 ⟨ns.length, by omega⟩
    refine tFor_rng3 (n := (ns.length + 2) / 3) (lo := 0) (hi := ns.length) (c := 3) (fun R h => ?_) ⟨by decide, by decide, g.1, g.2⟩ (fun i σ H' => ∃ x2 x3, σ = [some (.ref a), some (.ref pf), x2, x3, none, none, none, none, none, none, none] ∧ ∃ rs, RI H H' pf rs ∧ rs.length = i) ⟨none, none, rfl, [], I0, rfl⟩ ?_ ?_
    · try walk_at "rd"
      exact rlen_scr (hs.same I0.s) h
    · rintro i σ H' nxL kL hi ⟨x2, x3, rfl, rs, I, len⟩
      try walk_at "rd"
      refine seq_i fun nx4 k4 => ?_
      have hs' := hs.same I.s
      try walk_at "rd"
      refine rix_scr hs' (by omega) (by omega) fun x => ?_
      try walk_at "rd"
      refine ⟨⟨by decide, by decide⟩, ⟨by decide, by decide, by decide⟩, by decide, rix_scr hs' (by omega) (by omega) fun y => ⟨_, rfl, by decide, .inr ⟨by decide, by decide⟩, .inr ?_, ?_⟩⟩
      · omega
      have e40 : (10 : Int) ^ Int.toNat 40 = 10 ^ 40 := rfl
      have e60 : (10 : Int) ^ Int.toNat 60 = 10 ^ 60 := rfl
      rw [e40]
      have u0 := Int.emod_nonneg (x / 2) (by decide : (10 ^ 40 : Int) ≠ 0)
      have u1 := Int.emod_lt_of_pos (x / 2) (by decide : (0 : Int) < 10 ^ 40)
      generalize x / 2 % 10 ^ 40 = u at u0 u1 ⊢
      have fb : -(10 ^ 40) < u * (1 - y % 2 * 2) ∧ u * (1 - y % 2 * 2) < 10 ^ 40 := by
        have : y % 2 = 0 ∨ y % 2 = 1 := by omega
        rcases this with e | e <;> rw [e] <;> omega
      generalize u * (1 - y % 2 * 2) = f at fb ⊢
      refine k4 _ _ ?_
      obtain ⟨rvs, er, _⟩ := id I.r
      try walk_at "rd"
      refine ⟨ty_lst (K := K) er, rix_scr hs' (by omega) (by omega) fun y1 => ?_⟩
      try walk_at "rd"
      refine ⟨⟨by decide, by decide, by decide⟩, by decide, rix_scr hs' (by omega) (by omega) fun y2 => ?_⟩
      try walk_at "rd"
      refine ⟨⟨by decide, by decide, by decide⟩, by decide, ?_⟩
      rw [e40, e60]
      have b0 := Int.emod_nonneg y1 (by decide : (10 ^ 40 : Int) ≠ 0)
      have b1 := Int.emod_lt_of_pos y1 (by decide : (0 : Int) < 10 ^ 40)
      have c0 := Int.emod_nonneg y2 (by decide : (10 ^ 60 : Int) ≠ 0)
      have c1 := Int.emod_lt_of_pos y2 (by decide : (0 : Int) < 10 ^ 60)
      generalize y1 % 10 ^ 40 = g1 at b0 b1 ⊢
      generalize y2 % 10 ^ 60 = g2 at c0 c1 ⊢
      exact I.add hpf (by omega) ⟨by omega, by omega, by omega, by omega, by omega⟩ fun H3 I3 => kL _ _ ⟨_, _, rfl, _, I3, by rw [List.length_append, len]; rfl⟩
    · rintro σ H' ⟨x2, x3, rfl, rs, I, len⟩
      refine k3 _ _ ?_
      try walk_at "rd"
      exact done I (by omega)
  · rw [decide_eq_false c]
    refine iteF (h2 _ (k2 _ _ (seq_i fun nx3 k3 => ?_)))
    have hs0 := hs.same I0.s
    try walk_at "rd"
    refine ⟨a, ns, 0, rfl, hs0, by decide, I0.n, fun z1 => ⟨z1, 6, 4, rfl, by decide, by decide, I0.n, fun kd kd0 kd1 => ?_⟩⟩
    try walk_at "rd"
    refine ⟨⟨by decide, by decide, by decide⟩, by decide, fun t1 ht1 => ?_⟩
    have I1 := I0.new (o := .tup [.int 1, .int 1, .int (10 ^ Int.toNat 9), .int 7]) ht1
    refine ⟨a, ns, 1, rfl, hs.same I1.s, by decide, I1.n, fun z2 => ⟨z2, 7, 4, rfl, by decide, by decide, I1.n, fun d2 d20 d21 => ?_⟩⟩
    refine tup4_ix (P := fun v => 0 < v ∧ v ≤ 10 ^ 9) upd_same d20 d21 (by decide) (by decide) (by decide) (by decide) fun ti ⟨ti0, ti1⟩ => ⟨_, _, rfl, k3 _ _ (seq_i fun nx4 k4 => ?_)⟩
    try walk_at "rd"
    refine ⟨by decide, fun t2 ht2 => ?_⟩
    have I2 := I1.new (o := .tup [.int 5, .int 12, .int 30, .int 3]) ht2
    refine tup4_ix (P := fun v => 3 ≤ v ∧ v ≤ 30) upd_same kd0 kd1 (by decide) (by decide) (by decide) (by decide) fun dy ⟨dy0, dy1⟩ => ⟨by decide, fun t3 ht3 => ?_⟩
    have I3 := I2.new (o := .tup [.int 4, .int 50, .int 1000000, .int 10]) ht3
    refine ⟨a, ns, 2, rfl, hs.same I3.s, by decide, I3.n, fun z3 => ⟨z3, 8, 4, rfl, by decide, by decide, I3.n, fun d3 d30 d31 => ?_⟩⟩
    refine tup4_ix (P := fun v => 0 < v ∧ v ≤ 1000000) upd_same d30 d31 (by decide) (by decide) (by decide) (by decide) fun mo ⟨mo0, mo1⟩ => ⟨_, _, rfl, k4 _ _ (seq_i fun nx5 k5 => ?_)⟩
    -- one or two for each number
    have go : ∀ each : Int, (each = 1 ∨ each = 2) → ∀ H4, RI H H4 pf [] → nx5 [some (.ref a), some (.ref pf), none, none, some (.int kd), some (.int ti), some (.int dy), some (.int mo), some (.int each), none, none] H4 := by
      intro each he H4 I4
      refine k5 _ _ (seq_i fun nx6 k6 => ?_)
      have en : ((each.toNat * ns.length : Nat) : Int) = each * ns.length := by
        rcases he with e | e <;> rw [e] <;> simp
      have eb : each.toNat * ns.length ≤ 126 := by
        rcases he with e | e <;> rw [e] <;> simp <;> omega
      refine tFor_rng1 (n := each.toNat * ns.length) (fun R h => ?_) (by omega) (fun i σ H' => ∃ x2 x3 x9 x10, σ = [some (.ref a), some (.ref pf), x2, x3, some (.int kd), some (.int ti), some (.int dy), some (.int mo), some (.int each), x9, x10] ∧ ∃ rs, RI H H' pf rs ∧ rs.length = i) ⟨none, none, none, none, rfl, [], I4, rfl⟩ ?_ ?_
      · try walk_at "rd"
        refine rlen_scr (hs.same I4.s) ⟨_, rfl, .inl ?_, ?_⟩
        · rcases he with e | e <;> rw [e] <;> exact ⟨by decide, by decide⟩
        · rw [← en]
          exact h
      · rintro i σ H' nxL kL hi ⟨x2, x3, x9, x10, rfl, rs, I, len⟩
        have hs' := hs.same I.s
        try walk_at "rd"
        refine seq_i fun nx7 k7 => ?_
        try walk_at "rd"
        have ep : 0 < each := by omega
        have q0 : 0 ≤ (i : Int) / each := Int.ediv_nonneg (by omega) (by omega)
        have q1 : (i : Int) / each < ns.length := Int.ediv_lt_of_lt_mul ep (by rw [Int.mul_comm]; rw [← en]; omega)
        have hi0 : 0 ≤ (i : Int) := Int.natCast_nonneg i
        refine ⟨⟨ep, by omega⟩, rix_scr hs' q0 q1 fun x => ⟨ep, .inl ⟨by decide, by decide⟩, _, rfl, k7 _ _ (seq_i fun nx8 k8 => ?_)⟩⟩
        generalize x + 977 * ((i : Int) % each) = cl
        try walk_at "rd"
        refine ⟨by decide, by decide, cl, _, _, rfl, by omega, by omega, I.n, fun f f0 f1 => ?_⟩
        try walk_at "rd"
        refine ⟨⟨by decide, by decide⟩, k8 _ _ (seq_i fun nx9 k9 => ?_)⟩
        try walk_at "rd"
        refine ⟨by decide, by decide, fun t5 ht5 => ?_⟩
        have I5 := I.new (o := .tup [.int 1, .int 3, .int 8, .int 2]) ht5
        refine tup4_ix (P := fun v => 0 < v ∧ v ≤ 8) upd_same kd0 kd1 (by decide) (by decide) (by decide) (by decide) fun ln ⟨ln0, ln1⟩ => ⟨cl, _, _, rfl, by omega, by omega, I5.n, fun g g0 g1 => ?_⟩
        try walk_at "rd"
        refine k9 _ _ ?_
        obtain ⟨rvs, er, _⟩ := id I5.r
        try walk_at "rd"
        have cm : ∀ z : Int, CMul z ti := fun z => .inr ⟨by omega, by omega⟩
        refine ⟨ty_lst (K := K) er, cm _, cm _, by decide, cl, _, _, rfl, by omega, mo0, I5.n, fun pr pr0 pr1 => ?_⟩
        have lo := mul_lo (f := f - dy / 2) (by omega) ti0 ti1
        have hi := mul_hi (f := f - dy / 2 + g) (by omega) ti0 ti1
        have le := Int.mul_le_mul_of_nonneg_right (a := f - dy / 2) (b := f - dy / 2 + g) (c := ti) (by omega) (by omega)
        exact I5.add hpf (by omega) ⟨le, pr0, lo, hi, by omega⟩ fun H6 I6 => kL _ _ ⟨_, _, _, _, rfl, _, I6, by rw [List.length_append, len]; rfl⟩
      · rintro σ H' ⟨x2, x3, x9, x10, rfl, rs, I, len⟩
        refine k6 _ _ ?_
        try walk_at "rd"
        exact done I (by omega)
    try walk_at "rd"
    refine ⟨a, ns, 1, rfl, hs.same I3.s, by decide, I3.n, fun z4 => ⟨z4, 9, 8, rfl, by decide, by decide, I3.n, fun d4 _ _ => req_int ⟨_, rfl, ?_⟩⟩⟩
    by_cases e : d4 = 0
    · rw [decide_eq_true e]
      exact iteT (go 2 (.inr rfl) _ I3)
    · rw [decide_eq_false e]
      exact iteF (go 1 (.inl rfl) _ I3)
end
end Spn

namespace Spn
open PySem PySem.Spec PyProof.Rows L2
/-! ### instances: their classes -/
/-- what isinstance asks of the class c of a thing -/
structure Isa (K : PySem.W.Frag) (c : Str) : Prop where
  cl : Cls K (He.ga K c)
  ha : PySem.W.findIn K (.ref (He.ga K c)) "__class__" = some (some (.builtin "object.__class__"))
  hn : PySem.W.specialIn K (.builtin "object.__class__") "__get__" = some (some (.builtin "getset_descriptor.__get__"))
  htk : PySem.W.takesIn K (.builtin "object.__class__") = some true
  hm : PySem.W.mroIn K (He.ga K c) (.type "object") = some true
def Kit (K : PySem.W.Frag) (c d : Str) (b : Bool) : Prop := PySem.W.kitOne K (.ref (He.ga K c)) (.ref (He.ga K d)) = some b
theorem rIsi_ins {K : PySem.W.Frag} {H : Hp} {c d : Str} {b : Bool} {x dx : Addr} {fs : List (Str × V)} {Q : VK} (I : Isa K c) (k : Kit K c d b) (h : H x = some (.ins (He.ga K c) dx fs)) (q : Q (.bl b) H) : rIsi K [.ref x, .ref (He.ga K d)] H Q :=
  ⟨.ref x, .ref (He.ga K d), .ref (He.ga K c), .ref (He.ga K d), b, rfl, .own _, .base (.ins h I.cl I.ha I.hn I.htk I.hm), k, q⟩
theorem rIsi_lst {K : PySem.W.Frag} {H : Hp} {x : Addr} {l : List V} {T : String} {b : Bool} {Q : VK} (h : H x = some (.lst l)) (k : kitB "list" T = some b) (q : Q (.bl b) H) : rIsi K [.ref x, .ty T] H Q := isi_of (.base (.lst h)) k q
theorem rIsi_tup {K : PySem.W.Frag} {H : Hp} {x : Addr} {l : List V} {T : String} {b : Bool} {Q : VK} (h : H x = some (.tup l)) (k : kitB "tuple" T = some b) (q : Q (.bl b) H) : rIsi K [.ref x, .ty T] H Q := isi_of (.base (.tup h)) k q
/-- the class Best -/
structure BestC (K : PySem.W.Frag) : Prop where
  cl : Cls K (He.ga K "Best")
  n1 : NoAttr K (He.ga K "Best") "taken"
  n2 : NoAttr K (He.ga K "Best") "tolls"
def Rms (m : Int) : Prop := -(2 ^ 64) < m ∧ m < 2 ^ 64
section
variable {K : PySem.W.Frag} {w : World} {vs : List V} {H : Hp} {Q Q0 : VK} {E : XK}
theorem bf_shows (p q : Addr) : (bestF p q).lookup ("shows" : Str) = none := (lk_past (by decide +kernel)).trans ((lk_past (by decide +kernel)).trans rfl)
theorem best_fld1 {x p q : Addr} {ns : List Int} {τ : List (Int × Int)} {tb : TE} {σ : L2.St} {Q : VK} (C : BestC K) (eb : ∀ Q : VK, Q (.ref x) H → tb σ H Q) (B : BestAt K H x p q ns τ) (k : Q (.ref p) H) : tFld K tb "taken" σ H Q := by
  obtain ⟨⟨dx, hx⟩, _⟩ := B
  exact rfld eb hx C.cl C.n1 (bf_taken p q) k
theorem best_fld2 {x p q : Addr} {ns : List Int} {τ : List (Int × Int)} {tb : TE} {σ : L2.St} {Q : VK} (C : BestC K) (eb : ∀ Q : VK, Q (.ref x) H → tb σ H Q) (B : BestAt K H x p q ns τ) (k : Q (.ref q) H) : tFld K tb "tolls" σ H Q := by
  obtain ⟨⟨dx, hx⟩, _⟩ := B
  exact rfld eb hx C.cl C.n2 (bf_tolls p q) k
/-- what is asked of a best answer -/
theorem best_shows {x p q a : Addr} {m : Int} {rs : List Rq} {ns : List Int} {τ : List (Int × Int)} {tb tr tm : TE} {σ : L2.St} {Q : VK} (eb : ∀ Q : VK, Q (.ref x) H → tb σ H Q) (er : ∀ Q : VK, Q (.ref a) H → tr σ H Q) (em : ∀ Q : VK, Q (.int m) H → tm σ H Q)
    (B : BestAt K H x p q ns τ) (hr : ReqsAt H a rs) (z1 : rs.length ≤ 1000) (z2 : ns.length ≤ 1000) (z3 : τ.length ≤ 1000) (hm : Rms m) (n : NoT H) (k : Q (.bl (isBest rs m ns τ)) H) : tMeth (He.ga K "Best") "shows" (sp_Best_shows K w) [] E0 tb (tCons tr (tCons tm tNil)) σ H Q := by
  obtain ⟨⟨dx, hx⟩, hp, hq⟩ := id B
  exact rmeth (vs := [.ref a, .int m]) eb hx (bf_shows p q) (fun R h => er _ (em _ h)) ⟨x, p, q, a, m, rs, ns, τ, rfl, B, hr, z1, z2, z3, hm, n, k⟩
theorem law_best {x p q a : Addr} {m : Int} {rs : List Rq} {ns : List Int} {τ : List (Int × Int)} {tb tr tm : TE} {σ : L2.St} {Q : VK} (C : BestC K) (eb : ∀ Q : VK, Q (.ref x) H → tb σ H Q) (er : ∀ Q : VK, Q (.ref a) H → tr σ H Q) (em : ∀ Q : VK, Q (.int m) H → tm σ H Q)
    (B : BestAt K H x p q ns τ) (hr : ReqsAt H a rs) (z1 : rs.length ≤ 1000) (z2 : ns.length ≤ 1000) (z3 : τ.length ≤ 1000) (hm : Rms m) (n : NoT H) (k : Q (.bl (isBest rs m ns τ)) H) : tCall (sp__law_best K w) [] E0 (tCons tr (tCons tm (tCons (tFld K tb "taken") (tCons (tFld K tb "tolls") tNil)))) σ H Q := by
  obtain ⟨_, hp, hq⟩ := id B
  refine er _ (em _ (best_fld1 C eb B (best_fld2 C eb B ?_)))
  exact ⟨a, m, p, q, rs, ns, τ, rfl, hr, hp, hq, z1, z2, z3, hm, n, k⟩
theorem rne_bl {b : Bool} {Q : VK} (q : Q (.bl false) H) : rNe (.bl b) (.bl b) H Q := ⟨rfl, by
  have e : (!decide (V.bl b = V.bl b)) = false := by simp
  rw [e]; exact q⟩
/-- what it shows is what is reckoned here -/
theorem shows_ne {x p q a : Addr} {m : Int} {rs : List Rq} {ns : List Int} {τ : List (Int × Int)} {tb tr tm : TE} {σ : L2.St} {D : Ends} (C : BestC K) (eb : ∀ Q : VK, Q (.ref x) H → tb σ H Q) (er : ∀ Q : VK, Q (.ref a) H → tr σ H Q) (em : ∀ Q : VK, Q (.int m) H → tm σ H Q)
    (B : BestAt K H x p q ns τ) (hr : ReqsAt H a rs) (z1 : rs.length ≤ 1000) (z2 : ns.length ≤ 1000) (z3 : τ.length ≤ 1000) (hm : Rms m) (n : NoT H) (k : D.nx σ H) :
    tIfS (tTest (tOp rNe (tMeth (He.ga K "Best") "shows" (sp_Best_shows K w) [] E0 tb (tCons tr (tCons tm tNil))) (tCall (sp__law_best K w) [] E0 (tCons tr (tCons tm (tCons (tFld K tb "taken") (tCons (tFld K tb "tolls") tNil))))))) (tRet (tC (.bl false))) tNext D σ H := by
  refine if_i fun th el h1 h2 => ?_
  refine best_shows eb er em B hr z1 z2 z3 hm n (law_best C eb er em B hr z1 z2 z3 hm n (rne_bl ⟨_, rfl, iteF (h2 _ k)⟩))
/-- what it shows is b -/
theorem shows_is {x p q a : Addr} {m : Int} {b : Bool} {rs : List Rq} {ns : List Int} {τ : List (Int × Int)} {tb tr tm : TE} {σ : L2.St} {Q : Bool → Hp → Prop} (eb : ∀ Q : VK, Q (.ref x) H → tb σ H Q) (er : ∀ Q : VK, Q (.ref a) H → tr σ H Q) (em : ∀ Q : VK, Q (.int m) H → tm σ H Q)
    (B : BestAt K H x p q ns τ) (hr : ReqsAt H a rs) (z1 : rs.length ≤ 1000) (z2 : ns.length ≤ 1000) (z3 : τ.length ≤ 1000) (hm : Rms m) (n : NoT H) (e : isBest rs m ns τ = b) (k : Q false H) :
    tTest (tOp rNotB (tMeth (He.ga K "Best") "shows" (sp_Best_shows K w) [] E0 tb (tCons tr (tCons tm tNil))) (tC (.bl b))) σ H Q := by
  refine best_shows eb er em B hr z1 z2 z3 hm n ⟨_, _, rfl, rfl, _, rfl, ?_⟩
  rw [e, decide_eq_true rfl]
  exact k
theorem OkL.r {rs : List Rq} (h : OkL rs) : OkR rs := fun r hr => ⟨(h r hr).1, (h r hr).2.1⟩
/-- one more behind is no choice -/
theorem best_len {rs : List Rq} {m : Int} {ns : List Int} {τ : List (Int × Int)} (h : isBest rs m ns τ = true) : ns.length ≤ rs.length := choice_len (isBest_iff.mp h).1
theorem tFor_tvia {ta : TE} {g : TG} {tb : TS} {D : Ends} {σ : L2.St} {H : Hp} (h : ta σ H fun v H1 => tFor (iTup K fun _ H2 Q2 => Q2 v H2) g tb D σ H1) : tFor (iTup K ta) g tb D σ H := h
theorem two_get {u v x : V} {i : Nat} (h : [u, v][i]? = some x) : x = u ∨ x = v := by
  match i, h with
  | 0, h => exact .inl (Option.some.inj h).symm
  | 1, h => exact .inr (Option.some.inj h).symm
theorem ReqsAt.setl {H : Hp} {a p : Addr} {l l' : List V} {rs : List Rq} (h : ReqsAt H a rs) (ne : a ≠ p) (e : H p = some (.lst l)) : ReqsAt (upd H p (.lst l')) a rs := by
  obtain ⟨vs, ea, pr⟩ := h
  exact ⟨vs, by rw [upd_ne ne]; exact ea, pr.mono fun _ _ q => q.keep ((TK.refl _).lst e)⟩
theorem BestAt.set1 {H : Hp} {x p q : Addr} {ns ns' : List Int} {τ : List (Int × Int)} (B : BestAt K H x p q ns τ) (ne : p ≠ q) : BestAt K (upd H p (.lst (ns'.map V.int))) x p q ns' τ := by
  obtain ⟨⟨dx, hx⟩, hp, us, hq, pq⟩ := B
  refine ⟨⟨dx, ?_⟩, upd_same, us, by rw [upd_ne ne.symm]; exact hq, pq.mono fun _ _ h => h.keep ((TK.refl _).lst hp)⟩
  rw [upd_ne (ne_of hx hp (by intro z; cases z))]
  exact hx
theorem BestAt.set2 {H : Hp} {x p q t : Addr} {ns : List Int} {τ : List (Int × Int)} {us : List V} {d b : Int} (B : BestAt K H x p q ns τ) (ne : p ≠ q) (e : H q = some (.lst us)) (pu : Paired (IsP H) us τ) (ht : H t = some (.tup [.int d, .int b])) : BestAt K (upd H q (.lst (us ++ [.ref t]))) x p q ns (τ ++ [(d, b)]) := by
  obtain ⟨⟨dx, hx⟩, hp, _⟩ := B
  have tk := (TK.refl H).lst (o := .lst (us ++ [.ref t])) e
  refine ⟨⟨dx, ?_⟩, ?_, _, upd_same, (pu.mono fun _ _ h => h.keep tk).snoc ⟨t, rfl, tk _ _ ht⟩⟩
  · rw [upd_ne (ne_of hx e (by intro z; cases z))]
    exact hx
  · show _ = _
    rw [upd_ne ne]
    exact hp
theorem cut1' (xs : List V) : cutV xs (some 1) none = xs.drop 1 := by
  cases xs with
  | nil => rfl
  | cons v r => exact cut1
theorem tFor_lvia {ta : TE} {g : TG} {tb : TS} {D : Ends} {σ : L2.St} {H : Hp} (h : ta σ H fun v H1 => tFor (iList K fun _ H2 Q2 => Q2 v H2) g tb D σ H1) : tFor (iList K ta) g tb D σ H := h
theorem inV_ints (z : Int) : ∀ T : List Int, inV (.int z) (T.map V.int) = decide (z ∈ T)
  | [] => by simp [inV]
  | i :: r => by
    have ih := inV_ints z r
    unfold inV at ih ⊢
    rw [List.map_cons, List.any_cons, ih]
    rw [Bool.eq_iff_iff, Bool.or_eq_true, decide_eq_true_iff, decide_eq_true_iff, List.mem_cons]
    refine or_congr_left ?_
    simp [eqV]
    exact eq_comm
theorem rnotin {a : Addr} {z : Int} {T : List Int} {Q : VK} (h : IntsAt H a T) (q : Q (.bl (!decide (z ∈ T))) H) : rIn K true (.int z) (.ref a) H Q :=
  ⟨a, _, rfl, .inl (SqL.of h), rfl, by rw [List.all_map]; exact List.all_eq_true.mpr fun _ _ => rfl, by rw [inV_ints]; exact q⟩
end
end Spn

namespace Spn
/-! ### one request more -/
def cutN (n : Nat) (S : List Int) : List Int := S.filter fun a => decide (a < n)
theorem getR_old {rs : List Rq} {r : Rq} {a : Int} (h0 : 0 ≤ a) (h1 : a < rs.length) : getR (rs ++ [r]) a = getR rs a := by
  unfold getR
  rw [List.getD_eq_getElem?_getD, List.getD_eq_getElem?_getD, List.getElem?_append_left (by omega)]
theorem getR_new (rs : List Rq) (r : Rq) : getR (rs ++ [r]) rs.length = r := by
  unfold getR
  rw [List.getD_eq_getElem?_getD, Int.toNat_natCast, List.getElem?_append_right (Nat.le_refl _), Nat.sub_self]
  rfl
theorem worth_cut {rs : List Rq} {r : Rq} : ∀ {S : List Int}, S.Pairwise (· < ·) → (∀ z ∈ S, 0 ≤ z ∧ z < (rs.length : Int) + 1) → worth (rs ++ [r]) S = worth rs (cutN rs.length S) + if (rs.length : Int) ∈ S then r.2.2 else 0
  | [], _, _ => by simp [worth, cutN]
  | a :: t, pw, hb => by
    have pw' := List.pairwise_cons.mp pw
    have ih := worth_cut (rs := rs) (r := r) (S := t) pw'.2 fun z hz => hb z (List.mem_cons_of_mem _ hz)
    obtain ⟨a0, a1⟩ := hb a List.mem_cons_self
    have e1 : worth (rs ++ [r]) (a :: t) = (getR (rs ++ [r]) a).2.2 + worth (rs ++ [r]) t := rfl
    by_cases c : a < rs.length
    · have e2 : cutN rs.length (a :: t) = a :: cutN rs.length t := List.filter_cons_of_pos (by simp [c])
      have e3 : worth rs (a :: cutN rs.length t) = (getR rs a).2.2 + worth rs (cutN rs.length t) := rfl
      have e4 : (rs.length : Int) ∈ a :: t ↔ (rs.length : Int) ∈ t := by
        rw [List.mem_cons]
        exact ⟨fun h => h.resolve_left (by omega), .inr⟩
      rw [e1, e2, e3, ih, getR_old a0 c]
      simp only [e4]
      omega
    · have ea : a = rs.length := by omega
      have et : t = [] := by
        cases t with
        | nil => rfl
        | cons b u =>
          have := pw'.1 b List.mem_cons_self
          have := (hb b (List.mem_cons_of_mem _ List.mem_cons_self)).2
          omega
      subst et
      subst ea
      rw [e1, getR_new]
      simp [worth, cutN]
theorem choice_pw {n : Nat} {S : List Int} (h : isChoice n S = true) : S.Pairwise (· < ·) ∧ ∀ z ∈ S, 0 ≤ z ∧ z < n := choice_iff.mp h
theorem len_more (rs : List Rq) (r : Rq) : (rs ++ [r]).length = rs.length + 1 := by rw [List.length_append]; rfl
theorem worth_cut' {rs : List Rq} {r : Rq} {S : List Int} (h : isChoice (rs ++ [r]).length S = true) : worth (rs ++ [r]) S = worth rs (cutN rs.length S) + if (rs.length : Int) ∈ S then r.2.2 else 0 := by
  rw [len_more] at h
  obtain ⟨a, b⟩ := choice_pw h
  exact worth_cut a fun z hz => by have := b z hz; omega
theorem choice_cut {n m : Nat} {S : List Int} (h : isChoice m S = true) : isChoice n (cutN n S) = true := by
  obtain ⟨a, b⟩ := choice_pw h
  refine choice_iff.mpr ⟨a.filter _, fun z hz => ?_⟩
  obtain ⟨h1, h2⟩ := List.mem_filter.mp hz
  exact ⟨(b z h1).1, of_decide_eq_true h2⟩
theorem fits_cut {rs : List Rq} {r : Rq} {m : Int} {S : List Int} (hb : ∀ z ∈ S, 0 ≤ z) (h : fits (rs ++ [r]) m S = true) : fits rs m (cutN rs.length S) = true := by
  refine List.all_eq_true.mpr fun a ha => ?_
  obtain ⟨h1, h2⟩ := List.mem_filter.mp ha
  have h2 : a < rs.length := of_decide_eq_true h2
  have f := of_decide_eq_true (List.all_eq_true.mp h a h1)
  rw [getR_old (hb a h1) h2] at f
  refine decide_eq_true (Int.le_trans (Int.ofNat_le.mpr ?_) f)
  unfold forDay
  have e : (cutN rs.length S).filter (fun z => covers (getR rs z) (getR rs a).1) = (cutN rs.length S).filter fun z => covers (getR (rs ++ [r]) z) (getR rs a).1 := by
    refine List.filter_congr fun z hz => ?_
    obtain ⟨z1, z2⟩ := List.mem_filter.mp hz
    rw [getR_old (hb z z1) (of_decide_eq_true z2)]
  rw [e]
  exact (List.filter_sublist.filter _).length_le
theorem covers_price {rs : List Rq} {f l p p' : Int} (a d : Int) : covers (getR (rs ++ [(f, l, p)]) a) d = covers (getR (rs ++ [(f, l, p')]) a) d ∧ (getR (rs ++ [(f, l, p)]) a).1 = (getR (rs ++ [(f, l, p')]) a).1 := by
  unfold getR
  rw [List.getD_eq_getElem?_getD, List.getD_eq_getElem?_getD]
  by_cases c : a.toNat < rs.length
  · rw [List.getElem?_append_left c, List.getElem?_append_left c]
    exact ⟨rfl, rfl⟩
  · rw [List.getElem?_append_right (by omega), List.getElem?_append_right (by omega)]
    cases h : a.toNat - rs.length with
    | zero => exact ⟨rfl, rfl⟩
    | succ k => exact ⟨rfl, rfl⟩
theorem fits_price {rs : List Rq} {f l p p' m : Int} {S : List Int} (h : fits (rs ++ [(f, l, p)]) m S = true) : fits (rs ++ [(f, l, p')]) m S = true := by
  refine List.all_eq_true.mpr fun a ha => ?_
  have g := List.all_eq_true.mp h a ha
  have e : forDay (rs ++ [(f, l, p')]) S (getR (rs ++ [(f, l, p')]) a).1 = forDay (rs ++ [(f, l, p)]) S (getR (rs ++ [(f, l, p)]) a).1 := by
    unfold forDay
    rw [(covers_price (p := p) (p' := p') a 0).2]
    exact List.filter_congr fun z _ => ((covers_price z _).1).symm
  rw [e]
  exact g
theorem fits_old {rs : List Rq} {r : Rq} {m : Int} {S : List Int} (hc : isChoice rs.length S = true) (h : fits rs m S = true) : fits (rs ++ [r]) m S = true := by
  have hb := (choice_pw hc).2
  refine List.all_eq_true.mpr fun a ha => ?_
  have g := List.all_eq_true.mp h a ha
  have e : forDay (rs ++ [r]) S (getR (rs ++ [r]) a).1 = forDay rs S (getR rs a).1 := by
    unfold forDay
    rw [getR_old (hb a ha).1 (hb a ha).2]
    exact List.filter_congr fun z hz => by rw [getR_old (hb z hz).1 (hb z hz).2]
  rw [e]
  exact g
theorem choice_old {rs : List Rq} {r : Rq} {S : List Int} (hc : isChoice rs.length S = true) : isChoice (rs ++ [r]).length S = true := by
  obtain ⟨a, b⟩ := choice_pw hc
  rw [len_more]
  exact choice_iff.mpr ⟨a, fun z hz => by have := b z hz; omega⟩
theorem cut_old {n : Nat} {S : List Int} (hb : ∀ z ∈ S, z < (n : Int)) : cutN n S = S := List.filter_eq_self.mpr fun z hz => decide_eq_true (hb z hz)
theorem worth_old {rs : List Rq} {r : Rq} {S : List Int} (hc : isChoice rs.length S = true) : worth (rs ++ [r]) S = worth rs S := by
  have hb := (choice_pw hc).2
  rw [worth_cut' (choice_old hc), cut_old fun z hz => (hb z hz).2, if_neg fun h => by have := (hb _ h).2; omega]
  omega
theorem choice_low {rs : List Rq} (ok : OkR rs) {S : List Int} (hc : isChoice rs.length S = true) : worth rs S ≤ (rs.map (·.2.2)).sum := by
  rw [← every_worth rs]
  refine best_ge (Int.natCast_nonneg rs.length) (every_best ok (Int.le_refl _)) hc (List.all_eq_true.mpr fun a _ => decide_eq_true ?_)
  have h1 : (forDay rs S (getR rs a).1).length ≤ S.length := List.length_filter_le _ _
  have h2 := choice_len hc
  omega
/-- a price that is due -/
structure DueOk (rs : List Rq) (m f l p : Int) (T : List Int) (τ : List (Int × Int)) (O : List Int) (σ : List (Int × Int)) : Prop where
  p0 : 0 ≤ p
  inT : (rs.length : Int) ∈ T
  bT : isBest (rs ++ [(f, l, p)]) m T τ = true
  bO : isBest rs m O σ = true
  eq : worth (rs ++ [(f, l, p)]) T = worth rs O
  at_ : ∀ p' S ρ, 0 ≤ p' → isBest (rs ++ [(f, l, p')]) m S ρ = true → worth (rs ++ [(f, l, p')]) S = max (worth rs O) (worth rs O - p + p')
section
variable {rs : List Rq} {m f l : Int} {T O : List Int} {τ' σ : List (Int × Int)}
theorem due_in (ok : OkR rs) (m1 : 1 ≤ m) (bT : isBest (rs ++ [(f, l, (rs.map (·.2.2)).sum + 1)]) m T τ' = true) : (rs.length : Int) ∈ T := by
  refine Decidable.byContradiction fun c => ?_
  obtain ⟨t1, t2, _⟩ := isBest_iff.mp bT
  have w := worth_cut' t1
  rw [if_neg c] at w
  have lo := choice_low ok (choice_cut (n := rs.length) t1)
  have one : isChoice (rs ++ [(f, l, (rs.map (·.2.2)).sum + 1)]).length [(rs.length : Int)] = true := by
    rw [len_more]
    exact choice_iff.mpr ⟨List.pairwise_singleton _ _, fun z hz => by rw [List.mem_singleton.mp hz]; omega⟩
  have ge := best_ge (by omega) bT one (List.all_eq_true.mpr fun a _ => decide_eq_true (by
    have : (forDay (rs ++ [(f, l, (rs.map (·.2.2)).sum + 1)]) [(rs.length : Int)] (getR (rs ++ [(f, l, (rs.map (·.2.2)).sum + 1)]) a).1).length ≤ 1 := List.length_filter_le _ _
    omega))
  have w1 : worth (rs ++ [(f, l, (rs.map (·.2.2)).sum + 1)]) [(rs.length : Int)] = (rs.map (·.2.2)).sum + 1 := by
    show (getR _ _).2.2 + 0 = _
    rw [getR_new]
    exact Int.add_zero _
  omega
theorem due_all (ok : OkR rs) (m1 : 1 ≤ m) (bO : isBest rs m O σ = true) (bT : isBest (rs ++ [(f, l, (rs.map (·.2.2)).sum + 1)]) m T τ' = true) :
    worth rs (cutN rs.length T) ≤ worth rs O ∧ ∀ p' S ρ, isBest (rs ++ [(f, l, p')]) m S ρ = true → worth (rs ++ [(f, l, p')]) S = max (worth rs O) (worth rs (cutN rs.length T) + p') := by
  have inT := due_in ok m1 bT
  obtain ⟨t1, t2, _⟩ := isBest_iff.mp bT
  obtain ⟨o1, o2, _⟩ := isBest_iff.mp bO
  have t1' := t1
  rw [len_more] at t1'
  have tb := (choice_pw t1').2
  refine ⟨best_ge (by omega) bO (choice_cut t1) (fits_cut (fun z hz => (tb z hz).1) t2), fun p' S ρ bS => ?_⟩
  obtain ⟨s1, s2, _⟩ := isBest_iff.mp bS
  have s1' := s1
  rw [len_more] at s1'
  have sb := (choice_pw s1').2
  have t1p : isChoice (rs ++ [(f, l, p')]).length T = true := by rw [len_more]; exact t1'
  have s1g : isChoice (rs ++ [(f, l, (rs.map (·.2.2)).sum + 1)]).length S = true := by rw [len_more]; exact s1'
  have g1 := best_ge (by omega) bS (choice_old o1) (fits_old o1 o2)
  rw [worth_old o1] at g1
  have g2 := best_ge (by omega) bS t1p (fits_price t2)
  rw [worth_cut' t1p, if_pos inT] at g2
  have g3 := best_ge (by omega) bT s1g (fits_price s2)
  rw [worth_cut' s1g, worth_cut' t1, if_pos inT] at g3
  have g4 := best_ge (by omega) bO (choice_cut s1) (fits_cut (fun z hz => (sb z hz).1) s2)
  have w := worth_cut' s1
  have mx : max (worth rs O) (worth rs (cutN rs.length T) + p') = if worth rs O ≤ worth rs (cutN rs.length T) + p' then worth rs (cutN rs.length T) + p' else worth rs O := Int.max_def _ _
  rw [mx]
  simp only at g2 g3 w
  by_cases c : (rs.length : Int) ∈ S
  · rw [if_pos c] at g3 w
    split <;> omega
  · rw [if_neg c] at w
    split <;> omega
theorem due_ok (ok : OkR rs) (m1 : 1 ≤ m) (bO : isBest rs m O σ = true) (bT : isBest (rs ++ [(f, l, (rs.map (·.2.2)).sum + 1)]) m T τ' = true) {S : List Int} {τ : List (Int × Int)}
    (bS : isBest (rs ++ [(f, l, worth rs O - worth rs (cutN rs.length T))]) m S τ = true) : DueOk rs m f l (worth rs O - worth rs (cutN rs.length T)) T τ O σ := by
  obtain ⟨le, all⟩ := due_all ok m1 bO bT
  have inT := due_in ok m1 bT
  obtain ⟨t1, t2, _⟩ := isBest_iff.mp bT
  have t1p : isChoice (rs ++ [(f, l, worth rs O - worth rs (cutN rs.length T))]).length T = true := by rw [len_more] at t1 ⊢; exact t1
  have wT : worth (rs ++ [(f, l, worth rs O - worth rs (cutN rs.length T))]) T = worth rs O := by
    rw [worth_cut' t1p, if_pos inT]
    show _ + (worth rs O - worth rs (cutN rs.length T)) = _
    omega
  obtain ⟨s1, s2, s3, s4⟩ := isBest_iff.mp bS
  have wS := all _ _ _ bS
  have e : max (worth rs O) (worth rs (cutN rs.length T) + (worth rs O - worth rs (cutN rs.length T))) = worth rs O := by
    rw [Int.max_def]
    split <;> omega
  rw [e] at wS
  refine ⟨by omega, inT, isBest_iff.mpr ⟨t1p, fits_price t2, s3, by rw [wT, ← s4, wS]⟩, bO, wT, fun p' S' ρ _ bS' => ?_⟩
  rw [all _ _ _ bS']
  congr 1
  omega
end
/-- whether a due price shows what it tells -/
def dueShows (rs : List Rq) (m f l p : Int) (T : List Int) (τ : List (Int × Int)) (O : List Int) (σ : List (Int × Int)) : Bool :=
  decide (0 ≤ p) && decide ((rs.length : Int) ∈ T) && isBest (rs ++ [(f, l, p)]) m T τ && isBest rs m O σ && decide (worth (rs ++ [(f, l, p)]) T = worth rs O)
theorem DueOk.shows {rs : List Rq} {m f l p : Int} {T : List Int} {τ : List (Int × Int)} {O : List Int} {σ : List (Int × Int)} (d : DueOk rs m f l p T τ O σ) : dueShows rs m f l p T τ O σ = true := by
  unfold dueShows
  rw [decide_eq_true d.p0, decide_eq_true d.inT, d.bT, d.bO, decide_eq_true d.eq]
  rfl
theorem due_nil {m f l p : Int} {T : List Int} {τ : List (Int × Int)} {O : List Int} {σ : List (Int × Int)} (d : DueOk [] m f l p T τ O σ) : p = 0 := by
  have o1 : O = [] := List.length_eq_zero_iff.mp (Nat.le_zero.mp (choice_len (isBest_iff.mp d.bO).1))
  have e := d.eq
  rw [worth_cut' (isBest_iff.mp d.bT).1, if_pos d.inT, o1] at e
  have c := choice_cut (n := ([] : List Rq).length) (isBest_iff.mp d.bT).1
  have z : cutN ([] : List Rq).length T = [] := List.length_eq_zero_iff.mp (Nat.le_zero.mp (choice_len c))
  rw [z] at e
  simp [worth] at e
  exact e
end Spn

namespace Spn
open PySem PySem.Spec PyProof.Rows L2
/-! ### prices that are due -/
def dueF (p : Int) (t u o v : Addr) : List (Str × V) := [("price", .int p), ("taken", .ref t), ("tolls", .ref u), ("others", .ref o), ("other_tolls", .ref v)]
structure DueAt (K : PySem.W.Frag) (H : Hp) (x t u o v : Addr) (p : Int) (T : List Int) (τ : List (Int × Int)) (O : List Int) (σ : List (Int × Int)) : Prop where
  ins : ∃ dx, H x = some (.ins (He.ga K "Due") dx (dueF p t u o v))
  t : IntsAt H t T
  u : TollsAt H u τ
  o : IntsAt H o O
  v : TollsAt H v σ
structure DueC (K : PySem.W.Frag) : Prop where
  cl : Cls K (He.ga K "Due")
  np : NoAttr K (He.ga K "Due") "price"
  nt : NoAttr K (He.ga K "Due") "taken"
  nu : NoAttr K (He.ga K "Due") "tolls"
  no : NoAttr K (He.ga K "Due") "others"
  nv : NoAttr K (He.ga K "Due") "other_tolls"
def sp_Due___init__ (K : PySem.W.Frag) (w : World) : Sp := fun vs H Q _ => ∃ x dx p a b c d ts us os ws, vs = [.ref x, .int p, .ref a, .ref b, .ref c, .ref d] ∧ H x = some (.ins (He.ga K "Due") dx []) ∧ H a = some (.lst ts) ∧ H b = some (.lst us) ∧ H c = some (.lst os) ∧ H d = some (.lst ws) ∧ NoT H ∧
  ∀ H' t u o v, H t = none → H u = none → H o = none → H v = none → t ≠ u → t ≠ o → t ≠ v → u ≠ o → u ≠ v → o ≠ v → H' x = some (.ins (He.ga K "Due") dx (dueF p t u o v)) → H' t = some (.lst ts) → H' u = some (.lst us) → H' o = some (.lst os) → H' v = some (.lst ws) → (∀ b o, H b = some o → b ≠ x → H' b = some o) → NoT H' → Q .non H'
def sp_Due_shows (K : PySem.W.Frag) (w : World) : Sp := fun vs H Q _ => ∃ x t u o v a m f l p rs T τ O σ, vs = [.ref x, .ref a, .int m, .int f, .int l] ∧ DueAt K H x t u o v p T τ O σ ∧ ReqsAt H a rs ∧ rs.length ≤ 900 ∧ T.length ≤ 1000 ∧ τ.length ≤ 1000 ∧ O.length ≤ 1000 ∧ σ.length ≤ 1000 ∧ (-(2 ^ 64) < m ∧ m < 2 ^ 64) ∧ NoT H ∧
  Q (.bl (dueShows rs m f l p T τ O σ)) H
def sp_due (K : PySem.W.Frag) (w : World) : Sp := fun vs H Q _ => ∃ a m f l rs, vs = [.ref a, .int m, .int f, .int l] ∧ ReqsAt H a rs ∧ OkR rs ∧ rs.length ≤ 440 ∧ 1 ≤ m ∧ f ≤ l ∧ NoT H ∧
  ∀ H' x t u o v p T τ O σ, Same H H' → NoT H' → H x = none → H t = none → H u = none → H o = none → H v = none → t ≠ o → u ≠ o → o ≠ v → t ≠ u → t ≠ v → u ≠ v → DueAt K H' x t u o v p T τ O σ → DueOk rs m f l p T τ O σ → T.length ≤ 900 → τ.length ≤ 900 → O.length ≤ 900 → σ.length ≤ 900 → Q (.ref x) H'
def sp__law_owed (K : PySem.W.Frag) (w : World) : Sp := fun vs H Q _ => ∃ x t u o v a m f l p rs T τ O σ, vs = [.ref a, .int m, .int f, .int l, .ref x] ∧ DueAt K H x t u o v p T τ O σ ∧ ReqsAt H a rs ∧ rs.length ≤ 900 ∧ T.length ≤ 1000 ∧ τ.length ≤ 1000 ∧ O.length ≤ 1000 ∧ σ.length ≤ 1000 ∧ (-(2 ^ 64) < m ∧ m < 2 ^ 64) ∧ NoT H ∧
  Q (.bl (dueShows rs m f l p T τ O σ)) H
end Spn

namespace Spn
open PySem PySem.Spec PyProof.Rows L2
/-! ### readings -/
/-- Due.__init__ -/
def t_Due___init__ (K : PySem.W.Frag) (w : World) : TS :=
  (tSeq (sFld K (tVar 0) (tVar 1) "price")
  (tSeq (sFld K (tVar 0) (tCB (qList K) (tCons (tVar 2) tNil)) "taken")
  (tSeq (sFld K (tVar 0) (tCB (qList K) (tCons (tVar 3) tNil)) "tolls")
  (tSeq (sFld K (tVar 0) (tCB (qList K) (tCons (tVar 4) tNil)) "others")
  (sFld K (tVar 0) (tCB (qList K) (tCons (tVar 5) tNil)) "other_tolls")))))

/-- Due.shows -/
def t_Due_shows (K : PySem.W.Frag) (w : World) : TS :=
  (tSeq (tIfS (tOr (tNot (tB (tCall (sp_is_whole K w) [] E0 (tCons (tFld K (tVar 0) "price") tNil)))) (tOr (tTest (tOp qLt (tFld K (tVar 0) "price") (tC (.int 0)))) (tTest (tOp (rIn K true) (tCB (qLen K) (tCons (tVar 1) tNil)) (tFld K (tVar 0) "taken"))))) (tRet (tC (.bl false))) tNext)
  (tSeq (tAsg (tOp rCat (tVar 1) (tLst (tCons (tTup (tCons (tVar 3) (tCons (tVar 4) (tCons (tFld K (tVar 0) "price") tNil)))) tNil))) (gName 5))
  (tSeq (tIfS (tNot (tB (tCall (sp_is_best K w) [] E0 (tCons (tVar 5) (tCons (tVar 2) (tCons (tFld K (tVar 0) "taken") (tCons (tFld K (tVar 0) "tolls") tNil))))))) (tRet (tC (.bl false))) tNext)
  (tSeq (tIfS (tNot (tB (tCall (sp_is_best K w) [] E0 (tCons (tVar 1) (tCons (tVar 2) (tCons (tFld K (tVar 0) "others") (tCons (tFld K (tVar 0) "other_tolls") tNil))))))) (tRet (tC (.bl false))) tNext)
  (tRet (tOp rEq (tCall (sp_worth_of K w) [] E0 (tCons (tVar 5) (tCons (tFld K (tVar 0) "taken") tNil))) (tCall (sp_worth_of K w) [] E0 (tCons (tVar 1) (tCons (tFld K (tVar 0) "others") tNil)))))))))

/-- due -/
def t_due (K : PySem.W.Frag) (w : World) : TS :=
  (tSeq (tDrop (tCall (sp_check_requests K w) [] E0 (tCons (tVar 0) tNil)))
  (tSeq (tDrop (tCall (sp_check_rooms K w) [] E0 (tCons (tVar 1) (tCons (tC (.int 1)) tNil))))
  (tSeq (tIfS (tOr (tNot (tB (tCall (sp_is_whole K w) [] E0 (tCons (tVar 2) tNil)))) (tOr (tNot (tB (tCall (sp_is_whole K w) [] E0 (tCons (tVar 3) tNil)))) (tTest (tOp qGt (tVar 2) (tVar 3))))) tNever tNext)
  (tSeq (tAsg (tCall (sp_best_of K w) [] E0 (tCons (tVar 0) (tCons (tVar 1) tNil))) (gTup K 2 (gCons (gName 4) (gCons (gName 5) gNil))))
  (tSeq (tAsg (tOp qAdd (tCB (rSum K) (tCons (tLc (iList K (tVar 0)) (gName 12) tYes (tOp (rIxT K) (tVar 12) (tC (.int 2))) [12]) tNil)) (tC (.int 1))) (gName 6))
  (tSeq (tAsg (tOp (rIxT K) (tCall (sp_best_of K w) [] E0 (tCons (tOp rCat (tVar 0) (tLst (tCons (tTup (tCons (tVar 2) (tCons (tVar 3) (tCons (tVar 6) tNil)))) tNil))) (tCons (tVar 1) tNil))) (tC (.int 0))) (gName 7))
  (tSeq (tAsg (tCall (sp_worth_of K w) [] E0 (tCons (tVar 0) (tCons (tLc (iList K (tVar 7)) (gName 11) (tTest (tOp qLt (tVar 11) (tCB (qLen K) (tCons (tVar 0) tNil)))) (tVar 11) [11]) tNil))) (gName 8))
  (tSeq (tAsg (tOp qSub (tCall (sp_worth_of K w) [] E0 (tCons (tVar 0) (tCons (tVar 4) tNil))) (tVar 8)) (gName 9))
  (tSeq (tAsg (tOp (rIxT K) (tCall (sp_best_of K w) [] E0 (tCons (tOp rCat (tVar 0) (tLst (tCons (tTup (tCons (tVar 2) (tCons (tVar 3) (tCons (tVar 9) tNil)))) tNil))) (tCons (tVar 1) tNil))) (tC (.int 1))) (gName 10))
  (tRet (tMake (He.ga K "Due") (sp_Due___init__ K w) [] E0 (tCons (tVar 9) (tCons (tVar 7) (tCons (tVar 10) (tCons (tVar 4) (tCons (tVar 5) tNil))))))))))))))))

/-- _law_owed -/
def t__law_owed (K : PySem.W.Frag) (w : World) : TS :=
  (tSeq (tIfS (tOr (tNot (tB (tCall (sp__law_whole K w) [] E0 (tCons (tFld K (tVar 4) "price") tNil)))) (tOr (tTest (tOp qLt (tFld K (tVar 4) "price") (tC (.int 0)))) (tTest (tOp (rIn K true) (tCB (qLen K) (tCons (tVar 0) tNil)) (tFld K (tVar 4) "taken"))))) (tRet (tC (.bl false))) tNext)
  (tSeq (tAsg (tOp rCat (tVar 0) (tLst (tCons (tTup (tCons (tVar 2) (tCons (tVar 3) (tCons (tFld K (tVar 4) "price") tNil)))) tNil))) (gName 5))
  (tSeq (tIfS (tNot (tB (tCall (sp__law_best K w) [] E0 (tCons (tVar 5) (tCons (tVar 1) (tCons (tFld K (tVar 4) "taken") (tCons (tFld K (tVar 4) "tolls") tNil))))))) (tRet (tC (.bl false))) tNext)
  (tSeq (tIfS (tNot (tB (tCall (sp__law_best K w) [] E0 (tCons (tVar 0) (tCons (tVar 1) (tCons (tFld K (tVar 4) "others") (tCons (tFld K (tVar 4) "other_tolls") tNil))))))) (tRet (tC (.bl false))) tNext)
  (tRet (tOp rEq (tCall (sp__law_worth K w) [] E0 (tCons (tVar 5) (tCons (tFld K (tVar 4) "taken") tNil))) (tCall (sp__law_worth K w) [] E0 (tCons (tVar 0) (tCons (tFld K (tVar 4) "others") tNil)))))))))

end Spn

namespace Spn
open PySem PySem.Spec PyProof.Rows L2
section
variable {K : PySem.W.Frag} {w : World} {vs : List V} {H : Hp} {Q Q0 : VK} {E : XK}
theorem df1 (p : Int) (t : Addr) : putF ("taken" : Str) (.ref t) [("price", .int p)] = ([("price", .int p), ("taken", .ref t)] : List (Str × V)) := by
  rw [putF_past (by decide +kernel), putF_nil]
theorem df2 (p : Int) (t u : Addr) : putF ("tolls" : Str) (.ref u) ([("price", .int p), ("taken", .ref t)] : List (Str × V)) = ([("price", .int p), ("taken", .ref t), ("tolls", .ref u)] : List (Str × V)) := by
  rw [putF_past (by decide +kernel), putF_past (by decide +kernel), putF_nil]
theorem df3 (p : Int) (t u o : Addr) : putF ("others" : Str) (.ref o) ([("price", .int p), ("taken", .ref t), ("tolls", .ref u)] : List (Str × V)) = ([("price", .int p), ("taken", .ref t), ("tolls", .ref u), ("others", .ref o)] : List (Str × V)) := by
  rw [putF_past (by decide +kernel), putF_past (by decide +kernel), putF_past (by decide +kernel), putF_nil]
theorem df4 (p : Int) (t u o v : Addr) : putF ("other_tolls" : Str) (.ref v) ([("price", .int p), ("taken", .ref t), ("tolls", .ref u), ("others", .ref o)] : List (Str × V)) = dueF p t u o v := by
  unfold dueF
  rw [putF_past (by decide +kernel), putF_past (by decide +kernel), putF_past (by decide +kernel), putF_past (by decide +kernel), putF_nil]
theorem dk0 (p : Int) (t u o v : Addr) : (dueF p t u o v).lookup ("price" : Str) = some (.int p) := lk_here
theorem dk1 (p : Int) (t u o v : Addr) : (dueF p t u o v).lookup ("taken" : Str) = some (.ref t) := (lk_past (by decide +kernel)).trans lk_here
theorem dk2 (p : Int) (t u o v : Addr) : (dueF p t u o v).lookup ("tolls" : Str) = some (.ref u) := (lk_past (by decide +kernel)).trans ((lk_past (by decide +kernel)).trans lk_here)
theorem dk3 (p : Int) (t u o v : Addr) : (dueF p t u o v).lookup ("others" : Str) = some (.ref o) := (lk_past (by decide +kernel)).trans ((lk_past (by decide +kernel)).trans ((lk_past (by decide +kernel)).trans lk_here))
theorem dk4 (p : Int) (t u o v : Addr) : (dueF p t u o v).lookup ("other_tolls" : Str) = some (.ref v) := (lk_past (by decide +kernel)).trans ((lk_past (by decide +kernel)).trans ((lk_past (by decide +kernel)).trans ((lk_past (by decide +kernel)).trans lk_here)))
theorem dks (p : Int) (t u o v : Addr) : (dueF p t u o v).lookup ("shows" : Str) = none := (lk_past (by decide +kernel)).trans ((lk_past (by decide +kernel)).trans ((lk_past (by decide +kernel)).trans ((lk_past (by decide +kernel)).trans ((lk_past (by decide +kernel)).trans rfl))))
/-- nothing is forgotten, where what is new are lists and the thing set up -/
theorem Fin.setup {H : Hp} {Q Q0 : VK} (fin : Fin H Q Q0) {v : V} {H4 : Hp} {x C dx : Addr} {fs0 fs : List (Str × V)} (hx : H x = some (.ins C dx fs0)) (J : JI H H4 x C dx fs) (n : NoT H) (q : ∀ H5, NoT H5 → H5 x = some (.ins C dx fs) → (∀ b o, H b = some o → b ≠ x → H5 b = some o) → (∀ b l, H4 b = some (.lst l) → H5 b = some (.lst l)) → Q v H5) : Q0 v H4 :=
  fin.newX n hx J fun nT => q _ nT ((ltH_old hx).trans J.x) (fun b o e ne => (ltH_old e).trans (J.k b o e ne)) (fun b l h => ltH_lst h)
theorem pure_Due___init__ (C : DueC K) (h : sp_Due___init__ K w vs H Q E) (fin : Fin H Q Q0) : t_Due___init__ K w (endS Q0) (start ["self", "price", "taken", "tolls", "others", "other_tolls"] vs) H := by
  obtain ⟨x, dx, p, a, b, c, d, ts, us, os, ws, rfl, hx, ha, hb, hc, hd, n, q⟩ := h
  have na : a ≠ x := ne_of ha hx (by intro z; cases z)
  have nb : b ≠ x := ne_of hb hx (by intro z; cases z)
  have nc : c ≠ x := ne_of hc hx (by intro z; cases z)
  have nd : d ≠ x := ne_of hd hx (by intro z; cases z)
  have J0 : JI H H x (He.ga K "Due") dx [] := ⟨fun _ _ e _ => e, n, hx⟩
  refine seq_i fun nx k => ⟨_, rfl, _, rfl, x, _, dx, _, rfl, hx, C.cl, C.np, by show 0 < 1000; decide, k _ _ (seq_i fun nx2 k2 => ?_)⟩
  have J1 := J0.put (fs' := putF ("price" : Str) (.int p) [])
  rw [putF_nil] at J1 ⊢
  generalize (upd H x _ : Hp) = H1 at J1 ⊢
  refine ⟨_, rfl, a, ts, rfl, .inl (SqL.of (J1.k _ _ ha na)), fun t ht => ?_⟩
  have J2 := J1.new (o := .lst ts) ht
  refine ⟨_, rfl, x, _, dx, _, rfl, J2.x, C.cl, C.nt, by show 1 < 1000; decide, k2 _ _ (seq_i fun nx3 k3 => ?_)⟩
  have J3 := J2.put (fs' := putF ("taken" : Str) (.ref t) [("price", .int p)])
  have t3 := put_lst (fs' := putF ("taken" : Str) (.ref t) [("price", .int p)]) upd_same J2.x
  have ht0 := J1.free ht
  rw [df1] at J3 t3 ⊢
  generalize (upd _ x _ : Hp) = H3 at J3 t3 ⊢
  refine ⟨_, rfl, b, us, rfl, .inl (SqL.of (J3.k _ _ hb nb)), fun u hu => ?_⟩
  have J4 := J3.new (o := .lst us) hu
  refine ⟨_, rfl, x, _, dx, _, rfl, J4.x, C.cl, C.nu, by show 2 < 1000; decide, k3 _ _ (seq_i fun nx4 k4 => ?_)⟩
  have J5 := J4.put (fs' := putF ("tolls" : Str) (.ref u) [("price", .int p), ("taken", .ref t)])
  have t5 := put_lst (fs' := putF ("tolls" : Str) (.ref u) [("price", .int p), ("taken", .ref t)]) (Same.upd (o := .lst us) hu _ _ t3) J4.x
  have u5 := put_lst (fs' := putF ("tolls" : Str) (.ref u) [("price", .int p), ("taken", .ref t)]) upd_same J4.x
  have hu0 := J3.free hu
  have ntu : t ≠ u := ne_of_none t3 hu
  rw [df2] at J5 t5 u5 ⊢
  generalize (upd (upd H3 u _) x _ : Hp) = H5 at J5 t5 u5 ⊢
  refine ⟨_, rfl, c, os, rfl, .inl (SqL.of (J5.k _ _ hc nc)), fun o ho => ?_⟩
  have J6 := J5.new (o := .lst os) ho
  refine ⟨_, rfl, x, _, dx, _, rfl, J6.x, C.cl, C.no, by show 3 < 1000; decide, k4 _ _ ?_⟩
  have J7 := J6.put (fs' := putF ("others" : Str) (.ref o) [("price", .int p), ("taken", .ref t), ("tolls", .ref u)])
  have so := Same.upd (o := .lst os) ho
  have t7 := put_lst (fs' := putF ("others" : Str) (.ref o) [("price", .int p), ("taken", .ref t), ("tolls", .ref u)]) (so _ _ t5) J6.x
  have u7 := put_lst (fs' := putF ("others" : Str) (.ref o) [("price", .int p), ("taken", .ref t), ("tolls", .ref u)]) (so _ _ u5) J6.x
  have o7 := put_lst (fs' := putF ("others" : Str) (.ref o) [("price", .int p), ("taken", .ref t), ("tolls", .ref u)]) upd_same J6.x
  have ho0 := J5.free ho
  have nto : t ≠ o := ne_of_none t5 ho
  have nuo : u ≠ o := ne_of_none u5 ho
  rw [df3] at J7 t7 u7 o7 ⊢
  generalize (upd (upd H5 o _) x _ : Hp) = H7 at J7 t7 u7 o7 ⊢
  refine ⟨_, rfl, d, ws, rfl, .inl (SqL.of (J7.k _ _ hd nd)), fun v hv => ?_⟩
  have J8 := J7.new (o := .lst ws) hv
  refine ⟨_, rfl, x, _, dx, _, rfl, J8.x, C.cl, C.nv, by show 4 < 1000; decide, ?_⟩
  have J9 := J8.put (fs' := putF ("other_tolls" : Str) (.ref v) [("price", .int p), ("taken", .ref t), ("tolls", .ref u), ("others", .ref o)])
  have sv := Same.upd (o := .lst ws) hv
  have t9 := put_lst (fs' := putF ("other_tolls" : Str) (.ref v) [("price", .int p), ("taken", .ref t), ("tolls", .ref u), ("others", .ref o)]) (sv _ _ t7) J8.x
  have u9 := put_lst (fs' := putF ("other_tolls" : Str) (.ref v) [("price", .int p), ("taken", .ref t), ("tolls", .ref u), ("others", .ref o)]) (sv _ _ u7) J8.x
  have o9 := put_lst (fs' := putF ("other_tolls" : Str) (.ref v) [("price", .int p), ("taken", .ref t), ("tolls", .ref u), ("others", .ref o)]) (sv _ _ o7) J8.x
  have v9 := put_lst (fs' := putF ("other_tolls" : Str) (.ref v) [("price", .int p), ("taken", .ref t), ("tolls", .ref u), ("others", .ref o)]) upd_same J8.x
  have hv0 := J7.free hv
  have ntv : t ≠ v := ne_of_none t7 hv
  have nuv : u ≠ v := ne_of_none u7 hv
  have nov : o ≠ v := ne_of_none o7 hv
  rw [df4] at J9 t9 u9 o9 v9 ⊢
  generalize (upd (upd H7 v _) x _ : Hp) = H9 at J9 t9 u9 o9 v9 ⊢
  exact fin.setup hx J9 n fun H5 n5 x5 k5 l5 => q _ t u o v ht0 hu0 ho0 hv0 ntu nto ntv nuo nuv nov x5 (l5 _ _ t9) (l5 _ _ u9) (l5 _ _ o9) (l5 _ _ v9) k5 n5
end
end Spn

namespace Spn
open PySem PySem.Spec PyProof.Rows L2
section
variable {K : PySem.W.Frag} {w : World} {vs : List V} {H : Hp} {Q Q0 : VK} {E : XK}
theorem DueAt.same {H H' : Hp} {x t u o v : Addr} {p : Int} {T : List Int} {τ : List (Int × Int)} {O : List Int} {σ : List (Int × Int)} (D : DueAt K H x t u o v p T τ O σ) (s : Same H H') : DueAt K H' x t u o v p T τ O σ :=
  ⟨by obtain ⟨dx, h⟩ := D.ins; exact ⟨dx, s _ _ h⟩, s _ _ D.t, D.u.same s, s _ _ D.o, D.v.same s⟩
theorem due_fld {x t u o v : Addr} {p : Int} {T : List Int} {τ : List (Int × Int)} {O : List Int} {σ : List (Int × Int)} {f : Str} {y : V} {tb : TE} {σ' : L2.St} {Q : VK} (C : DueC K) (D : DueAt K H x t u o v p T τ O σ) (eb : ∀ Q : VK, Q (.ref x) H → tb σ' H Q) (n : NoAttr K (He.ga K "Due") f) (l : (dueF p t u o v).lookup f = some y) (k : Q y H) : tFld K tb f σ' H Q := by
  obtain ⟨dx, hx⟩ := D.ins
  exact rfld eb hx C.cl n l k
/-- requests + [(f, l, p)] -/
theorem rmore {a : Addr} {rs : List Rq} {f l p : Int} {ta tf tl tp : TE} {σ : L2.St} {Q : VK} (hr : ReqsAt H a rs) (z : rs.length ≤ 1000) (ea : ∀ Q : VK, Q (.ref a) H → ta σ H Q) (ef : ∀ Q : VK, Q (.int f) H → tf σ H Q) (el : ∀ Q : VK, Q (.int l) H → tl σ H Q) (ep : ∀ Q : VK, Q (.int p) H → tp σ H Q)
    (k : ∀ d H', Same H H' → (NoT H → NoT H') → H d = none → ReqsAt H' d (rs ++ [(f, l, p)]) → Q (.ref d) H') : tOp rCat ta (tLst (tCons (tTup (tCons tf (tCons tl (tCons tp tNil)))) tNil)) σ H Q := by
  obtain ⟨vs, e, pr⟩ := hr
  refine ea _ (ef _ (el _ (ep _ ⟨by show 3 ≤ sizeLine; decide, fun t ht => ⟨by show 1 ≤ sizeLine; decide, fun b hb => ?_⟩⟩)))
  have s1 := Same.upd (o := .tup [V.int f, .int l, .int p]) ht
  have s2 := Same.upd2 (o := .lst [V.ref t]) s1 hb
  refine ⟨a, b, vs, [.ref t], rfl, rfl, s2 _ _ e, upd_same, by rw [pr.length, sizeLine_eq]; show rs.length + 1 ≤ _; omega, fun d hd => ?_⟩
  have s3 := Same.upd2 (o := .lst (vs ++ [V.ref t])) s2 hd
  refine k d _ s3 (fun n => n.upd.upd.upd) (s2.free hd) ⟨_, upd_same, (pr.mono fun _ _ q => q.same s3).snoc ⟨t, rfl, ?_⟩⟩
  exact (Same.upd (o := .lst (vs ++ [V.ref t])) hd) _ _ ((Same.upd (o := .lst [V.ref t]) hb) _ _ upd_same)
theorem pure_Due_shows (C : DueC K) (h : sp_Due_shows K w vs H Q E) (fin : Fin H Q Q0) : t_Due_shows K w (endS Q0) (start ["self", "requests", "rooms", "first", "last", "more"] vs) H := by
  obtain ⟨x, t, u, o, v, a, m, f, l, p, rs, T, τ, O, σ, rfl, D, hr, z0, z1, z2, z3, z4, hm, n, q⟩ := h
  obtain ⟨rvs, ea, pr⟩ := id hr
  refine seq_i fun nx k => if_i fun th el h1 h2 => ?_
  try walk_at "rd"
  refine due_fld C D (fun Q h => ⟨_, rfl, h⟩) C.np (dk0 ..) ⟨_, _, rfl, IsWh.int, n, _, rfl, ?_⟩
  rw [if_neg (by decide)]
  refine due_fld C D (fun Q h => ⟨_, rfl, h⟩) C.np (dk0 ..) ⟨_, rfl, ?_⟩
  by_cases c0 : p < 0
  · rw [if_pos c0]
    refine h1 _ ?_
    try walk_at "rd"
    have e : dueShows rs m f l p T τ O σ = false := by
      unfold dueShows
      rw [decide_eq_false (by omega)]
      rfl
    rw [e] at q
    exact fin.same n (Same.refl H) q
  rw [if_neg c0]
  refine rlen_lst ea pr.length (due_fld C D (fun Q h => ⟨_, rfl, h⟩) C.nt (dk1 ..) (rnotin D.t ⟨_, rfl, ?_⟩))
  by_cases ci : (rs.length : Int) ∈ T
  case neg =>
    rw [decide_eq_false ci]
    refine iteT (h1 _ ?_)
    try walk_at "rd"
    have e : dueShows rs m f l p T τ O σ = false := by
      unfold dueShows
      rw [decide_eq_false ci, Bool.and_false]
      rfl
    rw [e] at q
    exact fin.same n (Same.refl H) q
  rw [decide_eq_true ci]
  refine iteF (h2 _ (k _ _ (seq_i fun nx2 k2 => ?_)))
  refine rmore hr (by omega) (fun Q h => ⟨_, rfl, h⟩) (fun Q h => ⟨_, rfl, h⟩) (fun Q h => ⟨_, rfl, h⟩) (fun Q h => due_fld C D (fun Q h => ⟨_, rfl, h⟩) C.np (dk0 ..) h) fun d H1 s1 n1 hd hmo => k2 _ _ (seq_i fun nx3 k3 => if_i fun th el h1 h2 => ?_)
  have n1 := n1 n
  have D1 := D.same s1
  have hr1 := hr.same s1
  try walk_at "rd"
  refine due_fld C D1 (fun Q h => ⟨_, rfl, h⟩) C.nt (dk1 ..) (due_fld C D1 (fun Q h => ⟨_, rfl, h⟩) C.nu (dk2 ..) ?_)
  refine ⟨d, m, t, u, rs ++ [(f, l, p)], T, τ, rfl, hmo, D1.t, D1.u, by rw [len_more]; omega, z1, z2, hm, n1, _, rfl, ?_⟩
  cases cb : isBest (rs ++ [(f, l, p)]) m T τ with
  | false =>
    refine iteT (h1 _ ?_)
    try walk_at "rd"
    have e : dueShows rs m f l p T τ O σ = false := by
      unfold dueShows
      rw [cb, Bool.and_false]
      rfl
    rw [e] at q
    exact fin.same n s1 q
  | true =>
  refine iteF (h2 _ (k3 _ _ (seq_i fun nx4 k4 => if_i fun th el h1 h2 => ?_)))
  try walk_at "rd"
  refine due_fld C D1 (fun Q h => ⟨_, rfl, h⟩) C.no (dk3 ..) (due_fld C D1 (fun Q h => ⟨_, rfl, h⟩) C.nv (dk4 ..) ?_)
  refine ⟨a, m, o, v, rs, O, σ, rfl, hr1, D1.o, D1.v, by omega, z3, z4, hm, n1, _, rfl, ?_⟩
  cases co : isBest rs m O σ with
  | false =>
    refine iteT (h1 _ ?_)
    try walk_at "rd"
    have e : dueShows rs m f l p T τ O σ = false := by
      unfold dueShows
      rw [co, Bool.and_false]
      rfl
    rw [e] at q
    exact fin.same n s1 q
  | true =>
  refine iteF (h2 _ (k4 _ _ ?_))
  try walk_at "rd"
  refine due_fld C D1 (fun Q h => ⟨_, rfl, h⟩) C.nt (dk1 ..) ⟨d, t, _, T, rfl, hmo, D1.t, (choice_iff.mp (isBest_iff.mp cb).1).2, by omega, n1, ?_⟩
  refine due_fld C D1 (fun Q h => ⟨_, rfl, h⟩) C.no (dk3 ..) ⟨a, o, rs, O, rfl, hr1, D1.o, (choice_iff.mp (isBest_iff.mp co).1).2, by omega, n1, ?_⟩
  refine req_int (fin.same n s1 ?_)
  have e : dueShows rs m f l p T τ O σ = decide (worth (rs ++ [(f, l, p)]) T = worth rs O) := by
    unfold dueShows
    rw [cb, co, decide_eq_true ci, decide_eq_true (by omega)]
    rfl
  rw [e] at q
  exact q
theorem pure__law_owed (C : DueC K) (h : sp__law_owed K w vs H Q E) (fin : Fin H Q Q0) : t__law_owed K w (endS Q0) (start ["_law_requests_here", "_law_rooms_here", "_law_first", "_law_last", "_law_found", "_law_more"] vs) H := by
  obtain ⟨x, t, u, o, v, a, m, f, l, p, rs, T, τ, O, σ, rfl, D, hr, z0, z1, z2, z3, z4, hm, n, q⟩ := h
  obtain ⟨rvs, ea, pr⟩ := id hr
  refine seq_i fun nx k => if_i fun th el h1 h2 => ?_
  try walk_at "rd"
  refine due_fld C D (fun Q h => ⟨_, rfl, h⟩) C.np (dk0 ..) ⟨_, _, rfl, IsWh.int, n, _, rfl, ?_⟩
  rw [if_neg (by decide)]
  refine due_fld C D (fun Q h => ⟨_, rfl, h⟩) C.np (dk0 ..) ⟨_, rfl, ?_⟩
  by_cases c0 : p < 0
  · rw [if_pos c0]
    refine h1 _ ?_
    try walk_at "rd"
    have e : dueShows rs m f l p T τ O σ = false := by
      unfold dueShows
      rw [decide_eq_false (by omega)]
      rfl
    rw [e] at q
    exact fin.same n (Same.refl H) q
  rw [if_neg c0]
  refine rlen_lst ea pr.length (due_fld C D (fun Q h => ⟨_, rfl, h⟩) C.nt (dk1 ..) (rnotin D.t ⟨_, rfl, ?_⟩))
  by_cases ci : (rs.length : Int) ∈ T
  case neg =>
    rw [decide_eq_false ci]
    refine iteT (h1 _ ?_)
    try walk_at "rd"
    have e : dueShows rs m f l p T τ O σ = false := by
      unfold dueShows
      rw [decide_eq_false ci, Bool.and_false]
      rfl
    rw [e] at q
    exact fin.same n (Same.refl H) q
  rw [decide_eq_true ci]
  refine iteF (h2 _ (k _ _ (seq_i fun nx2 k2 => ?_)))
  refine rmore hr (by omega) (fun Q h => ⟨_, rfl, h⟩) (fun Q h => ⟨_, rfl, h⟩) (fun Q h => ⟨_, rfl, h⟩) (fun Q h => due_fld C D (fun Q h => ⟨_, rfl, h⟩) C.np (dk0 ..) h) fun d H1 s1 n1 hd hmo => k2 _ _ (seq_i fun nx3 k3 => if_i fun th el h1 h2 => ?_)
  have n1 := n1 n
  have D1 := D.same s1
  have hr1 := hr.same s1
  try walk_at "rd"
  refine due_fld C D1 (fun Q h => ⟨_, rfl, h⟩) C.nt (dk1 ..) (due_fld C D1 (fun Q h => ⟨_, rfl, h⟩) C.nu (dk2 ..) ?_)
  refine ⟨d, m, t, u, rs ++ [(f, l, p)], T, τ, rfl, hmo, D1.t, D1.u, by rw [len_more]; omega, z1, z2, hm, n1, _, rfl, ?_⟩
  cases cb : isBest (rs ++ [(f, l, p)]) m T τ with
  | false =>
    refine iteT (h1 _ ?_)
    try walk_at "rd"
    have e : dueShows rs m f l p T τ O σ = false := by
      unfold dueShows
      rw [cb, Bool.and_false]
      rfl
    rw [e] at q
    exact fin.same n s1 q
  | true =>
  refine iteF (h2 _ (k3 _ _ (seq_i fun nx4 k4 => if_i fun th el h1 h2 => ?_)))
  try walk_at "rd"
  refine due_fld C D1 (fun Q h => ⟨_, rfl, h⟩) C.no (dk3 ..) (due_fld C D1 (fun Q h => ⟨_, rfl, h⟩) C.nv (dk4 ..) ?_)
  refine ⟨a, m, o, v, rs, O, σ, rfl, hr1, D1.o, D1.v, by omega, z3, z4, hm, n1, _, rfl, ?_⟩
  cases co : isBest rs m O σ with
  | false =>
    refine iteT (h1 _ ?_)
    try walk_at "rd"
    have e : dueShows rs m f l p T τ O σ = false := by
      unfold dueShows
      rw [co, Bool.and_false]
      rfl
    rw [e] at q
    exact fin.same n s1 q
  | true =>
  refine iteF (h2 _ (k4 _ _ ?_))
  try walk_at "rd"
  refine due_fld C D1 (fun Q h => ⟨_, rfl, h⟩) C.nt (dk1 ..) ⟨d, t, _, T, rfl, hmo, D1.t, (choice_iff.mp (isBest_iff.mp cb).1).2, by omega, n1, ?_⟩
  refine due_fld C D1 (fun Q h => ⟨_, rfl, h⟩) C.no (dk3 ..) ⟨a, o, rs, O, rfl, hr1, D1.o, (choice_iff.mp (isBest_iff.mp co).1).2, by omega, n1, ?_⟩
  refine req_int (fin.same n s1 ?_)
  have e : dueShows rs m f l p T τ O σ = decide (worth (rs ++ [(f, l, p)]) T = worth rs O) := by
    unfold dueShows
    rw [cb, co, decide_eq_true ci, decide_eq_true (by omega)]
    rfl
  rw [e] at q
  exact q
theorem cut_fm (n : Nat) (T : List Int) : T.filterMap (fun i => if (decide (i < (n : Int))) = true then some (V.int i) else none) = (cutN n T).map V.int := fm_filter (fun i => decide (i < (n : Int))) V.int T
theorem ok_more {rs : List Rq} {f l p : Int} (ok : OkR rs) (h1 : f ≤ l) (h2 : 0 ≤ p) : OkR (rs ++ [(f, l, p)]) := fun r hr => by
  rcases List.mem_append.mp hr with h | h
  · exact ok r h
  · rw [List.mem_singleton.mp h]; exact ⟨h1, h2⟩
theorem sum_nn {rs : List Rq} (ok : OkR rs) : 0 ≤ (rs.map (·.2.2)).sum := by
  have := choice_low ok (S := []) rfl
  simpa [worth] using this
theorem pure_due (h : sp_due K w vs H Q E) (fin : Fin H Q Q0) : t_due K w (endS Q0) (start ["requests", "rooms", "first", "last", "others", "other_tolls", "great", "taken", "beside", "price", "tolls", "at", "request"] vs) H := by
  obtain ⟨a, m, f, l, rs, rfl, hr, ok, zr, m1, fl, n, q⟩ := h
  refine seq_i fun nx k => ?_
  try walk_at "rd"
  refine ⟨a, rs, rfl, hr, ok, by omega, n, k _ _ (seq_i fun nx2 k2 => ?_)⟩
  try walk_at "rd"
  refine ⟨m, 1, rfl, m1, n, k2 _ _ (seq_i fun nx3 k3 => if_i fun th el h1 h2 => ?_)⟩
  try walk_at "rd"
  refine ⟨_, _, rfl, IsWh.int, n, _, rfl, ?_⟩
  rw [if_neg (by decide)]
  refine ⟨_, _, rfl, IsWh.int, n, _, rfl, ?_⟩
  rw [if_neg (by decide), if_neg (by omega)]
  refine h2 _ (k3 _ _ (seq_i fun nx4 k4 => ?_))
  try walk_at "rd"
  refine ⟨a, m, rs, rfl, hr, ok, by omega, by omega, n, fun H1 t1 po qo O σ s1 n1 ht1 hpo hqo npq et1 epo eqo bO zσ => ?_⟩
  refine gtup2 et1 (k4 _ _ (seq_i fun nx5 k5 => ?_))
  have hr1 := hr.same s1
  obtain ⟨rv1, er1, pr1⟩ := id hr1
  try walk_at "rd"
  refine tLc_list rs (fun r => some (.int r.2.2)) (fun R h => ⟨_, rfl, h⟩) er1 pr1 (le1000 (by omega)) (fun D v r acc Nx hD ⟨t, e, ht⟩ _ add _ => ?_) fun D hD => ?_
  · subst e
    try walk_at "rd"
    exact rix_tup (Same.upd hD _ _ ht) (by decide) rfl (add _ rfl)
  have sd := Same.upd (o := .lst (rs.filterMap fun r => some (V.int r.2.2))) hD
  refine sum_new (bs := rs.map (·.2.2)) (fm_map (fun r : Rq => r.2.2) V.int rs) ⟨_, rfl, k5 _ _ (seq_i fun nx6 k6 => ?_)⟩
  have s2 := s1.trans sd
  have n2 : NoT (upd H1 D (.lst (rs.filterMap fun r => some (V.int r.2.2)))) := n1.upd
  have epo2 := sd _ _ epo
  have eqo2 := eqo.same sd
  generalize (upd H1 D (.lst (rs.filterMap fun r => some (V.int r.2.2))) : Hp) = H2 at s2 n2 epo2 eqo2 ⊢
  have gn := sum_nn ok
  have zO := best_len bO
  -- with a great price
  refine rmore (hr.same s2) (by omega) (fun Q h => ⟨_, rfl, h⟩) (fun Q h => ⟨_, rfl, h⟩) (fun Q h => ⟨_, rfl, h⟩) (fun Q h => ⟨_, rfl, h⟩) fun d H3 s3 n3 hd hmo => ?_
  have n3 := n3 n2
  refine ⟨_, rfl, d, m, _, rfl, hmo, ok_more ok fl (by omega), by rw [len_more]; omega, by omega, n3, fun H4 t2 pt qt T τ' s4 n4 ht2 hpt hqt npt et2 ept _ bT zτ' => ?_⟩
  refine rix_tup et2 (by decide) rfl (k6 _ _ (seq_i fun nx7 k7 => ?_))
  have zT := best_len bT
  rw [len_more] at zT
  have s24 := s3.trans s4
  have s04 := s2.trans s24
  have hr4 := hr.same s04
  obtain ⟨rv4, er4, pr4⟩ := id hr4
  have epo4 := s24 _ _ epo2
  have eqo4 := eqo2.same s24
  have cb := choice_pw (isBest_iff.mp bT).1
  rw [len_more] at cb
  try walk_at "rd"
  refine tLc_list T (fun i => if (decide (i < (rs.length : Int))) = true then some (.int i) else none) (fun R h => ⟨_, rfl, h⟩) ept (ints_paired T) (le1000 (by omega)) (fun D v i acc Nx hD e _ add skip => ?_) fun D hD => ?_
  · subst e
    try walk_at "rd"
    refine rlen_lst (Same.upd hD _ _ er4) pr4.length ?_
    try walk_at "rd"
    by_cases c : i < (rs.length : Int)
    · rw [if_pos c]
      exact add _ (if_pos (decide_eq_true c))
    · rw [if_neg c]
      exact skip (if_neg fun z => c (of_decide_eq_true z))
  rw [cut_fm]
  have s5 := Same.upd (o := .lst ((cutN rs.length T).map V.int)) hD
  have cc : isChoice rs.length (cutN rs.length T) = true := choice_cut (isBest_iff.mp bT).1
  have zc := choice_len cc
  refine ⟨a, D, rs, cutN rs.length T, rfl, hr4.same s5, upd_same, (choice_iff.mp cc).2, by omega, n4.upd, k7 _ _ (seq_i fun nx8 k8 => ?_)⟩
  have s05 := s04.trans s5
  have n5 : NoT (upd H4 D (.lst ((cutN rs.length T).map V.int))) := n4.upd
  have epo5 := s5 _ _ epo4
  have eqo5 := eqo4.same s5
  have ept5 := s5 _ _ ept
  generalize (upd H4 D (.lst ((cutN rs.length T).map V.int)) : Hp) = H5 at s5 s05 n5 epo5 eqo5 ept5 ⊢
  try walk_at "rd"
  refine ⟨a, po, rs, O, rfl, hr.same s05, epo5, (choice_iff.mp (isBest_iff.mp bO).1).2, by omega, n5, _, rfl, k8 _ _ (seq_i fun nx9 k9 => ?_)⟩
  obtain ⟨le, _⟩ := due_all ok m1 bO bT
  refine rmore (hr.same s05) (by omega) (fun Q h => ⟨_, rfl, h⟩) (fun Q h => ⟨_, rfl, h⟩) (fun Q h => ⟨_, rfl, h⟩) (fun Q h => ⟨_, rfl, h⟩) fun d2 H6 s6 n6 hd2 hmo2 => ?_
  have n6 := n6 n5
  refine ⟨_, rfl, d2, m, _, rfl, hmo2, ok_more ok fl (by omega), by rw [len_more]; omega, by omega, n6, fun H7 t3 pS qS S τ s7 n7 ht3 hpS hqS npS et3 epS eqS bS zτ => ?_⟩
  refine rix_tup et3 (by decide) rfl (k9 _ _ ?_)
  have dk := due_ok ok m1 bO bT bS
  have s57 := s6.trans s7
  have s07 := s05.trans s57
  have epo7 := s57 _ _ epo5
  have ept7 := s57 _ _ ept5
  obtain ⟨us, eus, pus⟩ := eqS
  obtain ⟨ws, ews, pws⟩ := eqo5.same s57
  refine ⟨_, rfl, _, rfl, _, rfl, _, rfl, _, rfl, fun x dx hx hd nx0 => ?_⟩
  have sA := Same.upd (o := .own x) hd
  have hxA : (upd H7 dx (.own x)) x = none := by rw [upd_ne nx0.symm]; exact hx
  have sB := Same.upd2 (o := .ins (He.ga K "Due") dx []) sA hxA
  refine ⟨x, dx, _, pt, qS, po, qo, _, us, _, ws, rfl, upd_same, sB _ _ ept7, sB _ _ eus, sB _ _ epo7, sB _ _ ews, n7.upd.upd, fun H8 t u o v ht hu ho hv ntu nto ntv nuo nuv nov ex et eu eo ev keep n8 => ⟨rfl, ?_⟩⟩
  have ed : H8 dx = some (.own x) := keep _ _ (by rw [upd_ne nx0, upd_same]) nx0
  have k78 : ∀ b o, H7 b = some o → H8 b = some o := fun b o e => keep b o (sB b o e) (ne_of_none e hx)
  have s08 : Same H H8 := fun b o e => k78 b o (s07 b o e)
  have tk78 : TK H7 H8 := fun b xs e => k78 b _ e
  have hx0 := s07.free hx
  have hd0 := s07.free hd
  have f1 : ∀ z, (upd (upd H7 dx (.own x)) x (.ins (He.ga K "Due") dx [])) z = none → H z = none := fun z hz => s07.free (sB.free hz)
  have tl : ∀ b xs, H8 b = some (.tup xs) → lxH H H8 x dx (.ins (He.ga K "Due") dx (dueF _ t u o v)) b = some (.tup xs) := fun b xs h => lxH_tup ex ed h
  refine fin _ _ _ (lxH_shr n s08 hx0 hd0 nx0 ex ed) (q _ x t u o v _ T τ O σ (lxH_same s08 hx0 hd0) (lxH_shr n s08 hx0 hd0 nx0 ex ed).noT hx0 (f1 _ ht) (f1 _ hu) (f1 _ ho) (f1 _ hv) nto nuo nov ntu ntv nuv ⟨⟨dx, upd_same⟩, lxH_lst ex ed et, ⟨us, lxH_lst ex ed eu, (pus.mono fun _ _ q => q.keep tk78).mono fun _ _ q => q.keep tl⟩, lxH_lst ex ed eo, ⟨ws, lxH_lst ex ed ev, (pws.mono fun _ _ q => q.keep tk78).mono fun _ _ q => q.keep tl⟩⟩ dk (by omega) zτ (by omega) zσ)
end
end Spn

namespace Spn
/-! ### a room for each request -/
def fI (F : List Int) (a : Int) : Int := F.getD a.toNat 0
theorem fI_set {F : List Int} {a b r : Int} (ha : 0 ≤ a) (hb : 0 ≤ b) (hl : b < F.length) : fI (F.set b.toNat r) a = if a = b then r else fI F a := by
  unfold fI
  simp only [List.getD_eq_getElem?_getD, List.getElem?_set]
  by_cases c : a = b
  · subst c
    have : a.toNat < F.length := by omega
    simp [this]
  · rw [if_neg (by omega), if_neg c]
theorem forDay_mem {rs : List Rq} {P : List Int} {d a : Int} : a ∈ forDay rs P d ↔ a ∈ P ∧ covers (getR rs a) d = true := List.mem_filter
theorem forDay_snoc (rs : List Rq) (P : List Int) (b d : Int) : forDay rs (P ++ [b]) d = forDay rs P d ++ if covers (getR rs b) d = true then [b] else [] := by
  unfold forDay
  rw [List.filter_append]
  by_cases c : covers (getR rs b) d = true
  · rw [if_pos c]; simp [c]
  · rw [if_neg c]; simp [c]
structure LoI (rs : List Rq) (m : Int) (P F : List Int) : Prop where
  len : F.length = rs.length
  inr : ∀ a ∈ P, 0 ≤ a ∧ a < rs.length
  old : ∀ a : Int, 0 ≤ a → a < rs.length → a ∉ P → fI F a = -1
  rooms : ∀ a ∈ P, 0 ≤ fI F a ∧ fI F a < m
  dif : ∀ a ∈ P, ∀ b ∈ P, a ≠ b → ∀ d, covers (getR rs a) d = true → covers (getR rs b) d = true → fI F a ≠ fI F b
  cnt : ∀ a ∈ P, ((forDay rs P (getR rs a).1).length : Int) ≤ m
theorem LoI.start (rs : List Rq) (m : Int) : LoI rs m [] (List.replicate rs.length (-1)) := by
  refine ⟨List.length_replicate, fun a h => (by cases h), fun a h0 h1 _ => ?_, fun a h => (by cases h), fun a h => (by cases h), fun a h => (by cases h)⟩
  unfold fI
  rw [List.getD_eq_getElem?_getD, List.getElem?_replicate, if_pos (by omega)]
  rfl
theorem getR_ok {rs : List Rq} (ok : OkR rs) {a : Int} (h0 : 0 ≤ a) (h1 : a < rs.length) : (getR rs a).1 ≤ (getR rs a).2.1 ∧ 0 ≤ (getR rs a).2.2 := ok _ (getD_mem (by omega))
theorem LoI.turn {rs : List Rq} {m b r : Int} {P F : List Int} (ok : OkR rs) (I : LoI rs m P F) (hb : b ∉ P) (b0 : 0 ≤ b) (b1 : b < rs.length) (late : ∀ a ∈ P, (getR rs a).1 ≤ (getR rs b).1)
    (hm : ((forDay rs (P ++ [b]) (getR rs b).1).length : Int) ≤ m) (r0 : 0 ≤ r) (rn : r ∉ (forDay rs (P ++ [b]) (getR rs b).1).map (fI F)) (rl : ∀ k : Int, 0 ≤ k → k < r → k ∈ (forDay rs (P ++ [b]) (getR rs b).1).map (fI F)) : LoI rs m (P ++ [b]) (F.set b.toNat r) := by
  have own : covers (getR rs b) (getR rs b).1 = true := covers_iff.mpr ⟨Int.le_refl _, (getR_ok ok b0 b1).1⟩
  have fb : fI F b = -1 := I.old b b0 b1 hb
  have th := forDay_snoc rs P b (getR rs b).1
  rw [if_pos own] at th
  have b1' : b < F.length := by rw [I.len]; exact b1
  have rb : r < m := by
    have sub : (List.range r.toNat).length ≤ (forDay rs P (getR rs b).1).length := by
      have := sub_length (ks := (List.range r.toNat).map Int.ofNat) (ms := (forDay rs P (getR rs b).1).map (fI F)) (List.pairwise_map.mpr (List.pairwise_lt_range.imp fun h => Int.ofNat_lt.mpr h)) fun k hk => by
        obtain ⟨j, hj, rfl⟩ := List.mem_map.mp hk
        have hj := List.mem_range.mp hj
        have z := rl j (Int.natCast_nonneg j) (by omega)
        rw [th, List.map_append, List.mem_append] at z
        rcases z with z | z
        · exact z
        · have e : (j : Int) = fI F b := List.mem_singleton.mp z
          rw [fb] at e
          omega
      rw [List.length_map, List.length_map] at this
      exact this
    rw [List.length_range] at sub
    rw [th, List.length_append] at hm
    have : ([b] : List Int).length = 1 := rfl
    omega
  have setE : ∀ a : Int, 0 ≤ a → a ≠ b → fI (F.set b.toNat r) a = fI F a := fun a h0 h => by rw [fI_set h0 b0 b1', if_neg h]
  have setB : fI (F.set b.toNat r) b = r := by rw [fI_set b0 b0 b1', if_pos rfl]
  have neb : ∀ a ∈ P, a ≠ b := fun a h z => hb (z ▸ h)
  -- who comes later and shares a day asks for the first day, too
  have share : ∀ a ∈ P, ∀ d, covers (getR rs a) d = true → covers (getR rs b) d = true → a ∈ forDay rs P (getR rs b).1 := fun a ha d h1 h2 => by
    obtain ⟨x1, x2⟩ := covers_iff.mp h1
    obtain ⟨y1, y2⟩ := covers_iff.mp h2
    exact forDay_mem.mpr ⟨ha, covers_iff.mpr ⟨late a ha, by omega⟩⟩
  have rdif : ∀ a ∈ P, ∀ d, covers (getR rs a) d = true → covers (getR rs b) d = true → fI F a ≠ r := fun a ha d h1 h2 e => by
    refine rn ?_
    rw [th, List.map_append]
    exact List.mem_append_left _ (List.mem_map.mpr ⟨a, share a ha d h1 h2, e⟩)
  refine ⟨by rw [List.length_set]; exact I.len, fun a ha => ?_, fun a h0 h1 ha => ?_, fun a ha => ?_, fun a ha c hc ne d h1 h2 => ?_, fun a ha => ?_⟩
  · rcases List.mem_append.mp ha with h | h
    · exact I.inr a h
    · rw [List.mem_singleton.mp h]; exact ⟨b0, b1⟩
  · have e : a ≠ b := fun z => ha (List.mem_append_right _ (List.mem_singleton.mpr z))
    rw [setE a h0 e]
    exact I.old a h0 h1 fun z => ha (List.mem_append_left _ z)
  · rcases List.mem_append.mp ha with h | h
    · rw [setE a (I.inr a h).1 (neb a h)]
      exact I.rooms a h
    · rw [List.mem_singleton.mp h, setB]; exact ⟨r0, rb⟩
  · rcases List.mem_append.mp ha with h | h
    · rw [setE a (I.inr a h).1 (neb a h)]
      rcases List.mem_append.mp hc with k | k
      · rw [setE c (I.inr c k).1 (neb c k)]
        exact I.dif a h c k ne d h1 h2
      · have e := List.mem_singleton.mp k
        subst e
        rw [setB]
        exact rdif a h d h1 h2
    · have e := List.mem_singleton.mp h
      subst e
      rw [setB]
      rcases List.mem_append.mp hc with k | k
      · rw [setE c (I.inr c k).1 (neb c k)]
        exact fun z => rdif c k d h2 h1 z.symm
      · exact absurd (List.mem_singleton.mp k).symm ne
  · rcases List.mem_append.mp ha with h | h
    · by_cases c : covers (getR rs b) (getR rs a).1 = true
      · have e : (getR rs a).1 = (getR rs b).1 := by
          have := (covers_iff.mp c).1
          have := late a h
          omega
        rw [e]
        exact hm
      · rw [forDay_snoc, if_neg c, List.append_nil]
        exact I.cnt a h
    · rw [List.mem_singleton.mp h]
      exact hm
/-- whether rooms are as is asked -/
def lodShows (rs : List Rq) (m : Int) (R : List Int) : Bool := decide (R.length = rs.length) && (R.all fun r => decide (0 ≤ r) && decide (r < m)) &&
  ((every rs.length).all fun a => decide (((forDay rs (every rs.length) (getR rs a).1).filter fun b => decide (fI R b = fI R a)).length ≤ 1))
def crowdShows (rs : List Rq) (m d : Int) (A : List Int) : Bool := isChoice rs.length A && decide (m < A.length) && decide (forDay rs A d = A)
theorem mem_every {n : Nat} {a : Int} : a ∈ every n ↔ 0 ≤ a ∧ a < n := by
  unfold every
  rw [List.mem_map]
  constructor
  · rintro ⟨k, h, rfl⟩
    have := List.mem_range.mp h
    exact ⟨Int.natCast_nonneg k, Int.ofNat_lt.mpr this⟩
  · rintro ⟨h0, h1⟩
    exact ⟨a.toNat, List.mem_range.mpr (by omega), by show ((a.toNat : Nat) : Int) = a; omega⟩
theorem every_pw (n : Nat) : (every n).Pairwise (· < ·) := List.pairwise_map.mpr (List.pairwise_lt_range.imp fun h => Int.ofNat_lt.mpr h)
theorem one_most {a : Int} : ∀ {l : List Int}, l.Pairwise (· < ·) → (∀ b ∈ l, b = a) → l.length ≤ 1
  | [], _, _ => Nat.zero_le _
  | [_], _, _ => Nat.le_refl _
  | x :: y :: r, pw, h => by
    have := (List.pairwise_cons.mp pw).1 y List.mem_cons_self
    have := h x List.mem_cons_self
    have := h y (List.mem_cons_of_mem _ List.mem_cons_self)
    omega
theorem all_getI {R : List Int} {p : Int → Bool} (h : ∀ a : Int, 0 ≤ a → a < R.length → p (fI R a) = true) : R.all p = true := by
  refine List.all_eq_true.mpr fun r hr => ?_
  obtain ⟨i, hi, e⟩ := List.mem_iff_getElem.mp hr
  have := h i (Int.natCast_nonneg i) (by omega)
  unfold fI at this
  rw [List.getD_eq_getElem?_getD, Int.toNat_natCast, List.getElem?_eq_getElem hi] at this
  rw [← e]
  exact this
theorem LoI.done {rs : List Rq} {m : Int} {P F : List Int} (ok : OkR rs) (I : LoI rs m P F) (hp : P.Perm (every rs.length)) : lodShows rs m F = true ∧ ∀ a ∈ every rs.length, ((forDay rs (every rs.length) (getR rs a).1).length : Int) ≤ m := by
  have mem : ∀ a, a ∈ P ↔ 0 ≤ a ∧ a < rs.length := fun a => hp.mem_iff.trans mem_every
  constructor
  · unfold lodShows
    rw [Bool.and_eq_true, Bool.and_eq_true]
    refine ⟨⟨decide_eq_true I.len, all_getI fun a h0 h1 => ?_⟩, List.all_eq_true.mpr fun a ha => decide_eq_true ?_⟩
    · obtain ⟨x, y⟩ := I.rooms a ((mem a).mpr ⟨h0, by rw [← I.len]; exact h1⟩)
      rw [decide_eq_true x, decide_eq_true y]
      rfl
    · refine one_most (a := a) (((every_pw rs.length).filter _).filter _) fun b hb => ?_
      obtain ⟨h1, h2⟩ := List.mem_filter.mp hb
      obtain ⟨h3, h4⟩ := forDay_mem.mp h1
      refine Decidable.byContradiction fun ne => ?_
      have ra := mem_every.mp ha
      exact I.dif b (hp.mem_iff.mpr h3) a (hp.mem_iff.mpr ha) ne _ h4 (covers_iff.mpr ⟨Int.le_refl _, (getR_ok ok ra.1 ra.2).1⟩) (of_decide_eq_true h2)
  · intro a ha
    have := I.cnt a (hp.mem_iff.mpr ha)
    have e : (forDay rs P (getR rs a).1).length = (forDay rs (every rs.length) (getR rs a).1).length := (hp.filter _).length_eq
    rw [← e]
    exact this
/-- a day with too many -/
theorem crowd_ok {rs : List Rq} {m b : Int} {P A : List Int} (nd : P.Nodup) (inr : ∀ a ∈ P, 0 ≤ a ∧ a < rs.length) (hm : m < (forDay rs P b).length) (hp : A.Perm (forDay rs P b)) (hs : A.Pairwise (· ≤ ·)) :
    crowdShows rs m b A = true ∧ m < (forDay rs (every rs.length) b).length := by
  have mem : ∀ a, a ∈ A ↔ a ∈ P ∧ covers (getR rs a) b = true := fun a => hp.mem_iff.trans forDay_mem
  have ndA : A.Nodup := hp.nodup_iff.mpr (nd.filter _)
  have pw : A.Pairwise (· < ·) := (hs.and ndA).imp fun {x y} h => by
    have h1 : x ≤ y := h.1
    have h2 : x ≠ y := h.2
    omega
  have len := hp.length_eq
  constructor
  · unfold crowdShows
    rw [choice_iff.mpr ⟨pw, fun z hz => inr z ((mem z).mp hz).1⟩, decide_eq_true (by omega), decide_eq_true]
    · rfl
    · exact List.filter_eq_self.mpr fun a ha => ((mem a).mp ha).2
  · have := sub_length (ms := forDay rs (every rs.length) b) pw fun a ha => by
      obtain ⟨h1, h2⟩ := (mem a).mp ha
      exact forDay_mem.mpr ⟨mem_every.mpr (inr a h1), h2⟩
    omega
/-- as the law asks it -/
def lodDue (rs : List Rq) (m : Int) (R : List Int) : Bool := decide (R.length = rs.length) && (R.all fun r => decide (0 ≤ r) && decide (r < m)) &&
  ((every rs.length).all fun a => decide (forDay rs ((every rs.length).filter fun b => decide (fI R b = fI R a)) (getR rs a).1 = [a]))
theorem lod_eq {rs : List Rq} (ok : OkR rs) (m : Int) (R : List Int) : lodDue rs m R = lodShows rs m R := by
  unfold lodDue lodShows
  refine congrArg (fun z => (decide (R.length = rs.length) && (R.all fun r => decide (0 ≤ r) && decide (r < m))) && z) ?_
  rw [Bool.eq_iff_iff, List.all_eq_true, List.all_eq_true]
  refine forall_congr' fun a => forall_congr' fun ha => ?_
  have e : forDay rs ((every rs.length).filter fun b => decide (fI R b = fI R a)) (getR rs a).1 = (forDay rs (every rs.length) (getR rs a).1).filter fun b => decide (fI R b = fI R a) := by
    unfold forDay
    rw [List.filter_filter, List.filter_filter]
    exact List.filter_congr fun z _ => Bool.and_comm _ _
  rw [e, decide_eq_true_iff, decide_eq_true_iff]
  have ra := mem_every.mp ha
  have own : a ∈ (forDay rs (every rs.length) (getR rs a).1).filter fun b => decide (fI R b = fI R a) :=
    List.mem_filter.mpr ⟨forDay_mem.mpr ⟨ha, covers_iff.mpr ⟨Int.le_refl _, (getR_ok ok ra.1 ra.2).1⟩⟩, decide_eq_true rfl⟩
  constructor
  · intro h
    rw [h]
    exact Nat.le_refl _
  · intro h
    cases q : (forDay rs (every rs.length) (getR rs a).1).filter fun b => decide (fI R b = fI R a) with
    | nil => rw [q] at own; cases own
    | cons x t =>
      rw [q] at own h
      cases t with
      | nil => rw [List.mem_singleton.mp own]
      | cons y u =>
        rw [List.length_cons, List.length_cons] at h
        omega
theorem lod_more {rs : List Rq} {m x : Int} {R : List Int} (h : lodShows rs m R = true) : lodShows rs m (R ++ [x]) = false := by
  unfold lodShows at h ⊢
  rw [Bool.and_eq_true, Bool.and_eq_true] at h
  have := of_decide_eq_true h.1.1
  rw [List.length_append, decide_eq_false (by show ¬ R.length + 1 = _; omega)]
  rfl
theorem crowd_more {rs : List Rq} {m d : Int} {A : List Int} : crowdShows rs m d (A ++ [-1]) = false := by
  unfold crowdShows
  have : isChoice rs.length (A ++ [-1]) = false := by
    rw [Bool.eq_false_iff]
    intro h
    have := (choice_iff.mp h).2 (-1) (List.mem_append_right _ (List.mem_singleton.mpr rfl))
    omega
  rw [this]
  rfl
end Spn

namespace Spn
open PySem PySem.Spec PyProof.Rows L2 LamX
/-! ### a lambda as a value -/
/-- the object at f is the lambda of these words -/
def LamO (f : Addr) (q : Str) (ar : Arguments) (bd : Expr) (sc : Scope) (cl : List (Str × Addr)) (cc : Addr) : HO := .ext fun h => ∃ pm ctv : Value, h.get? f = some (PySem.W.kla_obj "<lambda>" q ar bd sc cl pm cc ctv)
section
variable {X : Cx} {pins : List (Addr × Obj)} {σ : L2.St} {H : Hp} {s : Shared}
theorem inv_lam {q : Str} {ar : Arguments} {bd : Expr} {sc : Scope} {cl : List (Str × Addr)} {cc : Addr} {pm ctv : Value} {tk : Nat} (I : Inv X pins σ H s) :
    Inv X pins σ (upd H s.heap.objs.size (LamO s.heap.objs.size q ar bd sc cl cc)) { s with heap := s.heap.push (PySem.W.kla_obj "<lambda>" q ar bd sc cl pm cc ctv), toks := tk } := by
  have e : (s.heap.push (PySem.W.kla_obj "<lambda>" q ar bd sc cl pm cc ctv)).get? s.heap.objs.size = some (PySem.W.kla_obj "<lambda>" q ar bd sc cl pm cc ctv) := Heap.get?_push_size _ rfl
  exact I.laid (a := s.heap.objs.size) (fun b u z => Heap.get?_push_of_some _ z) (Nat.le_refl _) ⟨⟨pm, ctv, e⟩, ⟨_, e⟩, fun _ _ ⟨p, t, z⟩ st => ⟨p, t, st _ z⟩⟩
/-- tables stay tables -/
def TbN (H H' : Hp) : Prop := ∀ b ps, H b = some (.tbl ps) → ∃ qs, H' b = some (.tbl qs)
/-- all stays, tables but as tables -/
structure ExT (H H' : Hp) : Prop where
  e : ExtN H H'
  t : TbN H H'
theorem ExT.of {H H' : Hp} (s : ∀ b o, H b = some o → H' b = some o) : ExT H H' := ⟨ExtN.of s, fun b ps e => ⟨ps, s b _ e⟩⟩
theorem ExT.trans {H H1 H2 : Hp} (a : ExT H H1) (b : ExT H1 H2) : ExT H H2 := ⟨a.e.trans b.e, fun c ps e => by
  obtain ⟨qs, e1⟩ := a.t c ps e
  exact b.t c qs e1⟩
theorem ExT.at_ {H H' : Hp} {b : Addr} {o : HO} (a : ExT H H') (h : H b = some o) (n : ∀ ps, o ≠ .tbl ps) : H' b = some o := a.e b o h n
theorem ExT.free {H H' : Hp} {b : Addr} (a : ExT H H') (h : H' b = none) : H b = none := by
  cases e : H b with
  | none => rfl
  | some o =>
    by_cases t : ∃ ps, o = .tbl ps
    · obtain ⟨ps, rfl⟩ := t
      obtain ⟨qs, z⟩ := a.t b ps e
      rw [h] at z
      cases z
    · have := a.e b o e fun ps z => t ⟨ps, z⟩
      rw [h] at this
      cases this
/-- the reading of a lambda that captures names -/
def tLamV (X : Cx) (T : List (Addr × Str)) (ar : Arguments) (bd : Expr) (sc : Scope) : TE := fun σ H Q => Tabs T H ∧ ∀ (f cc : Addr) (H1 : Hp), ExT H H1 → Tabs T H1 → (NoT H → NoT H1) → H f = none →
  H1 f = some (LamO f (X.env.qual ++ "<lambda>") ar bd sc (cloFrom X.env.cells sc.names []) cc) → H1 cc = some (CodeO cc (X.env.qual ++ "<lambda>")) → Q (.ref f) H1
theorem pe_lamV {T : List (Addr × Str)} {c P : Addr} {ar : Arguments} {bd : Expr} {sc : Scope} {pos : Pos} (TB : TabB X.base X.mg c P) (hcode : X.env.code = .ref c) (hm : (P, X.env.qual ++ "<lambda>") ∈ T) (hu : ∀ p ∈ T, p.1 = P → p.2 = X.env.qual ++ "<lambda>")
    (hdef : defaultsOf ar X.env = ([], [])) (hfree : X.Ok → ∀ y ∈ sc.names, y.2 = .free → ∃ c, X.env.cells.lookup y.1 = some c) : PE X (.Lambda ar bd sc pos) (tLamV X T ar bd sc) := by
  refine ⟨fun pins s σ H Q I ⟨hT, h⟩ => ?_⟩
  obtain ⟨ps, hP, tr, among⟩ := hT _ hm
  have hf := hfree I.ok
  have built : s.heap.BuiltinsAt X.mg P := TB.bm.keeps I.bk
  have atP : s.heap.get? P = some { cls := .none, data := .fields ps } := I.hok P _ hP
  refine PySem.W.kla_eval hdef ?_
  cases found : codeAmong pos ps.toList with
  | some cv =>
    obtain ⟨cc, rfl, hco⟩ := among pos cv found
    refine PySem.W.kla_makeFunctionHit (mg := X.mg) (c := c) (P := P) (ps := ps) (closure_ok hf) I.ok.glob (I.mod.glob.keeps I.bk) hcode (TB.code.keeps I.bk) atP tr found built fun ctv h1 tk kp size => ?_
    have I1 : Inv X pins σ H { s with heap := h1, toks := tk } := I.kept kp
    have nF : H h1.objs.size = none := I1.hok.fresh (Nat.le_refl _)
    have I2 := inv_lam (q := X.env.qual ++ "<lambda>") (ar := ar) (bd := bd) (sc := sc) (cl := cloFrom X.env.cells sc.names []) (cc := cc) (pm := (X.mg "__name__").getD .none) (ctv := ctv) (tk := tk) I1
    have st : ∀ b o, H b = some o → (upd H h1.objs.size (LamO h1.objs.size (X.env.qual ++ "<lambda>") ar bd sc (cloFrom X.env.cells sc.names []) cc)) b = some o := fun b o e => (upd_ne (ne_of_none e nF)).trans e
    exact ⟨.ref h1.objs.size, _, I2, rfl, h h1.objs.size cc _ (ExT.of st) (hT.ext st) (fun n => n.upd) nF upd_same (st _ _ hco)⟩
  | none =>
    refine PySem.W.kla_makeFunction (mg := X.mg) (c := c) (P := P) (ps := ps) (closure_ok hf) I.ok.glob (I.mod.glob.keeps I.bk) hcode (TB.code.keeps I.bk) atP tr found TB.gP built fun cc ctv h1 tk kp ge lt rec tab => ?_
    obtain ⟨c2, oc, vs, t, e2, hoc, hd, hv⟩ := rec
    cases e2
    have nC : H cc = none := I.hok.fresh ge
    have I1 := inv_table (t' := tk) (more := #[rawInt pos.line, rawInt pos.col, .ref cc]) (h' := h1) I hP (fun b o hb e => kp b o hb e) tab ge ⟨oc, vs, t, hoc, hd, hv⟩
    have ex : ExtN H (upd (upd H P (.tbl (ps ++ #[rawInt pos.line, rawInt pos.col, .ref cc]))) cc (CodeO cc (X.env.qual ++ "<lambda>"))) := fun b o e n => by
      rw [upd_ne (ne_of_none e nC), upd_ne fun z => n ps (Option.some.inj (e.symm.trans (by rw [z]; exact hP)))]
      exact e
    have eL : (ps ++ #[rawInt pos.line, rawInt pos.col, .ref cc]).toList = ps.toList ++ [rawInt pos.line, rawInt pos.col, .ref cc] := by simp
    have T1 : Tabs T (upd (upd H P (.tbl (ps ++ #[rawInt pos.line, rawInt pos.col, .ref cc]))) cc (CodeO cc (X.env.qual ++ "<lambda>"))) := fun p hp => by
      by_cases hb : p.1 = P
      · rw [hu p hp hb, hb]
        refine ⟨_, by rw [upd_ne (ne_of_none hP nC), upd_same], by rw [eL]; exact PySem.TriplesOk_snoc _ _ _ _ tr, fun p' cv hcv => ?_⟩
        rw [eL] at hcv
        rcases among_app _ tr hcv with z | z
        · obtain ⟨c0, e1, e2⟩ := among p' cv z
          exact ⟨c0, e1, ex _ _ e2 codeO_ne⟩
        · exact ⟨cc, z, upd_same⟩
      · obtain ⟨ps', a1, a2, a3⟩ := hT p hp
        refine ⟨ps', (upd_ne (ne_of_none a1 nC)).trans ((upd_ne hb).trans a1), a2, fun p' cv hcv => ?_⟩
        obtain ⟨c0, e1, e2⟩ := a3 p' cv hcv
        exact ⟨c0, e1, ex _ _ e2 codeO_ne⟩
    have nF := I1.hok.fresh (Nat.le_refl _)
    have I2 := inv_lam (q := X.env.qual ++ "<lambda>") (ar := ar) (bd := bd) (sc := sc) (cl := cloFrom X.env.cells sc.names []) (cc := cc) (pm := (X.mg "__name__").getD .none) (ctv := ctv) (tk := tk) I1
    have st : ∀ b o, (upd (upd H P (.tbl (ps ++ #[rawInt pos.line, rawInt pos.col, .ref cc]))) cc (CodeO cc (X.env.qual ++ "<lambda>"))) b = some o → (upd (upd (upd H P (.tbl (ps ++ #[rawInt pos.line, rawInt pos.col, .ref cc]))) cc (CodeO cc (X.env.qual ++ "<lambda>"))) h1.objs.size (LamO h1.objs.size (X.env.qual ++ "<lambda>") ar bd sc (cloFrom X.env.cells sc.names []) cc)) b = some o := fun b o e => (upd_ne (ne_of_none e nF)).trans e
    have tb : ∀ b qs, H b = some (.tbl qs) → ∃ q2, (upd (upd (upd H P (.tbl (ps ++ #[rawInt pos.line, rawInt pos.col, .ref cc]))) cc (CodeO cc (X.env.qual ++ "<lambda>"))) h1.objs.size (LamO h1.objs.size (X.env.qual ++ "<lambda>") ar bd sc (cloFrom X.env.cells sc.names []) cc)) b = some (.tbl q2) := fun b qs e => by
      by_cases hb : b = P
      · subst hb
        exact ⟨_, st _ _ ((upd_ne (ne_of_none hP nC)).trans upd_same)⟩
      · exact ⟨qs, st _ _ ((upd_ne (ne_of_none e nC)).trans ((upd_ne hb).trans e))⟩
    exact ⟨.ref h1.objs.size, _, I2, rfl, h h1.objs.size cc _ ⟨fun b o e n => st _ _ (ex b o e n), fun b qs e => tb b qs e⟩ (T1.ext st) (fun n => n.upd.upd.upd) (I.hok.fresh (Nat.le_trans ge (Nat.le_of_lt lt))) upd_same (st _ _ upd_same)⟩
end
/-! ### a range as a value -/
def RgO (r : Addr) (n : Nat) : HO := .ext fun h => ∃ t u v : Tok, IsRange h r 0 (n : Int) 1 t u v
def tRgV (ta : TE) : TE := fun σ H Q => ta σ H fun x H1 => ∃ n : Nat, x = .int n ∧ ∀ r, H1 r = none → Q (.ref r) (upd H1 r (RgO r n))
theorem pe_rgV {X : Cx} {a : Expr} {ta : TE} {p pos : Pos} (hg : Gl X "range") (hm : X.mg "range" = none) (ha : PE X a ta) (na : starEach [a] X.env = (false, eval a X.env) :: starEach [] X.env := by rfl) : PE X (.Call (.Name "range" p) [a] [] pos) (tRgV ta) := by
  refine ⟨fun pins s σ H Q I h => ?_⟩
  refine Call_ (ld_blt I hg hm boot_range (PyProof.Rows.callWith_type1 (one_arg ha I h (fun v s2 x H2 I2 r q => ?_) na) na))
  obtain ⟨n, rfl, q⟩ := q
  obtain ⟨t, rfl⟩ := r
  refine call_range_1 ?_
  have new := IsRange.new s2.heap 0 n 1 s2.toks t (s2.toks + 1)
  refine ⟨.ref s2.heap.objs.size, upd H2 s2.heap.objs.size (RgO s2.heap.objs.size n), I2.laid (fun b u e => Heap.get?_push_of_some _ e) (Nat.le_refl _) ?_, rfl, q _ (I2.hok.fresh (Nat.le_refl _))⟩
  exact ⟨⟨_, _, _, new⟩, ⟨_, new⟩, fun _ _ ⟨t, u, v, z⟩ st => ⟨t, u, v, st _ z⟩⟩
/-! ### sorted(range(n), key=f) -/
theorem each_ints : ∀ {out : List Value} {ns : List Int}, PySem.W.EachIs (fun (v : Value) (z : Int) => ∃ tz, v = .int z tz) out ns → IntsAre out ns
  | [], [], _ => .nil
  | _ :: _, _ :: _, .cons ⟨t, e⟩ r => by
    rw [e]
    exact .cons _ _ (each_ints r)
section
variable {prog : Program} {w : World} {A : Around} {E : Value → Shared → Prop} {s : Shared}
open PySem.W in
theorem sorted_range_key {r f : Addr} {n : Nat} {t u v : Tok} {Q : Value → Shared → Prop} (k : Int → Int) (calm : A.handled = none) (hr : IsRange s.heap r 0 (n : Int) 1 t u v) (hn : n ≤ 4000) (hu : A.units + 2 < cLine)
    (turn : ∀ (z : Int) (tz : Tok), z ∈ every n → ∀ (h : Heap) (tk : Nat), (∀ b o, s.heap.get? b = some o → h.get? b = some o) →
      wpAny (model prog w) A.in1.in1 (call (.ref f) [.int z tz]) (KeyPure (.int (k z)) { s with heap := h, toks := tk }) (fun _ _ => False) { s with heap := h, toks := tk })
    (fin : ∀ (out : List Value) (c tk : Nat) (h1 h2 : Heap) (ns : List Int), (∀ b o, s.heap.get? b = some o → h1.get? b = some o) → (∀ b o, h1.get? b = some o → h2.get? b = some o) → h2.get? h1.objs.size = some (seqObj "list" out.toArray c) → IntsAre out ns → out.length = n → ns.Perm (every n) → ns.Pairwise (fun a b => k a ≤ k b) →
      Q (.ref h1.objs.size) { s with heap := h2, toks := tk }) :
    wpAny (model prog w) A (call (.builtin "sorted") [.ref r] [(Str.ofString "key", .ref f)]) Q E s := by
  refine PyProof.Rows.call_function_entry_kw kind_sorted plain_sorted entry_sorted (PyProof.Rows.ksk_s1 _ _) ?_
  unfold Builtin.«sorted»
  refine wpAny_bind (m := checkCount "sorted" 1 1 _) (wpAny_pure ?_)
  refine wpAny_bind (collect_range (A := A.in1) calm hr (small_one (by omega) (by omega) (by omega) (by omega)) (rangeSize_nat 0 (n : Int)) (by omega) fun h1 tk1 acc kp1 items => ?_)
  have items : ItemsOf (fun i v => ∃ t, v = .int (0 + i * 1) t) acc n := by
    have e : ((n : Int) - 0).toNat = n := by omega
    rwa [e] at items
  have size : acc.toList.length = n := by rw [Array.length_toList]; exact items.1
  have hL : acc.toList.length ≤ sizeLine := by rw [size, sizeLine_eq]; omega
  refine wpAny_bind (wpAny_newList ?_ hL)
  have at1 : (h1.push (seqObj "list" acc.toList.toArray 0)).get? h1.objs.size = some (seqObj "list" acc.toList.toArray 0) := Heap.get?_push_size _ rfl
  have kp2 : ∀ b o, s.heap.get? b = some o → (h1.push (seqObj "list" acc.toList.toArray 0)).get? b = some o := fun b o e => Heap.get?_push_of_some _ (kp1 b o e)
  refine wpAny_bind (wpAny_holding (wpAny_call_entry_kw slot_list_sort ⟨_, at1, rfl⟩ entry_list_sort ?_ (PyProof.Rows.ksk_l1 _ _)))
  show wpAny (model prog w) A.in1.in1 (Builtin.«list.sort» ⟨[.ref h1.objs.size], [(Str.ofString "key", .ref f)]⟩) _ _ _
  rw [PyProof.Rows.ksk_t1]
  have each : EachIs (fun (v : Value) (z : Int) => ∃ tz, v = .int z tz) acc.toList (every n) := by
    have le : (every n).length = n := by unfold every; rw [List.length_map, List.length_range]
    refine EachIs.of_zip (by rw [size, le]) fun p hp => ?_
    obtain ⟨j, hj, e⟩ := List.mem_iff_getElem.mp hp
    rw [List.getElem_zip] at e
    have hj' : j < acc.toList.length := by
      rw [List.length_zip] at hj
      omega
    obtain ⟨tz, ez⟩ := items.2 j acc.toList[j] (by rw [← Array.getElem?_toList, List.getElem?_eq_getElem hj'])
    refine ⟨tz, ?_⟩
    rw [← e]
    show acc.toList[j] = _
    rw [ez]
    unfold every
    simp
  refine keyH_tree (kz := (every n).map fun z => PyData.int (k z)) (s := { s with heap := h1.push (seqObj "list" acc.toList.toArray 0), toks := tk1 }) at1 (by rw [size, List.length_map]; unfold every; simp) hL (AllAlike.of fun a b => ?_) (Sortable.others fun b => ⟨fun z => (by cases z), fun xs z => (by cases z)⟩) (bound_map fun b hb => ?_)
    (keyH_turns (k := fun z => PyData.int (k z)) each fun v z hR hz h tk kp => ?_) fun h2 tk2 out c kp3 hD ko => ?_
  · simp [alike]
  · show A.units + 1 + 1 + 0 < cLine
    omega
  · obtain ⟨tz, rfl⟩ := hR
    exact turn z tz hz h tk fun b o e => kp b o (Nat.ne_of_lt (Heap.lt_size (kp1 b o e))) (kp2 b o e)
  · have eo := keyedOut_each (fun z => PyData.int (k z)) ko each
    rw [dataLe_int] at eo
    have pm := List.mergeSort_perm (every n) fun a b => decide (k a ≤ k b)
    have pw := List.pairwise_mergeSort (le := fun a b => decide (k a ≤ k b)) (fun a b c h1 h2 => by
      have h1 := of_decide_eq_true h1
      have h2 := of_decide_eq_true h2
      exact decide_eq_true (Int.le_trans h1 h2)) (fun a b => by
      rw [Bool.or_eq_true, decide_eq_true_eq, decide_eq_true_eq]
      exact Int.le_total _ _) (every n)
    refine ⟨.none, rfl, wpAny_pure ⟨_, rfl, fin out c tk2 h1 h2 _ kp1 (fun b o e => kp3 b o (Nat.ne_of_lt (Heap.lt_size e)) (Heap.get?_push_of_some _ e)) hD (each_ints eo) ?_ pm (pw.imp fun h => of_decide_eq_true h)⟩⟩
    rw [eo.length, pm.length_eq]
    unfold every
    simp
end
/-! ### sorted(range(len(xs)), key=lambda one: xs[one][0]) -/
/-- the words of such a lambda -/
structure LamK (rq one : Str) (ar : Arguments) (sc : Scope) : Prop where
  loc : sc.names.lookup one = some .local
  cap : sc.names.lookup rq = some .free
  co : sc.isCoroutine = false
  gen : sc.isGenerator = false
  kind : sc.kind = .function
  cell : ∀ y ∈ sc.names, y.2 ≠ .cell
  free : ∀ y ∈ sc.names, y.2 = .free → y.1 = rq
section
variable {X : Cx} {pins : List (Addr × Obj)} {σ : L2.St} {H : Hp} {s : Shared}
theorem lam_turn {rq one : Str} {ar : Arguments} {sc : Scope} {p1 p2 p3 p4 p5 : Pos} {j5 : Nat} {i k : Nat} {f cc a : Addr} {rs : List Rq} {z : Int} {tz : Tok} {h : Heap} {tk : Nat} (L : LamK rq one ar sc) (hr : Room k X.A) (I : Inv X pins σ H s) (hN : X.N[i]? = some rq) (hsc : X.env.scope.names.lookup rq = some .cell)
    (hf : H f = some (LamO f (X.env.qual ++ "<lambda>") ar (.Subscript (.Subscript (.Name rq p1) (.Name one p2) p3) (.Constant (.int 0) j5 p4) p5) sc (cloFrom X.env.cells sc.names []) cc)) (hcc : H cc = some (CodeO cc (X.env.qual ++ "<lambda>")))
    (hbind : ∀ (pm ctv v : Value), bindArgs (PySem.W.kla_fn "<lambda>" (X.env.qual ++ "<lambda>") ar (.Subscript (.Subscript (.Name rq p1) (.Name one p2) p3) (.Constant (.int 0) j5 p4) p5) sc (cloFrom X.env.cells sc.names []) pm (.ref cc) ctv) ⟨[v], []⟩ = pure [(one, v)])
    (nd1 : (rq == ("__debug__" : Str)) = false) (nd2 : (one == ("__debug__" : Str)) = false) (nd3 : (rq == ("__classdict__" : Str)) = false) (hσ : σ[i]? = some (some (.ref a))) (hrs : ReqsAt H a rs) (hz : 0 ≤ z) (hz2 : z < rs.length) (kp : ∀ b o, s.heap.get? b = some o → h.get? b = some o) :
    wpAny (model X.prog X.w) X.A.in1.in1 (call (.ref f) [.int z tz]) (PySem.W.KeyPure (.int (getR rs z).1) { s with heap := h, toks := tk }) (fun _ _ => False) { s with heap := h, toks := tk } := by
  obtain ⟨⟨pm, ctv, of⟩, _, _⟩ := I.hok f _ hf
  obtain ⟨⟨oc, vs, tq, hoc, hdc, hvc⟩, _, _⟩ := I.hok cc _ hcc
  refine wpAny_call (PySem.W.kla_callFunE hr.depth (kp _ _ of) rfl L.co L.gen rfl ⟨cc, oc, vs, tq, rfl, kp _ _ hoc, hdc, hvc⟩ ?_)
  rw [hbind]
  refine wpAny_pure (wpAny_newFunctionEnv L.cell (fun y hy => ?_) (fun h1 hns hsb => ⟨?_, ?_⟩) L.kind)
  · rw [List.mem_singleton.mp hy]
    exact L.loc
  · exact (I.ok.mod.nolimit.keeps fun b o e => kp _ _ (I.bk _ _ e)).fresh _ hsb
  · have kp1 : ∀ b o, h.get? b = some o → h1.get? b = some o := fun b o e => hsb.extBut b o (Nat.ne_of_lt (Heap.lt_size e)) (Heap.get?_push_of_some _ e)
    -- what the captured cell holds
    obtain ⟨m, hn, hl⟩ := I.loc
    obtain ⟨u, ru, q⟩ := hl i rq _ hN hσ (.inr (.inl hsc))
    cases (show u = Value.ref a from ru)
    have hcells : ∃ c, X.env.cells.lookup rq = some c ∧ s.heap.IsCell c (some (Value.ref a)) := by
      rcases q with ⟨k1, _⟩ | ⟨_, c, e, z⟩
      · have k1 : X.env.scope.names.lookup rq = some .local := k1
        rw [hsc] at k1
        cases k1
      · exact ⟨c, e, z⟩
    obtain ⟨c, ec, hcell⟩ := hcells
    have ecl : (cloFrom X.env.cells sc.names []).lookup rq = some c := by
      have := NdefX.clo_has (names := sc.names) (cells := X.env.cells) (fun y hy e => ⟨c, by rw [L.free y hy e]; exact ec⟩) (y := rq) (c := c) (PySem.mem_of_lookup L.cap) ec
      exact this
    have hcell1 : h1.IsCell c (some (Value.ref a)) := by
      obtain ⟨o, ho, hd⟩ := hcell
      exact ⟨o, kp1 _ _ (kp _ _ ho), hd⟩
    obtain ⟨rvs, ea, pr⟩ := hrs
    obtain ⟨its, rv, pl, hsz⟩ := I.list (SqL.of (K := X.K) ea)
    obtain ⟨x, hx, t, rfl, ht⟩ := Paired.getL pr (getR_some hz hz2)
    obtain ⟨w1, ew, rw1⟩ := rv.get hx
    cases (show w1 = Value.ref t from rw1)
    obtain ⟨its2, rv2, pl2, hsz2⟩ := I.tuple (SqT.of (K := X.K) ht)
    obtain ⟨w2, ew2, rw2⟩ := rv2.get (i := 0) (x := .int (getR rs z).1) rfl
    obtain ⟨t2, rfl⟩ := rw2
    have isl : h1.IsList a its.toArray := by
      obtain ⟨ol, hol, hcl, nl, hdl⟩ := pl.isList
      exact ⟨ol, kp1 _ _ (kp _ _ hol), hcl, nl, hdl⟩
    have ist : IsTup h1 t its2.toArray := by
      obtain ⟨o2, ho2, r2⟩ := pl2
      exact ⟨o2, kp1 _ _ (kp _ _ ho2), r2⟩
    have hn63 := line63
    have hlen := rv.length
    have hlen2 := rv2.length
    refine PySem.W.kla_codeExpr (Subscript_ (Subscript_ (wpAny_Name (wpAny_loadName_free L.kind L.cap ecl hcell1 ?_ nd3) nd1)))
    refine wpAny_Name (wpAny_loadName_local (v := .int z tz) L.kind L.loc hns (by simp [List.lookup]) ?_) nd2
    refine item_listR (x := .ref t) isl hz ?_ (by simpa using ew) ?_
    · have : rvs.length = rs.length := pr.length
      omega
    refine wpAny_Constant_int ?_
    refine subscriptTail_builtinR (x := .int (getR rs z).1 t2) ist.typeIs slot_tuple_getitem.lookup (getItem_tuple (j := 0) (Q := fun r s' => r = .int (getR rs z).1 t2 ∧ PySem.W.KeyPure (.int (getR rs z).1) { s with heap := h, toks := tk } r s') ist (by decide) (by decide) ?_ (by simpa using ew2) ⟨rfl, h1, _, rfl, kp1, Reads.int _ _⟩)
    rw [List.size_toArray, ← hlen2]
    rfl
theorem ReqsAt.ext {H H' : Hp} {a : Addr} {rs : List Rq} (h : ReqsAt H a rs) (e : ExtN H H') : ReqsAt H' a rs := by
  obtain ⟨vs, ea, p⟩ := h
  refine ⟨vs, e _ _ ea (fun ps z => by cases z), p.mono fun v r ⟨t, hv, ht⟩ => ⟨t, hv, e _ _ ht (fun ps z => by cases z)⟩⟩
/-- requests' places, in the order of their first days -/
def tSortLam (T : List (Addr × Str)) (i : Nat) : TE := fun σ H Q => ∃ a rs, σ[i]? = some (some (.ref a)) ∧ ReqsAt H a rs ∧ rs.length ≤ 1000 ∧ NoT H ∧ Tabs T H ∧
  ∀ ns p H1, ExT H H1 → Tabs T H1 → NoT H1 → H p = none → IntsAt H1 p ns → ns.Perm (every rs.length) → ns.Pairwise (fun x y => (getR rs x).1 ≤ (getR rs y).1) → Q (.ref p) H1
theorem pe_sortLam {T : List (Addr × Str)} {c P : Addr} {rq one : Str} {ar : Arguments} {sc : Scope} {rg : Expr} {p0 p1 p2 p3 p4 p5 lp kp pos : Pos} {j5 : Nat} {i k : Nat} (hc : X.calm = true) (L : LamK rq one ar sc) (hr : Room k X.A) (hu : X.A.units + 2 < cLine)
    (hg : Gl X "sorted") (hm : X.mg "sorted" = none) (hrg : PE X rg (tRgV (tCB (qLen X.K) (tCons (tVar i) tNil)))) (hN : X.N[i]? = some rq) (hsc : X.env.scope.names.lookup rq = some .cell)
    (TB : TabB X.base X.mg c P) (hcode : X.env.code = .ref c) (hmT : (P, X.env.qual ++ "<lambda>") ∈ T) (huT : ∀ p ∈ T, p.1 = P → p.2 = X.env.qual ++ "<lambda>") (hdef : defaultsOf ar X.env = ([], []))
    (hbind : ∀ (q : Str) (cl : List (Str × Addr)) (cc : Addr) (pm ctv v : Value), bindArgs (PySem.W.kla_fn "<lambda>" q ar (.Subscript (.Subscript (.Name rq p1) (.Name one p2) p3) (.Constant (.int 0) j5 p4) p5) sc cl pm (.ref cc) ctv) ⟨[v], []⟩ = pure [(one, v)])
    (nd1 : (rq == ("__debug__" : Str)) = false) (nd2 : (one == ("__debug__" : Str)) = false) (nd3 : (rq == ("__classdict__" : Str)) = false)
    (hse : starEach [rg] X.env = (false, eval rg X.env) :: starEach [] X.env := by rfl) (he : backTo pos (starEach [rg] X.env) = (false, eval rg X.env) :: backTo pos (starEach [] X.env) := by rfl) (hpl : (backTo pos (starEach [rg] X.env)).any (·.1) = false := by rfl) :
    PE X (.Call (.Name "sorted" p0) [rg] [⟨some "key", .Lambda ar (.Subscript (.Subscript (.Name rq p1) (.Name one p2) p3) (.Constant (.int 0) j5 p4) p5) sc lp, kp⟩] pos) (tSortLam T i) := by
  refine ⟨fun pins s σ H Q I h => ?_⟩
  obtain ⟨a, rs, hσ, hrs, hz, n, hT, q⟩ := h
  have hlam := pe_lamV (pos := lp) (bd := .Subscript (.Subscript (.Name rq p1) (.Name one p2) p3) (.Constant (.int 0) j5 p4) p5) TB hcode hmT huT hdef (sc := sc) fun ok y hy e => by
    rw [L.free y hy e]
    exact ok.has _ (.inl hsc)
  obtain ⟨rvs, ea, pr⟩ := id hrs
  refine wpAny_Call_Name_kw (ld_blt I hg hm (by decide +kernel : bootBuiltins "sorted" = some (.builtin "sorted")) ?_)
  refine PyProof.Rows.callWith_kw (thn ((pa_cons hrg pa_nil hse).run pos pins s σ H (fun vs H1 => ∃ r, vs = [.ref r] ∧ H r = none ∧ H1 = upd H r (RgO r rs.length)) I ?_) fun us s1 ⟨vs, H1, I1, r1, q1⟩ => thn ((pk_cons (nm := some "key") (kpos := kp) hlam pk_nil).run pos pins s1 σ H1 (fun zs H2 => ∃ r f cc, vs = [.ref r] ∧ zs = [.ref f] ∧ ExT H1 H2 ∧ Tabs T H2 ∧ NoT H2 ∧ H r = none ∧ H1 = upd H r (RgO r rs.length) ∧
      H2 f = some (LamO f (X.env.qual ++ "<lambda>") ar (.Subscript (.Subscript (.Name rq p1) (.Name one p2) p3) (.Constant (.int 0) j5 p4) p5) sc (cloFrom X.env.cells sc.names []) cc) ∧ H2 cc = some (CodeO cc (X.env.qual ++ "<lambda>"))) I1 ?_) fun ws s2 ⟨zs, H2, I2, r2, q2⟩ => ?_) he hpl
  · refine ⟨_, hσ, ?_⟩
    show qLen X.K [.ref a] H fun x H1 => ∃ n : Nat, x = V.int n ∧ ∀ r, H1 r = none → ∃ r', [V.ref r] = [.ref r'] ∧ H r' = none ∧ upd H1 r (RgO r n) = upd H r' (RgO r' rs.length)
    exact rlen_lst ea pr.length ⟨rs.length, rfl, fun r hr0 => ⟨r, rfl, hr0, rfl⟩⟩
  · obtain ⟨r, rfl, hr0, rfl⟩ := q1
    have ex : ExtN H (upd H r (RgO r rs.length)) := ExtN.of fun b o e => (upd_ne (ne_of_none e hr0)).trans e
    refine ⟨hT.ext fun b o e => (upd_ne (ne_of_none e hr0)).trans e, fun f cc H2 e2 T2 n2 hf hf2 hcc => ⟨r, f, cc, rfl, rfl, e2, T2, n2 n.upd, hr0, rfl, hf2, hcc⟩⟩
  · obtain ⟨r, f, cc, rfl, rfl, e2, T2, n2, hr0, rfl, hf2, hcc⟩ := q2
    obtain ⟨u1, rfl, er⟩ := vals1 r1
    obtain ⟨u2, rfl, ef⟩ := vals1 r2
    cases (show u1 = Value.ref r from er)
    cases (show u2 = Value.ref f from ef)
    have e02 : ExT H H2 := (ExT.of fun b o e => (upd_ne (ne_of_none e hr0)).trans e).trans e2
    have hrs2 := hrs.ext e02.e
    obtain ⟨⟨t, u, v, isr⟩, _, _⟩ := I2.hok r _ (e2.e _ _ upd_same (fun ps z => by cases z))
    show wpAny _ _ (call (.builtin "sorted") [.ref r] [(Str.ofString "key", .ref f)]) _ _ s2
    refine sorted_range_key (n := rs.length) (fun z => (getR rs z).1) (I2.ok.hd hc) isr (by omega) hu (fun z tz hz h tk kp => lam_turn L hr I2 hN hsc hf2 hcc (fun pm ctv v => hbind _ _ _ pm ctv v) nd1 nd2 nd3 hσ hrs2 (mem_every.mp hz).1 (mem_every.mp hz).2 kp) fun out cn tk h1 h2 ns kp1 kp12 at2 itl len pm pw => ?_
    have J1 : Inv X pins σ H2 { s2 with heap := h1, toks := tk } := I2.kept kp1
    have nP : H2 h1.objs.size = none := J1.hok.fresh (Nat.le_refl _)
    have J2 : Inv X pins σ (upd H2 h1.objs.size (.lst (ns.map V.int))) { s2 with heap := h2, toks := tk } :=
      J1.laid (a := h1.objs.size) kp12 (Nat.le_refl _) ⟨by rw [List.length_map, pm.length_eq]; unfold every; rw [List.length_map, List.length_range, sizeLine_eq]; omega, out, cn, vals_of_ints itl, at2⟩
    have st : ∀ b o, H2 b = some o → (upd H2 h1.objs.size (.lst (ns.map V.int))) b = some o := fun b o e => (upd_ne (ne_of_none e nP)).trans e
    have hP : H h1.objs.size = none := e02.free nP
    exact ⟨.ref h1.objs.size, _, J2, rfl, q ns _ _ (e02.trans (ExT.of st)) (T2.ext st) n2.upd hP upd_same pm pw⟩
end
/-- by one reading or by another -/
def tOr2 (t u : TE) : TE := fun σ H Q => t σ H Q ∨ u σ H Q
theorem pe_or2 {X : Cx} {e : Expr} {t u : TE} (a : PE X e t) (b : PE X e u) : PE X e (tOr2 t u) :=
  ⟨fun pins s σ H Q I h => h.elim (fun h => a.run pins s σ H Q I h) fun h => b.run pins s σ H Q I h⟩
end Spn

namespace Spn
open PySem PySem.Spec PyProof.Rows L2 LamX
/-! ### rooms for all, days with too many -/
def TT (K : PySem.W.Frag) : List (Addr × Str) := [((He.cT K ("lodged", none)).2, "lodged.<locals>.<lambda>")]
def lodF (p : Addr) : List (Str × V) := [("rooms", .ref p)]
def crowdF (d : Int) (p : Addr) : List (Str × V) := [("day", .int d), ("asking", .ref p)]
def LodAt (K : PySem.W.Frag) (H : Hp) (x p : Addr) (R : List Int) : Prop := (∃ dx, H x = some (.ins (He.ga K "Lodged") dx (lodF p))) ∧ IntsAt H p R
def CrowdAt (K : PySem.W.Frag) (H : Hp) (x p : Addr) (d : Int) (A : List Int) : Prop := (∃ dx, H x = some (.ins (He.ga K "Crowd") dx (crowdF d p))) ∧ IntsAt H p A
structure LodC (K : PySem.W.Frag) : Prop where
  cl : Cls K (He.ga K "Lodged")
  n1 : NoAttr K (He.ga K "Lodged") "rooms"
structure CrowdC (K : PySem.W.Frag) : Prop where
  cl : Cls K (He.ga K "Crowd")
  n1 : NoAttr K (He.ga K "Crowd") "day"
  n2 : NoAttr K (He.ga K "Crowd") "asking"
def sp_Lodged___init__ (K : PySem.W.Frag) (w : World) : Sp := fun vs H Q _ => ∃ x dx a ts, vs = [.ref x, .ref a] ∧ H x = some (.ins (He.ga K "Lodged") dx []) ∧ H a = some (.lst ts) ∧ NoT H ∧
  ∀ H' p, H p = none → H' x = some (.ins (He.ga K "Lodged") dx (lodF p)) → H' p = some (.lst ts) → (∀ b o, H b = some o → b ≠ x → H' b = some o) → NoT H' → Q .non H'
def sp_Crowd___init__ (K : PySem.W.Frag) (w : World) : Sp := fun vs H Q _ => ∃ x dx d a ts, vs = [.ref x, .int d, .ref a] ∧ H x = some (.ins (He.ga K "Crowd") dx []) ∧ H a = some (.lst ts) ∧ NoT H ∧
  ∀ H' p, H p = none → H' x = some (.ins (He.ga K "Crowd") dx (crowdF d p)) → H' p = some (.lst ts) → (∀ b o, H b = some o → b ≠ x → H' b = some o) → NoT H' → Q .non H'
def sp_Lodged_shows (K : PySem.W.Frag) (w : World) : Sp := fun vs H Q _ => ∃ x p a m rs R, vs = [.ref x, .ref a, .int m] ∧ LodAt K H x p R ∧ ReqsAt H a rs ∧ rs.length ≤ 900 ∧ R.length ≤ 1000 ∧ NoT H ∧ Q (.bl (lodShows rs m R)) H
def sp_Crowd_shows (K : PySem.W.Frag) (w : World) : Sp := fun vs H Q _ => ∃ x p a m d rs A, vs = [.ref x, .ref a, .int m] ∧ CrowdAt K H x p d A ∧ ReqsAt H a rs ∧ rs.length ≤ 900 ∧ A.length ≤ 1000 ∧ NoT H ∧ Q (.bl (crowdShows rs m d A)) H
/-- what lodged answers -/
def LodNew (K : PySem.W.Frag) (H H' : Hp) (rs : List Rq) (m : Int) (x : Addr) : Prop :=
  (∃ p R, H p = none ∧ LodAt K H' x p R ∧ lodShows rs m R = true ∧ ∀ a ∈ every rs.length, ((forDay rs (every rs.length) (getR rs a).1).length : Int) ≤ m) ∨
  (∃ p d A, H p = none ∧ CrowdAt K H' x p d A ∧ crowdShows rs m d A = true ∧ ∃ b ∈ every rs.length, d = (getR rs b).1 ∧ m < (forDay rs (every rs.length) (getR rs b).1).length)
def sp_lodged (K : PySem.W.Frag) (w : World) : Sp := fun vs H Q _ => ∃ a m rs, vs = [.ref a, .int m] ∧ ReqsAt H a rs ∧ OkR rs ∧ rs.length ≤ 450 ∧ 0 ≤ m ∧ NoT H ∧ Tabs (TT K) H ∧
  ∀ H' x, ExT H H' → Tabs (TT K) H' → NoT H' → H x = none → LodNew K H H' rs m x → Q (.ref x) H'
end Spn

namespace Spn
open PySem PySem.Spec PyProof.Rows L2
/-! ### readings -/
/-- Lodged.__init__ -/
def t_Lodged___init__ (K : PySem.W.Frag) (w : World) : TS :=
  (sFld K (tVar 0) (tCB (qList K) (tCons (tVar 1) tNil)) "rooms")

/-- Lodged.shows -/
def t_Lodged_shows (K : PySem.W.Frag) (w : World) : TS :=
  (tSeq (tIfS (tOr (tTest (tOp rNe (tCB (qLen K) (tCons (tFld K (tVar 0) "rooms") tNil)) (tCB (qLen K) (tCons (tVar 1) tNil)))) (tNot (tB (tCB (rAll K) (tCons (tLc (iList K (tFld K (tVar 0) "rooms")) (gName 6) tYes (tAndV (tCall (sp_is_whole K w) [] E0 (tCons (tVar 6) tNil)) (tChain qLe qLt (tC (.int 0)) (tVar 6) (tVar 2))) [6]) tNil))))) (tRet (tC (.bl false))) tNext)
  (tSeq (tFor (iEnum K (tCons (tVar 1) tNil)) (gTup K 2 (gCons (gName 3) (gCons (gName 4) gNil))) (tSeq (tAsg (tCall (sp_for_day K w) [] E0 (tCons (tVar 1) (tCons (tLstRg (tRg1 (tCB (qLen K) (tCons (tVar 1) tNil)))) (tCons (tOp (rIxT K) (tVar 4) (tC (.int 0))) tNil)))) (gName 5))
  (tIfS (tTest (tOp qGt (tCB (qLen K) (tCons (tLc (iList K (tVar 5)) (gName 7) (tTest (tOp rEq (tOp (rIxL K) (tFld K (tVar 0) "rooms") (tVar 7)) (tOp (rIxL K) (tFld K (tVar 0) "rooms") (tVar 3)))) (tVar 7) [7]) tNil)) (tC (.int 1)))) (tRet (tC (.bl false))) tNext)))
  (tRet (tC (.bl true)))))

/-- Crowd.__init__ -/
def t_Crowd___init__ (K : PySem.W.Frag) (w : World) : TS :=
  (tSeq (sFld K (tVar 0) (tVar 1) "day")
  (sFld K (tVar 0) (tCB (qList K) (tCons (tVar 2) tNil)) "asking"))

/-- Crowd.shows -/
def t_Crowd_shows (K : PySem.W.Frag) (w : World) : TS :=
  (tSeq (tIfS (tOr (tNot (tB (tCall (sp_is_whole K w) [] E0 (tCons (tFld K (tVar 0) "day") tNil)))) (tOr (tNot (tB (tCall (sp_is_choice K w) [] E0 (tCons (tVar 1) (tCons (tFld K (tVar 0) "asking") tNil))))) (tTest (tOp qLe (tCB (qLen K) (tCons (tFld K (tVar 0) "asking") tNil)) (tVar 2))))) (tRet (tC (.bl false))) tNext)
  (tRet (tOp (rEqD K) (tCall (sp_for_day K w) [] E0 (tCons (tVar 1) (tCons (tFld K (tVar 0) "asking") (tCons (tFld K (tVar 0) "day") tNil)))) (tFld K (tVar 0) "asking"))))

/-- lodged -/
def t_lodged (K : PySem.W.Frag) (w : World) : TS :=
  (tSeq (tDrop (tCall (sp_check_requests K w) [] E0 (tCons (tVar 0) tNil)))
  (tSeq (tDrop (tCall (sp_check_rooms K w) [] E0 (tCons (tVar 1) (tCons (tC (.int 0)) tNil))))
  (tSeq (tAsg (tLc (iList K (tVar 0)) (gName 9) tYes (tUn qNeg (tC (.int 1))) [9]) (gName 2))
  (tSeq (tAsg (tLst tNil) (gName 3))
  (tSeq (tFor (iList K (tSortLam (TT K) 0)) (gName 4) (tSeq (tAsg (tOp (rIxT K) (tOp (rIxL K) (tVar 0) (tVar 4)) (tC (.int 0))) (gName 5))
  (tSeq (tDrop (tBM K "list" rAppend (tVar 3) (tCons (tVar 4) tNil)))
  (tSeq (tAsg (tCall (sp_for_day K w) [] E0 (tCons (tVar 0) (tCons (tVar 3) (tCons (tVar 5) tNil)))) (gName 6))
  (tSeq (tIfS (tTest (tOp qGt (tCB (qLen K) (tCons (tVar 6) tNil)) (tVar 1))) (tRet (tMake (He.ga K "Crowd") (sp_Crowd___init__ K w) [] E0 (tCons (tVar 5) (tCons (tCB (rSortedI K) (tCons (tVar 6) tNil)) tNil)))) tNext)
  (tSeq (tAsg (tLc (iList K (tVar 6)) (gName 10) tYes (tOp (rIxL K) (tVar 2) (tVar 10)) [10]) (gName 7))
  (tSeq (tAsg (tC (.int 0)) (gName 8))
  (tSeq (tWhile (tTest (tOp (rIn K false) (tVar 8) (tVar 7))) (tAug 8 (tC (.int 1)) qAddI))
  (tAsg (tVar 8) (gSub (tVar 2) (tVar 4) L2.rSetL))))))))))
  (tRet (tMake (He.ga K "Lodged") (sp_Lodged___init__ K w) [] E0 (tCons (tVar 2) tNil))))))))

end Spn

namespace Spn
open PySem PySem.Spec PyProof.Rows L2 LamX
theorem Fin.setup' {H : Hp} {Q Q0 : VK} (fin : Fin H Q Q0) {v : V} {H4 : Hp} {x C dx : Addr} {fs0 fs : List (Str × V)} (hx : H x = some (.ins C dx fs0)) (J : JI H H4 x C dx fs) (n : NoT H) (q : ∀ H5, NoT H5 → H5 x = some (.ins C dx fs) → (∀ b o, H b = some o → b ≠ x → H5 b = some o) → (∀ b l, H4 b = some (.lst l) → H5 b = some (.lst l)) → Q v H5) : Q0 v H4 :=
  fin.newX n hx J fun nT => q _ nT ((ltH_old hx).trans J.x) (fun b o e ne => (ltH_old e).trans (J.k b o e ne)) (fun b l h => ltH_lst h)
section
variable {K : PySem.W.Frag} {w : World} {vs : List V} {H : Hp} {Q Q0 : VK} {E : XK}
theorem pure_Lodged___init__ (C : LodC K) (h : sp_Lodged___init__ K w vs H Q E) (fin : Fin H Q Q0) : t_Lodged___init__ K w (endS Q0) (start ["self", "rooms"] vs) H := by
  obtain ⟨x, dx, a, ts, rfl, hx, ha, n, q⟩ := h
  have J0 : JI H H x (He.ga K "Lodged") dx [] := ⟨fun _ _ e _ => e, n, hx⟩
  refine ⟨_, rfl, a, ts, rfl, .inl (SqL.of ha), fun t ht => ?_⟩
  have J1 := J0.new (o := .lst ts) ht
  refine ⟨_, rfl, x, _, dx, _, rfl, J1.x, C.cl, C.n1, by show 0 < 1000; decide, ?_⟩
  have J2 := J1.put (fs' := putF ("rooms" : Str) (.ref t) [])
  have t2 := put_lst (fs' := putF ("rooms" : Str) (.ref t) []) upd_same J1.x
  rw [putF_nil] at J2 t2 ⊢
  exact fin.setup' hx J2 n fun H5 n5 x5 k5 l5 => q H5 t ht x5 (l5 _ _ t2) k5 n5
theorem crowdF1 (d : Int) (t : Addr) : putF ("asking" : Str) (.ref t) [("day", .int d)] = crowdF d t := by
  unfold crowdF
  rw [putF_past (by decide +kernel), putF_nil]
theorem pure_Crowd___init__ (C : CrowdC K) (h : sp_Crowd___init__ K w vs H Q E) (fin : Fin H Q Q0) : t_Crowd___init__ K w (endS Q0) (start ["self", "day", "asking"] vs) H := by
  obtain ⟨x, dx, d, a, ts, rfl, hx, ha, n, q⟩ := h
  have na : a ≠ x := ne_of ha hx (by intro z; cases z)
  have J0 : JI H H x (He.ga K "Crowd") dx [] := ⟨fun _ _ e _ => e, n, hx⟩
  refine seq_i fun nx k => ⟨_, rfl, _, rfl, x, _, dx, _, rfl, hx, C.cl, C.n1, by show 0 < 1000; decide, k _ _ ?_⟩
  have J1 := J0.put (fs' := putF ("day" : Str) (.int d) [])
  rw [putF_nil] at J1 ⊢
  generalize (upd H x _ : Hp) = H1 at J1 ⊢
  refine ⟨_, rfl, a, ts, rfl, .inl (SqL.of (J1.k _ _ ha na)), fun t ht => ?_⟩
  have J2 := J1.new (o := .lst ts) ht
  refine ⟨_, rfl, x, _, dx, _, rfl, J2.x, C.cl, C.n2, by show 1 < 1000; decide, ?_⟩
  have J3 := J2.put (fs' := putF ("asking" : Str) (.ref t) [("day", .int d)])
  have t3 := put_lst (fs' := putF ("asking" : Str) (.ref t) [("day", .int d)]) upd_same J2.x
  have ht0 := J1.free ht
  rw [crowdF1] at J3 t3 ⊢
  exact fin.setup' hx J3 n fun H5 n5 x5 k5 l5 => q H5 t ht0 x5 (l5 _ _ t3) k5 n5
theorem lf_rooms (p : Addr) : (lodF p).lookup ("rooms" : Str) = some (.ref p) := lk_here
theorem lf_shows (p : Addr) : (lodF p).lookup ("shows" : Str) = none := (lk_past (by decide +kernel)).trans rfl
theorem cf_day (d : Int) (p : Addr) : (crowdF d p).lookup ("day" : Str) = some (.int d) := lk_here
theorem cf_asking (d : Int) (p : Addr) : (crowdF d p).lookup ("asking" : Str) = some (.ref p) := (lk_past (by decide +kernel)).trans lk_here
theorem cf_shows (d : Int) (p : Addr) : (crowdF d p).lookup ("shows" : Str) = none := (lk_past (by decide +kernel)).trans ((lk_past (by decide +kernel)).trans rfl)
theorem pure_Crowd_shows (C : CrowdC K) (h : sp_Crowd_shows K w vs H Q E) (fin : Fin H Q Q0) : t_Crowd_shows K w (endS Q0) (start ["self", "requests", "rooms"] vs) H := by
  obtain ⟨x, p, a, m, d, rs, A, rfl, ⟨⟨dx, hx⟩, hp⟩, hr, z1, z2, n, q⟩ := h
  refine seq_i fun nx k => if_i fun th el h1 h2 => ?_
  try walk_at "rd"
  refine rfld (fun Q h => ⟨_, rfl, h⟩) hx C.cl C.n1 (cf_day d p) ⟨_, _, rfl, IsWh.int, n, _, rfl, ?_⟩
  rw [if_neg (by decide)]
  refine rfld (fun Q h => ⟨_, rfl, h⟩) hx C.cl C.n2 (cf_asking d p) ⟨a, p, rs, A, rfl, hr, hp, n, _, rfl, ?_⟩
  have fl : ∀ b, crowdShows rs m d A = b → th H ∨ True → Q (.bl b) H := fun b e _ => by rw [← e]; exact q
  cases ci : isChoice rs.length A with
  | false =>
    refine iteT (h1 _ ?_)
    try walk_at "rd"
    exact fin.same n (Same.refl H) (fl false (by unfold crowdShows; rw [ci]; rfl) (.inr trivial))
  | true =>
  rw [Bool.not_true, if_neg (by decide)]
  refine rfld (fun Q h => ⟨_, rfl, h⟩) hx C.cl C.n2 (cf_asking d p) (rlen_lst hp (List.length_map _) ?_)
  try walk_at "rd"
  by_cases c : (A.length : Int) ≤ m
  · rw [if_pos c]
    refine h1 _ ?_
    try walk_at "rd"
    exact fin.same n (Same.refl H) (fl false (by unfold crowdShows; rw [ci, decide_eq_false (by omega)]; rfl) (.inr trivial))
  · rw [if_neg c]
    refine h2 _ (k _ _ ?_)
    try walk_at "rd"
    refine rfld (fun Q h => ⟨_, rfl, h⟩) hx C.cl C.n2 (cf_asking d p) (rfld (fun Q h => ⟨_, rfl, h⟩) hx C.cl C.n1 (cf_day d p) ?_)
    refine ⟨a, p, d, rs, A, rfl, hr, hp, (choice_iff.mp ci).2, z2, n, fun t ht => ?_⟩
    have s := Same.upd (o := .lst ((forDay rs A d).map V.int)) ht
    refine rfld (fun Q h => ⟨_, rfl, h⟩) (s _ _ hx) C.cl C.n2 (cf_asking d p) (reqD_I (ns := forDay rs A d) (ms := A) upd_same (s _ _ hp) ?_)
    refine fin.same n s (fl _ (by unfold crowdShows; rw [ci, decide_eq_true (by omega)]; rfl) (.inr trivial))
theorem rgV_every (n : Nat) : rgV 0 (n : Int) = (every n).map V.int := by
  unfold rgV every
  rw [show ((n : Int) - 0).toNat = n by omega, List.map_map]
  refine List.map_congr_left fun i _ => ?_
  show V.int (0 + (i : Int)) = V.int (i : Int)
  rw [Int.zero_add]
theorem every_len (n : Nat) : (every n).length = n := by unfold every; rw [List.length_map, List.length_range]
theorem every_in (n : Nat) : InR n (every n) := fun z hz => mem_every.mp hz
theorem fI_get {R : List Int} {a : Int} (h0 : 0 ≤ a) (h1 : a < R.length) : (R.map V.int)[a.toNat]? = some (.int (fI R a)) := idF_get (id := R) (j := a.toNat) (by omega)
theorem rix_room {p : Addr} {R : List Int} {a : Int} {Q : VK} (h : IntsAt H p R) (h0 : 0 ≤ a) (h1 : a < R.length) (q : Q (.int (fI R a)) H) : rIxL K (.ref p) (.int a) H Q := rix_lst h h0 (fI_get h0 h1) q
theorem all_at {n : Nat} {f : Int → Bool} : (every n).all f = true ↔ ∀ i : Nat, i < n → f (i : Int) = true := by
  rw [List.all_eq_true]
  constructor
  · intro h i hi
    exact h _ (mem_every.mpr ⟨Int.natCast_nonneg i, by omega⟩)
  · intro h a ha
    obtain ⟨h0, h1⟩ := mem_every.mp ha
    have := h a.toNat (by omega)
    rwa [Int.toNat_of_nonneg h0] at this
theorem getR_nat {rs : List Rq} {i : Nat} {r : Rq} (h : rs[i]? = some r) : getR rs (i : Int) = r := by
  unfold getR
  rw [List.getD_eq_getElem?_getD, Int.toNat_natCast, h]
  rfl
def apart (rs : List Rq) (R : List Int) (a : Int) : List Int := (forDay rs (every rs.length) (getR rs a).1).filter fun b => decide (fI R b = fI R a)
theorem pure_Lodged_shows (C : LodC K) (h : sp_Lodged_shows K w vs H Q E) (fin : Fin H Q Q0) : t_Lodged_shows K w (endS Q0) (start ["self", "requests", "rooms", "at", "request", "beside", "room", "one"] vs) H := by
  obtain ⟨x, p, a, m, rs, R, rfl, ⟨⟨dx, hx⟩, hp⟩, hr, z1, z2, n, q⟩ := h
  obtain ⟨rvs, ea, pr⟩ := id hr
  have fl : ∀ b H', Same H H' → lodShows rs m R = b → Q0 (.bl b) H' := fun b H' s e => fin.same n s (by rw [← e]; exact q)
  refine seq_i fun nx k => if_i fun th el h1 h2 => ?_
  try walk_at "rd"
  refine rfld (fun Q h => ⟨_, rfl, h⟩) hx C.cl C.n1 (lf_rooms p) (rlen_lst hp (List.length_map _) (rlen_lst ea pr.length (rne_int ⟨_, rfl, ?_⟩)))
  by_cases cl : (R.length : Int) = rs.length
  case neg =>
    rw [decide_eq_false cl]
    refine iteT (h1 _ ?_)
    try walk_at "rd"
    exact fl _ _ (Same.refl H) (by unfold lodShows; rw [decide_eq_false (by omega)]; rfl)
  rw [decide_eq_true cl, Bool.not_true, if_neg (by decide)]
  have cl' : R.length = rs.length := by omega
  refine tLc_list R (fun r => some (.bl (decide (0 ≤ r) && decide (r < m)))) (fun S h => rfld (fun Q h => ⟨_, rfl, h⟩) hx C.cl C.n1 (lf_rooms p) h) hp (ints_paired R) (le1000 z2) (fun D v i acc Nx hD e _ add _ => ?_) fun D hD => ?_
  · subst e
    try walk_at "rd"
    refine ⟨_, _, rfl, IsWh.int, n.upd, ?_⟩
    try walk_at "rd"
    by_cases c : 0 ≤ i
    · rw [if_pos c]
      exact add _ (by rw [decide_eq_true c, Bool.true_and])
    · rw [if_neg c]
      exact add _ (by rw [decide_eq_false c, Bool.false_and])
  have s0 := Same.upd (o := .lst (R.filterMap fun r => some (V.bl (decide (0 ≤ r) && decide (r < m))))) hD
  refine all_new (bs := R.map fun r => decide (0 ≤ r) && decide (r < m)) (fm_map _ V.bl R) ⟨_, rfl, ?_⟩
  have ea2 : (R.map fun r => decide (0 ≤ r) && decide (r < m)).all id = R.all fun r => decide (0 ≤ r) && decide (r < m) := by
    rw [List.all_map]
    rfl
  rw [ea2]
  cases ca : R.all fun r => decide (0 ≤ r) && decide (r < m) with
  | false =>
    refine iteT (h1 _ ?_)
    try walk_at "rd"
    exact fl _ _ s0 (by unfold lodShows; rw [ca, Bool.and_false]; rfl)
  | true =>
  refine iteF (h2 _ (k _ _ (seq_i fun nx2 k2 => ?_)))
  have eL : lodShows rs m R = (every rs.length).all fun b => decide ((apart rs R b).length ≤ 1) := by
    unfold lodShows
    rw [decide_eq_true cl', ca]
    rfl
  rw [eL] at fl
  have n0 : NoT (upd H D (.lst (R.filterMap fun r => some (V.bl (decide (0 ≤ r) && decide (r < m)))))) := n.upd
  generalize (upd H D (.lst (R.filterMap fun r => some (V.bl (decide (0 ≤ r) && decide (r < m))))) : Hp) = H1 at s0 n0 ⊢
  refine tFor_enum (K := K) (a := a) (xs := rvs) (fun S h => ⟨_, rfl, h⟩) (fun i σ H' => ∃ x3 x4 x5 x6 x7, σ = [some (.ref x), some (.ref a), some (.int m), x3, x4, x5, x6, x7] ∧ Same H H' ∧ NoT H' ∧ ∀ j : Nat, j < i → (apart rs R (j : Int)).length ≤ 1) ⟨none, none, none, none, none, rfl, s0, n0, fun j hj => (by omega)⟩ ?_ ?_ ?_
  · rintro i σ H' ⟨_, _, _, _, _, rfl, s, _⟩
    exact s _ _ ea
  · rintro i v σ H' T nxL kL hv ⟨x3, x4, x5, x6, x7, rfl, s, n', ok⟩ hT
    obtain ⟨r, hri, t, rfl, ht⟩ := Paired.getR pr hv
    have hi : i < rs.length := (List.getElem?_eq_some_iff.mp hri).1
    have eri := getR_nat hri
    refine gtup2 upd_same (seq_i fun nx3 k3 => ?_)
    have s1 := s.trans (Same.upd (o := .tup [.int i, .ref t]) hT)
    have n1 : NoT (upd H' T (.tup [.int i, .ref t])) := n'.upd
    generalize (upd H' T (.tup [.int i, .ref t]) : Hp) = H2 at s1 n1 ⊢
    unfold tLstRg tRg1
    try walk_at "rd"
    refine rlen_lst (s1 _ _ ea) pr.length ⟨_, rfl, RgOk.of_le (by decide) (by omega) (by decide) (by omega), fun b hb => ?_⟩
    have s2 := s1.trans (Same.upd (o := .lst (rgV 0 (rs.length : Int))) hb)
    refine rix_tup (s2 _ _ ht) (by decide) rfl ?_
    refine ⟨a, b, _, rs, every rs.length, rfl, hr.same s2, by show _ = _; rw [upd_same, rgV_every], every_in _, by rw [every_len]; omega, n1.upd, fun p2 hp2 => k3 _ _ (if_i fun th el h3 h4 => ?_)⟩
    have er1 : r.1 = (getR rs (i : Int)).1 := by rw [eri]
    have s3 := s2.trans (Same.upd (o := .lst ((forDay rs (every rs.length) r.1).map V.int)) hp2)
    have n3 : NoT (upd (upd H2 b (.lst (rgV 0 (rs.length : Int)))) p2 (.lst ((forDay rs (every rs.length) r.1).map V.int))) := n1.upd.upd
    have hB : IntsAt (upd (upd H2 b (.lst (rgV 0 (rs.length : Int)))) p2 (.lst ((forDay rs (every rs.length) r.1).map V.int))) p2 (forDay rs (every rs.length) r.1) := upd_same
    have inB : ∀ z ∈ forDay rs (every rs.length) r.1, 0 ≤ z ∧ z < rs.length := fun z hz => mem_every.mp (forDay_mem.mp hz).1
    have zB : (forDay rs (every rs.length) r.1).length ≤ 1000 := Nat.le_trans (List.length_filter_le _ _) (by rw [every_len]; omega)
    generalize (upd (upd H2 b (.lst (rgV 0 (rs.length : Int)))) p2 (.lst ((forDay rs (every rs.length) r.1).map V.int)) : Hp) = H3 at s3 n3 hB ⊢
    try walk_at "rd"
    refine tLc_list (forDay rs (every rs.length) r.1) (fun z => if decide (fI R z = fI R (i : Int)) = true then some (.int z) else none) (fun S h => ⟨_, rfl, h⟩) hB (ints_paired _) (le1000 zB) (fun D2 v z acc Nx hD2 e hz add skip => ?_) fun D2 hD2 => ?_
    · subst e
      obtain ⟨z0, z1⟩ := inB z hz
      have s4 := s3.trans (Same.upd (o := .lst acc) hD2)
      try walk_at "rd"
      refine rfld (fun Q h => ⟨_, rfl, h⟩) (s4 _ _ hx) C.cl C.n1 (lf_rooms p) (rix_room (s4 _ _ hp) z0 (by omega) ?_)
      refine rfld (fun Q h => ⟨_, rfl, h⟩) (s4 _ _ hx) C.cl C.n1 (lf_rooms p) (rix_room (s4 _ _ hp) (Int.natCast_nonneg i) (by omega) (req_int ⟨_, rfl, ?_⟩))
      by_cases c : fI R z = fI R (i : Int)
      · rw [decide_eq_true c]
        exact iteT (add _ (if_pos (decide_eq_true c)))
      · rw [decide_eq_false c]
        exact iteF (skip (if_neg (by rw [decide_eq_false c]; decide)))
    rw [fm_filter (fun z => decide (fI R z = fI R (i : Int))) V.int]
    refine rlen_lst upd_same (List.length_map _) ?_
    try walk_at "rd"
    have eap : ((forDay rs (every rs.length) r.1).filter fun z => decide (fI R z = fI R (i : Int))) = apart rs R (i : Int) := by unfold apart; rw [← er1]
    rw [eap]
    have s5 := s3.trans (Same.upd (o := .lst ((apart rs R (i : Int)).map V.int)) hD2)
    by_cases c : (1 : Int) < (apart rs R (i : Int)).length
    · rw [if_pos c]
      refine h3 _ ?_
      try walk_at "rd"
      refine fl _ _ s5 ?_
      rw [Bool.eq_false_iff]
      intro z
      have := of_decide_eq_true (all_at.mp z i hi)
      omega
    · rw [if_neg c]
      refine h4 _ (kL _ _ ⟨_, _, _, _, _, rfl, s5, n3.upd, fun j hj => ?_⟩)
      by_cases cj : j < i
      · exact ok j cj
      · have : j = i := by omega
        subst this
        omega
  · rintro σ H' ⟨x3, x4, x5, x6, x7, rfl, s, n', ok⟩
    refine k2 _ _ ?_
    try walk_at "rd"
    exact fl _ _ s (all_at.mpr fun i hi => decide_eq_true (ok i (by rw [pr.length]; exact hi)))
end
end Spn

namespace Spn
open PySem PySem.Spec PyProof.Rows L2 LamX
/-! ### behind lodged: all but the tables as it stood, new lists, tuples and the table's code objects, one new instance -/
def keH (H H4 : Hp) : Hp := fun b => match H b, H4 b with
  | some _, o => o
  | none, some (.lst l) => some (.lst l)
  | none, some (.tup l) => some (.tup l)
  | none, some (.ext f) => some (.ext f)
  | none, _ => none
theorem keH_old {H H4 : Hp} {b : Addr} {o : HO} (h : H b = some o) : keH H H4 b = H4 b := by
  unfold keH
  rw [h]
theorem keH_lst {H H4 : Hp} {b : Addr} {l : List V} (h : H4 b = some (.lst l)) : keH H H4 b = some (.lst l) := by
  unfold keH
  rw [h]
  cases H b <;> rfl
theorem keH_ext {H H4 : Hp} {b : Addr} {f : Heap → Prop} (h : H4 b = some (.ext f)) : keH H H4 b = some (.ext f) := by
  unfold keH
  rw [h]
  cases H b <;> rfl
theorem keH_sub {H H4 : Hp} {b : Addr} {o : HO} (e : keH H H4 b = some o) : H4 b = some o := by
  unfold keH at e
  cases h : H b with
  | some u => rw [h] at e; exact e
  | none =>
    rw [h] at e
    cases q : H4 b with
    | none => rw [q] at e; cases e
    | some u =>
      rw [q] at e
      cases u with
      | lst l => exact e
      | tup l => exact e
      | ext f => exact e
      | _ => cases e
theorem keH_ins {H H4 : Hp} {b C dx : Addr} {fs : List (Str × V)} (h : H b = none) (e : keH H H4 b = some (.ins C dx fs)) : False := by
  unfold keH at e
  rw [h] at e
  cases q : H4 b with
  | none => rw [q] at e; cases e
  | some u =>
    rw [q] at e
    cases u <;> cases e
def kxH (H H4 : Hp) (x dx : Addr) (o : HO) : Hp := upd (upd (keH H H4) dx (.own x)) x o
theorem kxH_at {H H4 : Hp} {x dx b C : Addr} {fs : List (Str × V)} {o : HO} (ex : H4 x = some (.ins C dx fs)) (ed : H4 dx = some (.own x)) (h : keH H H4 b = some o) (ni : ∀ C dx fs, o ≠ .ins C dx fs) (no : ∀ y, o ≠ .own y) : kxH H H4 x dx (.ins C dx fs) b = some o := by
  unfold kxH
  have h4 := keH_sub h
  rw [upd_ne (ne_of h4 ex (fun z => ni _ _ _ z)), upd_ne (ne_of h4 ed (fun z => no _ z))]
  exact h
theorem kxH_old {H H4 : Hp} {x dx b : Addr} {o u : HO} (hx : H x = none) (hd : H dx = none) (h : H b = some u) : kxH H H4 x dx o b = H4 b := by
  unfold kxH
  rw [upd_ne (ne_of_none h hx), upd_ne (ne_of_none h hd)]
  exact keH_old h
theorem kxH_shr {H H4 : Hp} {x dx C : Addr} {fs : List (Str × V)} (n4 : NoT H4) (s : ExT H H4) (hx : H x = none) (hd : H dx = none) (ne : dx ≠ x) (ex : H4 x = some (.ins C dx fs)) (ed : H4 dx = some (.own x)) : Shr H (kxH H H4 x dx (.ins C dx fs)) H4 := by
  refine ⟨fun b o e => kxH_old hx hd e, fun b o e => ?_, fun a C1 dx1 fs1 e => ?_, fun a o e => ?_⟩
  · unfold kxH at e
    by_cases c : b = x
    · subst c; rw [upd_same] at e; rw [ex]; exact e
    · rw [upd_ne c] at e
      by_cases d : b = dx
      · subst d; rw [upd_same] at e; rw [ed]; exact e
      · rw [upd_ne d] at e
        exact keH_sub e
  · unfold kxH at e ⊢
    by_cases c : a = x
    · subst c
      rw [upd_same] at e
      cases e
      exact .inr (by rw [upd_ne ne, upd_same])
    · rw [upd_ne c] at e
      by_cases d : a = dx
      · subst d; rw [upd_same] at e; cases e
      · rw [upd_ne d] at e
        cases h : H a with
        | some u =>
          rw [keH_old h] at e
          refine .inl ?_
          by_cases t : ∃ ps, u = .tbl ps
          · obtain ⟨ps, rfl⟩ := t
            obtain ⟨qs, z⟩ := s.t a ps h
            rw [z] at e
            cases e
          · have := s.e a u h fun ps z => t ⟨ps, z⟩
            rw [this] at e
            cases e
            exact ⟨_, _, rfl⟩
        | none => exact (keH_ins h e).elim
  · unfold kxH at e
    by_cases c : a = x
    · subst c; rw [upd_same] at e; cases e; rfl
    · rw [upd_ne c] at e
      by_cases d : a = dx
      · subst d; rw [upd_same] at e; cases e; rfl
      · rw [upd_ne d] at e
        exact n4 a o (keH_sub e)
theorem Tabs.upd {T : List (Addr × Str)} {H : Hp} {p : Addr} {l : List V} (t : Tabs T H) (h : H p = none ∨ ∃ l', H p = some (.lst l')) : Tabs T (L2.upd H p (.lst l)) := fun q hq => by
  obtain ⟨ps, hP, tr, am⟩ := t q hq
  have ne : ∀ b o, H b = some o → (∀ l', o ≠ .lst l') → b ≠ p := fun b o e n z => by
    subst z
    rcases h with h | ⟨l', h⟩
    · rw [h] at e; cases e
    · rw [h] at e; cases e; exact n _ rfl
  refine ⟨ps, (upd_ne (ne _ _ hP (fun l' z => by cases z))).trans hP, tr, fun pos cv hc => ?_⟩
  obtain ⟨c, e1, e2⟩ := am pos cv hc
  exact ⟨c, e1, (upd_ne (ne _ _ e2 (fun l' z => by cases z))).trans e2⟩
theorem Tabs.fresh {T : List (Addr × Str)} {H : Hp} {p : Addr} {o : HO} (t : Tabs T H) (h : H p = none) : Tabs T (L2.upd H p o) := LamX.Tabs.ext t fun b u e => (upd_ne (ne_of_none e h)).trans e
theorem ExT.set {H H' : Hp} {p : Addr} {o : HO} (x : ExT H H') (h : H p = none) : ExT H (upd H' p o) :=
  ⟨fun b u e n => (upd_ne (ne_of_none e h)).trans (x.e b u e n), fun b ps e => by
    obtain ⟨qs, z⟩ := x.t b ps e
    exact ⟨qs, (upd_ne (ne_of_none e h)).trans z⟩⟩
/-- a new thing is handed back, the rest forgotten -/
theorem Fin.made {H H4 : Hp} {Q Q0 : VK} {x dx C : Addr} {fs : List (Str × V)} {T : List (Addr × Str)} (fin : Fin H Q Q0) (t0 : Tabs T H) (n4 : NoT H4) (s : ExT H H4) (t4 : Tabs T H4) (hx : H x = none) (hd : H dx = none) (ne : dx ≠ x) (ex : H4 x = some (.ins C dx fs)) (ed : H4 dx = some (.own x))
    (q : ∀ H5, ExT H H5 → Tabs T H5 → NoT H5 → H5 x = some (.ins C dx fs) → (∀ b l, H4 b = some (.lst l) → H5 b = some (.lst l)) → Q (.ref x) H5) : Q0 (.ref x) H4 := by
  have S := kxH_shr n4 s hx hd ne ex ed
  have old : ∀ b u, H b = some u → kxH H H4 x dx (.ins C dx fs) b = H4 b := fun b u e => kxH_old hx hd e
  refine fin _ _ _ S (q _ ⟨fun b u e n => (old b u e).trans (s.e b u e n), fun b ps e => ?_⟩ (fun p hp => ?_) S.noT upd_same fun b l h => kxH_at ex ed (keH_lst h) (fun _ _ _ z => by cases z) (fun _ z => by cases z))
  · obtain ⟨qs, z⟩ := s.t b ps e
    exact ⟨qs, (old b _ e).trans z⟩
  · obtain ⟨ps0, hP0, _⟩ := t0 p hp
    obtain ⟨ps, hP, tr, am⟩ := t4 p hp
    refine ⟨ps, (old _ _ hP0).trans hP, tr, fun pos cv hc => ?_⟩
    obtain ⟨c, e1, e2⟩ := am pos cv hc
    exact ⟨c, e1, kxH_at ex ed (keH_ext e2) (fun _ _ _ z => by cases z) (fun _ z => by cases z)⟩
section
variable {K : PySem.W.Frag} {w : World} {vs : List V} {H : Hp} {Q Q0 : VK} {E : XK}
theorem rin {a : Addr} {z : Int} {T : List Int} {Q : VK} (h : IntsAt H a T) (q : Q (.bl (decide (z ∈ T))) H) : rIn K false (.int z) (.ref a) H Q :=
  ⟨a, _, rfl, .inl (SqL.of h), rfl, by rw [List.all_map]; exact List.all_eq_true.mpr fun _ _ => rfl, by rw [inV_ints]; exact q⟩
theorem pure_lodged (h : sp_lodged K w vs H Q E) (fin : Fin H Q Q0) : t_lodged K w (endS Q0) (start ["requests", "rooms", "found", "met", "at", "day", "there", "used", "room", "request", "one"] vs) H := by
  obtain ⟨a, m, rs, rfl, hr, ok, zr, m0, n, tt, q⟩ := h
  obtain ⟨rvs, ea, pr⟩ := id hr
  refine seq_i fun nx k => ?_
  try walk_at "rd"
  refine ⟨a, rs, rfl, hr, ok, by omega, n, k _ _ (seq_i fun nx2 k2 => ?_)⟩
  try walk_at "rd"
  refine ⟨m, 0, rfl, m0, n, k2 _ _ (seq_i fun nx3 k3 => ?_)⟩
  try walk_at "rd"
  refine tLc_list rs (fun _ => some (.int (-1))) (fun R h => ⟨_, rfl, h⟩) ea pr (le1000 (by omega)) (fun D v r acc Nx hD _ _ add _ => ?_) fun pf hpf => k3 _ _ (seq_i fun nx4 k4 => ?_)
  · try walk_at "rd"
    exact add _ rfl
  rw [fm_const]
  have x1 : ExT H (upd H pf (.lst (List.replicate rs.length (V.int (-1))))) := ExT.of (Same.upd hpf)
  have t1 := Tabs.fresh (o := .lst (List.replicate rs.length (V.int (-1)))) tt hpf
  have f1 : IntsAt (upd H pf (.lst (List.replicate rs.length (V.int (-1))))) pf (List.replicate rs.length (-1)) := by
    show _ = _
    rw [upd_same, List.map_replicate]
  have n1 : NoT (upd H pf (.lst (List.replicate rs.length (V.int (-1))))) := n.upd
  generalize (upd H pf (.lst (List.replicate rs.length (V.int (-1)))) : Hp) = H1 at x1 t1 f1 n1 ⊢
  try walk_at "rd"
  refine ⟨Nat.zero_le _, fun pm hpm => k4 _ _ (seq_i fun nx5 k5 => ?_)⟩
  have hpm0 : H pm = none := x1.free hpm
  have nfm : pf ≠ pm := ne_of_none f1 hpm
  have x2 : ExT H (upd H1 pm (.lst [])) := x1.set hpm0
  have t2 := Tabs.fresh (o := .lst []) t1 hpm
  have f2 : IntsAt (upd H1 pm (.lst [])) pf (List.replicate rs.length (-1)) := (upd_ne nfm).trans f1
  have g2 : IntsAt (upd H1 pm (.lst [])) pm [] := upd_same
  have n2 : NoT (upd H1 pm (.lst [])) := n1.upd
  generalize (upd H1 pm (.lst []) : Hp) = H2 at x2 t2 f2 g2 n2 ⊢
  refine tFor_lvia ⟨a, rs, rfl, hr.ext x2.e, by omega, n2, t2, fun ns pl H3 x3 t3 n3 hpl hl pm' pw => ?_⟩
  have hpl0 : H pl = none := x2.free hpl
  have nfl : pf ≠ pl := ne_of_none f2 hpl
  have nml : pm ≠ pl := ne_of_none g2 hpl
  have nd : ns.Nodup := pm'.nodup_iff.mpr ((every_pw rs.length).imp fun h => by omega)
  have inr : ∀ z ∈ ns, 0 ≤ z ∧ z < rs.length := fun z hz => mem_every.mp (pm'.mem_iff.mp hz)
  have lns : ns.length = rs.length := by rw [pm'.length_eq, every_len]
  refine tFor_lst (K := K) (a := pl) (xs := ns.map V.int) (fun R h => h) (fun i σ H' => ∃ x4 x5 x6 x7 x8 F, σ = [some (.ref a), some (.int m), some (.ref pf), some (.ref pm), x4, x5, x6, x7, x8, none, none] ∧ ExT H H' ∧ NoT H' ∧ Tabs (TT K) H' ∧ IntsAt H' pl ns ∧ IntsAt H' pf F ∧ IntsAt H' pm (ns.take i) ∧ LoI rs m (ns.take i) F) ⟨none, none, none, none, none, _, rfl, x2.trans x3, n3, t3, hl, x3.at_ f2 (fun ps z => by cases z), x3.at_ g2 (fun ps z => by cases z), LoI.start rs m⟩ ?_ ?_ ?_
  · rintro i σ H' ⟨_, _, _, _, _, _, rfl, _, _, _, h, _⟩
    exact h
  · rintro i v σ H' nxL kL hv ⟨x4, x5, x6, x7, x8, F, rfl, x', n', t', hl', hf', hm', I⟩
    obtain ⟨b, hb, rfl⟩ : ∃ b, ns[i]? = some b ∧ v = .int b := by
      rw [List.getElem?_map] at hv
      cases e : ns[i]? with
      | none => rw [e] at hv; cases hv
      | some b => rw [e] at hv; exact ⟨b, rfl, (Option.some.inj hv).symm⟩
    have tk := take_snoc hb
    have hi : i < ns.length := (List.getElem?_eq_some_iff.mp hb).1
    obtain ⟨b0, b1⟩ := inr b (List.mem_of_getElem? hb)
    have hr' := hr.ext x'.e
    refine seq_i fun nx6 k6 => ?_
    try walk_at "rd"
    refine rix_req hr' b0 b1 fun t ht => rix_tup ht (by decide) rfl (k6 _ _ (seq_i fun nx7 k7 => ?_))
    try walk_at "rd"
    have nrm : a ≠ pm := ne_of_none ea hpm0
    refine ⟨ty_lst (K := K) hm', rapp (K := K) hm' (by rw [List.length_map, List.length_take, sizeLine_eq]; omega) (k7 _ _ (seq_i fun nx8 k8 => ?_))⟩
    have em : (ns.take i).map V.int ++ [V.int b] = (ns.take i ++ [b]).map V.int := by rw [List.map_append]; rfl
    rw [em]
    have x4' : ExT H (upd H' pm (.lst ((ns.take i ++ [b]).map V.int))) := x'.set hpm0
    have n4 : NoT (upd H' pm (.lst ((ns.take i ++ [b]).map V.int))) := n'.upd
    have t4 := Tabs.upd (l := (ns.take i ++ [b]).map V.int) t' (.inr ⟨_, hm'⟩)
    have hl4 : IntsAt (upd H' pm (.lst ((ns.take i ++ [b]).map V.int))) pl ns := (upd_ne nml.symm).trans hl'
    have hf4 : IntsAt (upd H' pm (.lst ((ns.take i ++ [b]).map V.int))) pf F := (upd_ne nfm).trans hf'
    have hm4 : IntsAt (upd H' pm (.lst ((ns.take i ++ [b]).map V.int))) pm (ns.take i ++ [b]) := upd_same
    generalize (upd H' pm (.lst ((ns.take i ++ [b]).map V.int)) : Hp) = H4 at x4' n4 t4 hl4 hf4 hm4 ⊢
    have inP : ∀ z ∈ ns.take i ++ [b], 0 ≤ z ∧ z < rs.length := fun z hz => by
      rw [← tk] at hz
      exact inr z (List.mem_of_mem_take hz)
    have lP : (ns.take i ++ [b]).length ≤ 1000 := by rw [← tk, List.length_take]; omega
    try walk_at "rd"
    refine ⟨a, pm, _, rs, ns.take i ++ [b], rfl, hr.ext x4'.e, hm4, inP, lP, n4, fun pt hpt => k8 _ _ (seq_i fun nx9 k9 => if_i fun th el h1 h2 => ?_)⟩
    have x5' := x4'.trans (ExT.of (Same.upd (o := .lst ((forDay rs (ns.take i ++ [b]) (getR rs b).1).map V.int)) hpt))
    have n5 : NoT (upd H4 pt (.lst ((forDay rs (ns.take i ++ [b]) (getR rs b).1).map V.int))) := n4.upd
    have t5 := Tabs.fresh (o := .lst ((forDay rs (ns.take i ++ [b]) (getR rs b).1).map V.int)) t4 hpt
    have s5 := Same.upd (o := .lst ((forDay rs (ns.take i ++ [b]) (getR rs b).1).map V.int)) hpt
    have hl5 := s5 _ _ hl4
    have hf5 := s5 _ _ hf4
    have hm5 := s5 _ _ hm4
    have ht5 : IntsAt (upd H4 pt (.lst ((forDay rs (ns.take i ++ [b]) (getR rs b).1).map V.int))) pt (forDay rs (ns.take i ++ [b]) (getR rs b).1) := upd_same
    generalize (upd H4 pt (.lst ((forDay rs (ns.take i ++ [b]) (getR rs b).1).map V.int)) : Hp) = H5 at x5' n5 t5 hl5 hf5 hm5 ht5 ⊢
    have lth : (forDay rs (ns.take i ++ [b]) (getR rs b).1).length ≤ 1000 := Nat.le_trans (List.length_filter_le _ _) lP
    have nbP : b ∉ ns.take i := fun z => by
      have nd2 : (ns.take (i + 1)).Nodup := nd.sublist (List.take_sublist _ _)
      rw [tk] at nd2
      exact (List.nodup_append.mp nd2).2.2 b z b (List.mem_singleton.mpr rfl) rfl
    have late : ∀ z ∈ ns.take i, (getR rs z).1 ≤ (getR rs b).1 := fun z hz => by
      have pw2 : (ns.take (i + 1)).Pairwise (fun x y => (getR rs x).1 ≤ (getR rs y).1) := pw.sublist (List.take_sublist _ _)
      rw [tk] at pw2
      exact (List.pairwise_append.mp pw2).2.2 z hz b (List.mem_singleton.mpr rfl)
    try walk_at "rd"
    refine rlen_lst ht5 (List.length_map _) ?_
    try walk_at "rd"
    by_cases c : m < ((forDay rs (ns.take i ++ [b]) (getR rs b).1).length : Int)
    · rw [if_pos c]
      refine h1 _ ?_
      refine ⟨_, rfl, _, rfl, pt, _, rfl, SqL.of ht5, fun A pa pA wA hpa => fun x dx hx hd nx0 => ?_⟩
      have sa := Same.upd (o := .lst (A.map V.int)) hpa
      have xA := x5'.trans (ExT.of sa)
      have tA := Tabs.fresh (o := .lst (A.map V.int)) t5 hpa
      have lA : IntsAt (upd H5 pa (.lst (A.map V.int))) pa A := upd_same
      have nA : NoT (upd H5 pa (.lst (A.map V.int))) := n5.upd
      generalize (upd H5 pa (.lst (A.map V.int)) : Hp) = HA at sa xA tA lA nA hx hd ⊢
      have sO := Same.upd (o := .own x) hd
      have hxO : (upd HA dx (.own x)) x = none := by rw [upd_ne nx0.symm]; exact hx
      have sB := Same.upd2 (o := .ins (He.ga K "Crowd") dx []) sO hxO
      refine ⟨x, dx, _, pa, _, rfl, upd_same, sB _ _ lA, nA.upd.upd, fun H9 pc hpc ex ec keep n9 => ⟨rfl, ?_⟩⟩
      have ed : H9 dx = some (.own x) := keep _ _ (by rw [upd_ne nx0, upd_same]) nx0
      have s9 : ∀ b o, HA b = some o → H9 b = some o := fun b o e => keep b o (sB b o e) (ne_of_none e hx)
      refine fin.made tt n9 (xA.trans (ExT.of s9)) (LamX.Tabs.ext tA s9) (xA.free hx) (xA.free hd) nx0 ex ed fun H10 x10 t10 n10 ex10 l10 => ?_
      obtain ⟨c1, c2⟩ := crowd_ok (b := (getR rs b).1) (by rw [← tk]; exact nd.sublist (List.take_sublist _ _)) inP c pA wA
      exact q H10 x x10 t10 n10 (xA.free hx) (.inr ⟨pc, _, A, xA.free (sB.free hpc), ⟨⟨dx, ex10⟩, l10 _ _ ec⟩, c1, b, mem_every.mpr ⟨b0, b1⟩, rfl, c2⟩)
    · rw [if_neg c]
      refine h2 _ (k9 _ _ (seq_i fun nx10 k10 => ?_))
      try walk_at "rd"
      refine tLc_list (forDay rs (ns.take i ++ [b]) (getR rs b).1) (fun z => some (.int (fI F z))) (fun R h => ⟨_, rfl, h⟩) ht5 (ints_paired _) (le1000 lth) (fun D v z acc Nx hD e hz add _ => ?_) fun pu hpu => k10 _ _ (seq_i fun nx11 k11 => ?_)
      · subst e
        obtain ⟨z0, z1⟩ := inP z (forDay_mem.mp hz).1
        try walk_at "rd"
        exact rix_room (Same.upd hD _ _ hf5) z0 (by rw [I.len]; exact z1) (add _ rfl)
      rw [fm_map (fI F) V.int]
      have s6 := Same.upd (o := .lst (((forDay rs (ns.take i ++ [b]) (getR rs b).1).map (fI F)).map V.int)) hpu
      have x6' := x5'.trans (ExT.of s6)
      have n6 : NoT (upd H5 pu (.lst (((forDay rs (ns.take i ++ [b]) (getR rs b).1).map (fI F)).map V.int))) := n5.upd
      have t6 := Tabs.fresh (o := .lst (((forDay rs (ns.take i ++ [b]) (getR rs b).1).map (fI F)).map V.int)) t5 hpu
      have hl6 := s6 _ _ hl5
      have hf6 := s6 _ _ hf5
      have hm6 := s6 _ _ hm5
      have hu6 : IntsAt (upd H5 pu (.lst (((forDay rs (ns.take i ++ [b]) (getR rs b).1).map (fI F)).map V.int))) pu ((forDay rs (ns.take i ++ [b]) (getR rs b).1).map (fI F)) := upd_same
      generalize (upd H5 pu (.lst (((forDay rs (ns.take i ++ [b]) (getR rs b).1).map (fI F)).map V.int)) : Hp) = H6 at s6 x6' n6 t6 hl6 hf6 hm6 hu6 ⊢
      try walk_at "rd"
      refine k11 _ _ (seq_i fun nx12 k12 => ?_)
      have lim : ∀ r : Nat, (∀ j : Int, 0 ≤ j → j < r → j ∈ (forDay rs (ns.take i ++ [b]) (getR rs b).1).map (fI F)) → r ≤ (forDay rs (ns.take i ++ [b]) (getR rs b).1).length := fun r hr => by
        have := sub_length (ks := (List.range r).map Int.ofNat) (List.pairwise_map.mpr (List.pairwise_lt_range.imp fun h => Int.ofNat_lt.mpr h)) fun j hj => by
          obtain ⟨j', hj', rfl⟩ := List.mem_map.mp hj
          have := List.mem_range.mp hj'
          exact hr j' (Int.natCast_nonneg j') (Int.ofNat_lt.mpr this)
        rw [List.length_map, List.length_map, List.length_range] at this
        exact this
      refine tWhile_i (fun mm σ H' => ∃ r : Nat, σ = [some (.ref a), some (.int m), some (.ref pf), some (.ref pm), some (.int b), some (.int (getR rs b).1), some (.ref pt), some (.ref pu), some (.int r), none, none] ∧ H' = H6 ∧ (∀ j : Int, 0 ≤ j → j < r → j ∈ (forDay rs (ns.take i ++ [b]) (getR rs b).1).map (fI F)) ∧ mm = (forDay rs (ns.take i ++ [b]) (getR rs b).1).length + 1 - r) ⟨_, 0, rfl, rfl, fun j h0 h1 => (by omega), rfl⟩ ?_
      rintro mm σ H' th2 el2 hth hel ⟨r, rfl, rfl, below, rfl⟩
      try walk_at "rd"
      refine rin hu6 ⟨_, rfl, ?_⟩
      by_cases cr : (r : Int) ∈ (forDay rs (ns.take i ++ [b]) (getR rs b).1).map (fI F)
      · rw [decide_eq_true cr]
        have below' : ∀ j : Int, 0 ≤ j → j < (r + 1 : Nat) → j ∈ (forDay rs (ns.take i ++ [b]) (getR rs b).1).map (fI F) := fun j h0 h1 => by
          by_cases e : j = r
          · rw [e]; exact cr
          · exact below j h0 (by omega)
        have := lim (r + 1) below'
        refine iteT (hth _ fun nxW kW => ?_)
        try walk_at "rd"
        exact kW _ _ _ (by omega) ⟨r + 1, by rw [Int.natCast_succ], rfl, below', rfl⟩
      · rw [decide_eq_false cr]
        refine iteF (hel _ (k12 _ _ ?_))
        have bF : b.toNat < F.length := by rw [I.len]; omega
        refine tAsg_i (v := .int r) (fun Q h => ⟨_, rfl, h⟩) (gsub_set (j := b.toNat) (fun Q h => ⟨_, rfl, h⟩) (fun Q h => ⟨_, rfl, h⟩) hf6 (by omega) (by rw [List.length_map]; exact bF) (kL _ _ ⟨_, _, _, _, _, F.set b.toNat r, rfl, x6'.set hpf, n6.upd, Tabs.upd t6 (.inr ⟨_, hf6⟩), (upd_ne nfl.symm).trans hl6, ?_, ?_, ?_⟩))
        · show _ = _
          rw [upd_same, List.map_set]
        · rw [tk]
          exact (upd_ne nfm.symm).trans hm6
        · rw [tk]
          exact I.turn ok nbP b0 b1 late (by omega) (Int.natCast_nonneg r) cr below
  · rintro σ H' ⟨x4, x5, x6, x7, x8, F, rfl, x', n', t', hl', hf', hm', I⟩
    refine k5 _ _ ?_
    rw [List.length_map, List.take_of_length_le (Nat.le_refl _)] at I
    obtain ⟨d1, d2⟩ := I.done ok pm'
    refine ⟨_, rfl, fun x dx hx hd nx0 => ?_⟩
    have sO := Same.upd (o := .own x) hd
    have hxO : (upd H' dx (.own x)) x = none := by rw [upd_ne nx0.symm]; exact hx
    have sB := Same.upd2 (o := .ins (He.ga K "Lodged") dx []) sO hxO
    refine ⟨x, dx, pf, _, rfl, upd_same, sB _ _ hf', n'.upd.upd, fun H9 pc hpc ex ec keep n9 => ⟨rfl, ?_⟩⟩
    have ed : H9 dx = some (.own x) := keep _ _ (by rw [upd_ne nx0, upd_same]) nx0
    have s9 : ∀ b o, H' b = some o → H9 b = some o := fun b o e => keep b o (sB b o e) (ne_of_none e hx)
    refine fin.made tt n9 (x'.trans (ExT.of s9)) (LamX.Tabs.ext t' s9) (x'.free hx) (x'.free hd) nx0 ex ed fun H10 x10 t10 n10 ex10 l10 => ?_
    exact q H10 x x10 t10 n10 (x'.free hx) (.inl ⟨pc, F, x'.free (sB.free hpc), ⟨⟨dx, ex10⟩, l10 _ _ ec⟩, d1, d2⟩)
end
end Spn

namespace Spn
open PySem PySem.Spec PyProof.Rows L2 LamX
structure HomeC (K : PySem.W.Frag) : Prop where
  l : LodC K
  c : CrowdC K
  il : Isa K "Lodged"
  ic : Isa K "Crowd"
  lc : Kit K "Lodged" "Crowd" false
  cc : Kit K "Crowd" "Crowd" true
def sp__law_due (K : PySem.W.Frag) (w : World) : Sp := fun vs H Q _ => ∃ a m x rs, vs = [.ref a, .int m, .ref x] ∧ ReqsAt H a rs ∧ OkR rs ∧ rs.length ≤ 900 ∧ NoT H ∧
  ((∃ p R, LodAt K H x p R ∧ R.length ≤ 1000 ∧ Q (.bl (lodShows rs m R)) H) ∨ (∃ p d A, CrowdAt K H x p d A ∧ A.length ≤ 1000 ∧ Q (.bl (crowdShows rs m d A)) H))
end Spn

namespace Spn
open PySem PySem.Spec PyProof.Rows L2
/-! ### readings -/
/-- _law_due -/
def t__law_due (K : PySem.W.Frag) (w : World) : TS :=
  (tSeq (tIfS (tB (tCB (rIsi K) (tCons (tVar 2) (tCons (tC (.ref (He.ga K "Crowd"))) tNil)))) (tSeq (tIfS (tOr (tNot (tB (tCall (sp__law_whole K w) [] E0 (tCons (tFld K (tVar 2) "day") tNil)))) (tOr (tNot (tB (tCall (sp__law_chosen K w) [] E0 (tCons (tVar 0) (tCons (tFld K (tVar 2) "asking") tNil))))) (tTest (tOp qLe (tCB (qLen K) (tCons (tFld K (tVar 2) "asking") tNil)) (tVar 1))))) (tRet (tC (.bl false))) tNext)
  (tRet (tOp (rEqD K) (tCall (sp__law_there K w) [] E0 (tCons (tVar 0) (tCons (tFld K (tVar 2) "asking") (tCons (tFld K (tVar 2) "day") tNil)))) (tFld K (tVar 2) "asking")))) tNext)
  (tSeq (tIfS (tOr (tTest (tOp rNe (tCB (qLen K) (tCons (tFld K (tVar 2) "rooms") tNil)) (tCB (qLen K) (tCons (tVar 0) tNil)))) (tNot (tB (tCB (rAll K) (tCons (tLc (iList K (tFld K (tVar 2) "rooms")) (gName 6) tYes (tAndV (tCall (sp__law_whole K w) [] E0 (tCons (tVar 6) tNil)) (tChain qLe qLt (tC (.int 0)) (tVar 6) (tVar 1))) [6]) tNil))))) (tRet (tC (.bl false))) tNext)
  (tSeq (tAsg (tLstRg (tRg1 (tCB (qLen K) (tCons (tVar 0) tNil)))) (gName 3))
  (tSeq (tFor (iList K (tVar 3)) (gName 4) (tSeq (tAsg (tLc (iList K (tVar 3)) (gName 6) (tTest (tOp rEq (tOp (rIxL K) (tFld K (tVar 2) "rooms") (tVar 6)) (tOp (rIxL K) (tFld K (tVar 2) "rooms") (tVar 4)))) (tVar 6) [6]) (gName 5))
  (tIfS (tTest (tOp (rNeD K) (tCall (sp__law_there K w) [] E0 (tCons (tVar 0) (tCons (tVar 5) (tCons (tOp (rIxT K) (tOp (rIxL K) (tVar 0) (tVar 4)) (tC (.int 0))) tNil)))) (tLc (iList K (tLst (tCons (tVar 4) tNil))) (gName 6) (tTest (tOp (rIn K false) (tVar 6) (tVar 5))) (tVar 6) [6]))) (tRet (tC (.bl false))) tNext)))
  (tRet (tC (.bl true)))))))

end Spn

namespace Spn
open PySem PySem.Spec PyProof.Rows L2 LamX
section
variable {K : PySem.W.Frag} {w : World} {vs : List V} {H : Hp} {Q Q0 : VK} {E : XK}
theorem pure__law_due (C : HomeC K) (h : sp__law_due K w vs H Q E) (fin : Fin H Q Q0) : t__law_due K w (endS Q0) (start ["_law_requests_here", "_law_rooms_here", "_law_found", "_law_every", "_law_at", "_law_mine", "_law_one"] vs) H := by
  obtain ⟨a, m, x, rs, rfl, hr, ok, z1, n, h⟩ := h
  obtain ⟨rvs, ea, pr⟩ := id hr
  refine seq_i fun nx k => if_i fun th el h1 h2 => ?_
  try walk_at "rd"
  rcases h with ⟨p, R, ⟨⟨dx, hx⟩, hp⟩, z2, q⟩ | ⟨p, d, A, ⟨⟨dx, hx⟩, hp⟩, z2, q⟩
  case inr =>
    refine rIsi_ins C.ic C.cc hx ⟨_, rfl, iteT (h1 _ (seq_i fun nx2 k2 => if_i fun th el h1 h2 => ?_))⟩
    have fl : ∀ b H', Same H H' → crowdShows rs m d A = b → Q0 (.bl b) H' := fun b H' s e => fin.same n s (by rw [← e]; exact q)
    try walk_at "rd"
    refine rfld (fun Q h => ⟨_, rfl, h⟩) hx C.c.cl C.c.n1 (cf_day d p) ⟨_, _, rfl, IsWh.int, n, _, rfl, ?_⟩
    rw [if_neg (by decide)]
    refine rfld (fun Q h => ⟨_, rfl, h⟩) hx C.c.cl C.c.n2 (cf_asking d p) ⟨a, p, rs, A, rfl, hr, hp, z2, n, _, rfl, ?_⟩
    cases ci : isChoice rs.length A with
    | false =>
      refine iteT (h1 _ ?_)
      try walk_at "rd"
      exact fl _ _ (Same.refl H) (by unfold crowdShows; rw [ci]; rfl)
    | true =>
    rw [Bool.not_true, if_neg (by decide)]
    refine rfld (fun Q h => ⟨_, rfl, h⟩) hx C.c.cl C.c.n2 (cf_asking d p) (rlen_lst hp (List.length_map _) ?_)
    try walk_at "rd"
    by_cases c : (A.length : Int) ≤ m
    · rw [if_pos c]
      refine h1 _ ?_
      try walk_at "rd"
      exact fl _ _ (Same.refl H) (by unfold crowdShows; rw [ci, decide_eq_false (by omega)]; rfl)
    · rw [if_neg c]
      refine h2 _ (k2 _ _ ?_)
      try walk_at "rd"
      refine rfld (fun Q h => ⟨_, rfl, h⟩) hx C.c.cl C.c.n2 (cf_asking d p) (rfld (fun Q h => ⟨_, rfl, h⟩) hx C.c.cl C.c.n1 (cf_day d p) ?_)
      refine ⟨a, p, d, rs, A, rfl, hr, hp, (choice_iff.mp ci).2, z2, n, fun t ht => ?_⟩
      have s := Same.upd (o := .lst ((forDay rs A d).map V.int)) ht
      refine rfld (fun Q h => ⟨_, rfl, h⟩) (s _ _ hx) C.c.cl C.c.n2 (cf_asking d p) (reqD_I (ns := forDay rs A d) (ms := A) upd_same (s _ _ hp) ?_)
      exact fl _ _ s (by unfold crowdShows; rw [ci, decide_eq_true (by omega)]; rfl)
  refine rIsi_ins C.il C.lc hx ⟨_, rfl, iteF (h2 _ (k _ _ (seq_i fun nx2 k2 => if_i fun th el h1 h2 => ?_)))⟩
  have fl : ∀ b H', Same H H' → lodDue rs m R = b → Q0 (.bl b) H' := fun b H' s e => fin.same n s (by rw [← e, lod_eq ok]; exact q)
  try walk_at "rd"
  refine rfld (fun Q h => ⟨_, rfl, h⟩) hx C.l.cl C.l.n1 (lf_rooms p) (rlen_lst hp (List.length_map _) (rlen_lst ea pr.length (rne_int ⟨_, rfl, ?_⟩)))
  by_cases cl : (R.length : Int) = rs.length
  case neg =>
    rw [decide_eq_false cl]
    refine iteT (h1 _ ?_)
    try walk_at "rd"
    exact fl _ _ (Same.refl H) (by unfold lodDue; rw [decide_eq_false (by omega)]; rfl)
  rw [decide_eq_true cl, Bool.not_true, if_neg (by decide)]
  have cl' : R.length = rs.length := by omega
  refine tLc_list R (fun r => some (.bl (decide (0 ≤ r) && decide (r < m)))) (fun S h => rfld (fun Q h => ⟨_, rfl, h⟩) hx C.l.cl C.l.n1 (lf_rooms p) h) hp (ints_paired R) (le1000 z2) (fun D v i acc Nx hD e _ add _ => ?_) fun D hD => ?_
  · subst e
    try walk_at "rd"
    refine ⟨_, _, rfl, IsWh.int, n.upd, ?_⟩
    try walk_at "rd"
    by_cases c : 0 ≤ i
    · rw [if_pos c]
      exact add _ (by rw [decide_eq_true c, Bool.true_and])
    · rw [if_neg c]
      exact add _ (by rw [decide_eq_false c, Bool.false_and])
  have s0 := Same.upd (o := .lst (R.filterMap fun r => some (V.bl (decide (0 ≤ r) && decide (r < m))))) hD
  refine all_new (bs := R.map fun r => decide (0 ≤ r) && decide (r < m)) (fm_map _ V.bl R) ⟨_, rfl, ?_⟩
  have ea2 : (R.map fun r => decide (0 ≤ r) && decide (r < m)).all id = R.all fun r => decide (0 ≤ r) && decide (r < m) := by
    rw [List.all_map]
    rfl
  rw [ea2]
  cases ca : R.all fun r => decide (0 ≤ r) && decide (r < m) with
  | false =>
    refine iteT (h1 _ ?_)
    try walk_at "rd"
    exact fl _ _ s0 (by unfold lodDue; rw [ca, Bool.and_false]; rfl)
  | true =>
  refine iteF (h2 _ (k2 _ _ (seq_i fun nx3 k3 => ?_)))
  have eL : lodDue rs m R = (every rs.length).all fun b => decide (forDay rs ((every rs.length).filter fun c => decide (fI R c = fI R b)) (getR rs b).1 = [b]) := by
    unfold lodDue
    rw [decide_eq_true cl', ca]
    rfl
  rw [eL] at fl
  have n0 : NoT (upd H D (.lst (R.filterMap fun r => some (V.bl (decide (0 ≤ r) && decide (r < m)))))) := n.upd
  generalize (upd H D (.lst (R.filterMap fun r => some (V.bl (decide (0 ≤ r) && decide (r < m))))) : Hp) = H1 at s0 n0 ⊢
  unfold tLstRg tRg1
  try walk_at "rd"
  refine rlen_lst (s0 _ _ ea) pr.length ⟨_, rfl, RgOk.of_le (by decide) (by omega) (by decide) (by omega), fun e he => k3 _ _ (seq_i fun nx4 k4 => ?_)⟩
  have s1 := s0.trans (Same.upd (o := .lst (rgV 0 (rs.length : Int))) he)
  have he1 : IntsAt (upd H1 e (.lst (rgV 0 (rs.length : Int)))) e (every rs.length) := by show _ = _; rw [upd_same, rgV_every]
  have n1 : NoT (upd H1 e (.lst (rgV 0 (rs.length : Int)))) := n0.upd
  generalize (upd H1 e (.lst (rgV 0 (rs.length : Int))) : Hp) = H2 at s1 he1 n1 ⊢
  refine tFor_lst (K := K) (a := e) (xs := (every rs.length).map V.int) (fun S h => ⟨_, rfl, h⟩) (fun i σ H' => ∃ x4 x5 x6, σ = [some (.ref a), some (.int m), some (.ref x), some (.ref e), x4, x5, x6] ∧ Same H H' ∧ NoT H' ∧ IntsAt H' e (every rs.length) ∧ ∀ j : Nat, j < i → forDay rs ((every rs.length).filter fun c => decide (fI R c = fI R (j : Int))) (getR rs (j : Int)).1 = [(j : Int)]) ⟨none, none, none, rfl, s1, n1, he1, fun j hj => (by omega)⟩ ?_ ?_ ?_
  · rintro i σ H' ⟨_, _, _, rfl, _, _, h, _⟩
    exact h
  · rintro i v σ H' nxL kL hv ⟨x4, x5, x6, rfl, s, n', he', okk⟩
    have hi : i < rs.length := by
      have := (List.getElem?_eq_some_iff.mp hv).1
      rwa [List.length_map, every_len] at this
    have ev : v = .int (i : Int) := by
      unfold every at hv
      rw [List.getElem?_map, List.getElem?_map, List.getElem?_range hi] at hv
      exact (Option.some.inj hv).symm
    subst ev
    try walk_at "rd"
    refine seq_i fun nx5 k5 => ?_
    try walk_at "rd"
    refine tLc_list (every rs.length) (fun z => if decide (fI R z = fI R (i : Int)) = true then some (.int z) else none) (fun S h => ⟨_, rfl, h⟩) he' (ints_paired _) (le1000 (by rw [every_len]; omega)) (fun D2 v z acc Nx hD2 e2 hz add skip => ?_) fun D2 hD2 => k5 _ _ (if_i fun th el h3 h4 => ?_)
    · subst e2
      obtain ⟨z0, z1⟩ := mem_every.mp hz
      have s4 := s.trans (Same.upd (o := .lst acc) hD2)
      try walk_at "rd"
      refine rfld (fun Q h => ⟨_, rfl, h⟩) (s4 _ _ hx) C.l.cl C.l.n1 (lf_rooms p) (rix_room (s4 _ _ hp) z0 (by omega) ?_)
      refine rfld (fun Q h => ⟨_, rfl, h⟩) (s4 _ _ hx) C.l.cl C.l.n1 (lf_rooms p) (rix_room (s4 _ _ hp) (Int.natCast_nonneg i) (by omega) (req_int ⟨_, rfl, ?_⟩))
      by_cases c : fI R z = fI R (i : Int)
      · rw [decide_eq_true c]
        exact iteT (add _ (if_pos (decide_eq_true c)))
      · rw [decide_eq_false c]
        exact iteF (skip (if_neg (by rw [decide_eq_false c]; decide)))
    rw [fm_filter (fun z => decide (fI R z = fI R (i : Int))) V.int]
    have s5 := s.trans (Same.upd (o := .lst (((every rs.length).filter fun z => decide (fI R z = fI R (i : Int))).map V.int)) hD2)
    have n5 : NoT (upd H' D2 (.lst (((every rs.length).filter fun z => decide (fI R z = fI R (i : Int))).map V.int))) := n'.upd
    have he5 := Same.upd (o := .lst (((every rs.length).filter fun z => decide (fI R z = fI R (i : Int))).map V.int)) hD2 _ _ he'
    have hm5 : IntsAt (upd H' D2 (.lst (((every rs.length).filter fun z => decide (fI R z = fI R (i : Int))).map V.int))) D2 ((every rs.length).filter fun z => decide (fI R z = fI R (i : Int))) := upd_same
    generalize (upd H' D2 (.lst (((every rs.length).filter fun z => decide (fI R z = fI R (i : Int))).map V.int)) : Hp) = H5 at s5 n5 he5 hm5 ⊢
    have inM : InR rs.length ((every rs.length).filter fun z => decide (fI R z = fI R (i : Int))) := fun z hz => mem_every.mp (List.mem_filter.mp hz).1
    have lM : ((every rs.length).filter fun z => decide (fI R z = fI R (i : Int))).length ≤ 1000 := Nat.le_trans (List.length_filter_le _ _) (by rw [every_len]; omega)
    try walk_at "rd"
    refine rix_req (hr.same s5) (Int.natCast_nonneg i) (by omega) fun t ht => rix_tup ht (by decide) rfl ?_
    refine ⟨a, D2, _, rs, _, rfl, hr.same s5, hm5, inM, lM, n5, fun p2 hp2 => ?_⟩
    have iM : (i : Int) ∈ (every rs.length).filter fun z => decide (fI R z = fI R (i : Int)) := List.mem_filter.mpr ⟨mem_every.mpr ⟨Int.natCast_nonneg i, by omega⟩, decide_eq_true rfl⟩
    have s6 := Same.upd (o := .lst ((forDay rs ((every rs.length).filter fun z => decide (fI R z = fI R (i : Int))) (getR rs (i : Int)).1).map V.int)) hp2
    have hf6 : IntsAt (upd H5 p2 (.lst ((forDay rs ((every rs.length).filter fun z => decide (fI R z = fI R (i : Int))) (getR rs (i : Int)).1).map V.int))) p2 (forDay rs ((every rs.length).filter fun z => decide (fI R z = fI R (i : Int))) (getR rs (i : Int)).1) := upd_same
    have hm6 := s6 _ _ hm5
    have he6 := s6 _ _ he5
    have s06 := s5.trans s6
    have n6 : NoT (upd H5 p2 (.lst ((forDay rs ((every rs.length).filter fun z => decide (fI R z = fI R (i : Int))) (getR rs (i : Int)).1).map V.int))) := n5.upd
    generalize (upd H5 p2 (.lst ((forDay rs ((every rs.length).filter fun z => decide (fI R z = fI R (i : Int))) (getR rs (i : Int)).1).map V.int)) : Hp) = H6 at s6 hf6 hm6 he6 s06 n6 ⊢
    refine tLc_via ?_
    try walk_at "rd"
    refine ⟨by show 1 ≤ sizeLine; decide, fun l1 hl1 => ?_⟩
    have s7 := Same.upd (o := .lst [V.int (i : Int)]) hl1
    refine tLc_list (R := fun v z => v = V.int z) [(i : Int)] (fun z => some (.int z)) (fun S h => h) upd_same (.cons rfl .nil) (by show 1 ≤ sizeLine; decide) (fun D3 v z acc Nx hD3 e3 hz add _ => ?_) fun D3 hD3 => ?_
    · subst e3
      have ez := List.mem_singleton.mp hz
      subst ez
      try walk_at "rd"
      refine rin (Same.upd hD3 _ _ (s7 _ _ hm6)) ⟨_, rfl, ?_⟩
      rw [decide_eq_true iM]
      exact iteT (add _ rfl)
    have s8 := Same.upd (o := .lst ([(i : Int)].filterMap fun z => some (V.int z))) hD3
    refine rneD_I (ms := [(i : Int)]) (s8 _ _ (s7 _ _ hf6)) upd_same ⟨_, rfl, ?_⟩
    by_cases c : forDay rs ((every rs.length).filter fun z => decide (fI R z = fI R (i : Int))) (getR rs (i : Int)).1 = [(i : Int)]
    · rw [decide_eq_true c]
      refine iteF (h4 _ (kL _ _ ⟨_, _, _, rfl, (s06.trans s7).trans s8, n6.upd.upd, s8 _ _ (s7 _ _ he6), fun j hj => ?_⟩))
      by_cases cj : j < i
      · exact okk j cj
      · have : j = i := by omega
        subst this
        exact c
    · rw [decide_eq_false c]
      refine iteT (h3 _ ?_)
      try walk_at "rd"
      refine fl _ _ ((s06.trans s7).trans s8) ?_
      rw [Bool.eq_false_iff]
      intro z
      exact c (of_decide_eq_true (all_at.mp z i hi))
  · rintro σ H' ⟨x4, x5, x6, rfl, s, n', he', okk⟩
    refine k4 _ _ ?_
    try walk_at "rd"
    exact fl _ _ s (all_at.mpr fun i hi => decide_eq_true (okk i (by rw [List.length_map, every_len]; exact hi)))
end
end Spn

namespace Spn
open PySem PySem.Spec PyProof.Rows L2
/-! ### answers made by hand -/
def sp__law_says (K : PySem.W.Frag) (w : World) : Sp := fun vs H Q _ => ∃ b c, vs = [.bl b, .bl c] ∧ NoT H ∧ Q (.bl (decide (b = c))) H
def sp__law_bent (K : PySem.W.Frag) (w : World) : Sp := fun vs H Q _ => ∃ a c v xs, vs = [.ref a, .int c, v] ∧ H a = some (.lst xs) ∧ xs.length ≤ 2000 ∧ NoT H ∧
  ∀ H' p ys, Same H H' → NoT H' → H p = none → H' p = some (.lst ys) → (∀ y ∈ ys, y ∈ xs ∨ y = v) → ys.length ≤ xs.length + 1 → Q (.ref p) H'
def sp__law_tolled (K : PySem.W.Frag) (w : World) : Sp := fun vs H Q _ => ∃ a c τ, vs = [.ref a, .int c] ∧ TollsAt H a τ ∧ τ.length ≤ 990 ∧ NoT H ∧
  ∀ H' p τ', Same H H' → NoT H' → TollsAt H' p τ' → τ'.length ≤ τ.length + 1 → Q (.ref p) H'
def sp__law_best_right (K : PySem.W.Frag) (w : World) : Sp := fun vs H Q _ => ∃ a m b c rs ns τ, vs = [.ref a, .int m, .ref b, .ref c] ∧ ReqsAt H a rs ∧ IntsAt H b ns ∧ TollsAt H c τ ∧ rs.length ≤ 900 ∧ ns.length ≤ 999 ∧ τ.length ≤ 999 ∧ Rms m ∧ NoT H ∧ Q (.bl true) H
def sp__law_lodged_right (K : PySem.W.Frag) (w : World) : Sp := fun vs H Q _ => ∃ a m b rs R, vs = [.ref a, .int m, .ref b] ∧ ReqsAt H a rs ∧ OkR rs ∧ IntsAt H b R ∧ rs.length ≤ 900 ∧ R.length ≤ 999 ∧ NoT H ∧ Q (.bl true) H
def sp__law_crowd_right (K : PySem.W.Frag) (w : World) : Sp := fun vs H Q _ => ∃ a m d b rs A, vs = [.ref a, .int m, .int d, .ref b] ∧ ReqsAt H a rs ∧ IntsAt H b A ∧ rs.length ≤ 900 ∧ A.length ≤ 999 ∧ NoT H ∧ Q (.bl true) H
def sp__law_due_right (K : PySem.W.Frag) (w : World) : Sp := fun vs H Q _ => ∃ a m f l x c t u o v p rs T τ O σ, vs = [.ref a, .int m, .int f, .int l, .ref x, .int c] ∧ DueAt K H x t u o v p T τ O σ ∧ ReqsAt H a rs ∧ rs.length ≤ 450 ∧ T.length ≤ 950 ∧ τ.length ≤ 950 ∧ O.length ≤ 950 ∧ σ.length ≤ 950 ∧ Rms m ∧ NoT H ∧ Q (.bl true) H
end Spn

namespace Spn
open PySem PySem.Spec PyProof.Rows L2
/-! ### readings -/
/-- _law_says -/
def t__law_says (K : PySem.W.Frag) (w : World) : TS :=
  (tRet (tAndV (tCB (rIsi K) (tCons (tVar 0) (tCons (tC (.ty "bool")) tNil))) (tOp rEq (tVar 0) (tVar 1))))

/-- _law_bent -/
def t__law_bent (K : PySem.W.Frag) (w : World) : TS :=
  (tSeq (tPar 3 4 (tCons (tCall (sp__law_draw K w) [] E0 (tCons (tVar 1) (tCons (tC (.int 1)) (tCons (tC (.int 8)) tNil)))) (tCons (tCB (qLen K) (tCons (tVar 0) tNil)) tNil)))
  (tSeq (tIfS (tTest (tOp rEq (tVar 4) (tC (.int 0)))) (tRet (tIf (tTest (tOp rEq (tVar 3) (tC (.int 1)))) (tLst (tCons (tVar 2) tNil)) (tLst tNil))) tNext)
  (tSeq (tPar 5 6 (tCons (tCall (sp__law_draw K w) [] E0 (tCons (tVar 1) (tCons (tC (.int 2)) (tCons (tVar 4) tNil)))) (tCons (tCB (qList K) (tCons (tVar 0) tNil)) tNil)))
  (tSeq (tIfS (tTest (tOp rEq (tVar 3) (tC (.int 1)))) (tRet (tOp rCat (tOp rCat (L2.tSl (rSlL K) (tVar 0) tNoPart (tPart (tVar 5))) (tLst (tCons (tVar 2) tNil))) (L2.tSl (rSlL K) (tVar 0) (tPart (tVar 5)) tNoPart))) tNext)
  (tSeq (tIfS (tTest (tOp rEq (tVar 3) (tC (.int 2)))) (tDrop (tBM K "list" rPopAt (tVar 6) (tCons (tVar 5) tNil))) tNext)
  (tSeq (tIfS (tTest (tOp rEq (tVar 3) (tC (.int 3)))) (tRet (tOp rCat (tOp rCat (L2.tSl (rSlL K) (tVar 0) tNoPart (tPart (tVar 5))) (L2.tSl (rSlL K) (tVar 0) (tPart (tVar 5)) (tPart (tOp qAdd (tVar 5) (tC (.int 1)))))) (L2.tSl (rSlL K) (tVar 0) (tPart (tVar 5)) tNoPart))) tNext)
  (tSeq (tIfS (tTest (tOp rEq (tVar 3) (tC (.int 4)))) (tAsg (tVar 2) (gSub (tVar 6) (tVar 5) L2.rSetL)) tNext)
  (tSeq (tIfS (tTest (tOp rEq (tVar 3) (tC (.int 5)))) (tRet (tRevL K (tVar 0))) tNext)
  (tRet (tVar 6))))))))))

/-- _law_tolled -/
def t__law_tolled (K : PySem.W.Frag) (w : World) : TS :=
  (tSeq (tIfS (tOr (tTest (tOp (rEqD K) (tVar 0) (tLst tNil))) (tTest (tOp rEq (tCall (sp__law_draw K w) [] E0 (tCons (tVar 1) (tCons (tC (.int 3)) (tCons (tC (.int 3)) tNil)))) (tC (.int 0))))) (tRet (tCall (sp__law_bent K w) [] E0 (tCons (tVar 0) (tCons (tVar 1) (tCons (tTup (tCons (tOp qSub (tCall (sp__law_draw K w) [] E0 (tCons (tVar 1) (tCons (tC (.int 4)) (tCons (tC (.int 9)) tNil)))) (tC (.int 4))) (tCons (tOp qSub (tCall (sp__law_draw K w) [] E0 (tCons (tVar 1) (tCons (tC (.int 5)) (tCons (tC (.int 4)) tNil)))) (tC (.int 1))) tNil))) tNil))))) tNext)
  (tSeq (tAsg (tCall (sp__law_draw K w) [] E0 (tCons (tVar 1) (tCons (tC (.int 6)) (tCons (tCB (qLen K) (tCons (tVar 0) tNil)) tNil)))) (gName 2))
  (tSeq (tAsg (tOp (rIxL K) (tVar 0) (tVar 2)) (gTup K 2 (gCons (gName 3) (gCons (gName 4) gNil))))
  (tSeq (tAsg (tOp (rIxL K) (tLst (tCons (tTup (tCons (tVar 3) (tCons (tOp qAdd (tVar 4) (tC (.int 1))) tNil))) (tCons (tTup (tCons (tVar 3) (tCons (tOp qSub (tVar 4) (tC (.int 1))) tNil))) (tCons (tTup (tCons (tOp qAdd (tVar 3) (tC (.int 1))) (tCons (tVar 4) tNil))) (tCons (tTup (tCons (tVar 3) (tCons (tUn qNeg (tVar 4)) tNil))) (tCons (tTup (tCons (tVar 3) (tCons (tVar 4) tNil))) tNil)))))) (tCall (sp__law_draw K w) [] E0 (tCons (tVar 1) (tCons (tC (.int 7)) (tCons (tC (.int 5)) tNil))))) (gName 5))
  (tRet (tOp rCat (tOp rCat (L2.tSl (rSlL K) (tVar 0) tNoPart (tPart (tVar 2))) (tLst (tCons (tVar 5) tNil))) (L2.tSl (rSlL K) (tVar 0) (tPart (tOp qAdd (tVar 2) (tC (.int 1)))) tNoPart)))))))

/-- _law_best_right -/
def t__law_best_right (K : PySem.W.Frag) (w : World) : TS :=
  (tSeq (tAsg (tLst (tCons (tCB (qList K) (tCons (tVar 2) tNil)) (tCons (tCB (qList K) (tCons (tVar 3) tNil)) tNil))) (gName 4))
  (tSeq (tAsg (tMake (He.ga K "Best") (sp_Best___init__ K w) [] E0 (tCons (tOp (rIxL K) (tVar 4) (tC (.int 0))) (tCons (tOp (rIxL K) (tVar 4) (tC (.int 1))) tNil))) (gName 5))
  (tSeq (tDrop (tBM K "list" rAppend (tOp (rIxL K) (tVar 4) (tC (.int 0))) (tCons (tC (.int 0)) tNil)))
  (tSeq (tDrop (tBM K "list" rAppend (tOp (rIxL K) (tVar 4) (tC (.int 1))) (tCons (tTup (tCons (tC (.int 0)) (tCons (tC (.int 0)) tNil))) tNil)))
  (tSeq (tIfS (tOr (tTest (tOp (rNeD K) (tFld K (tVar 5) "taken") (tVar 2))) (tTest (tOp (rNeD K) (tFld K (tVar 5) "tolls") (tVar 3)))) (tRet (tC (.bl false))) tNext)
  (tRet (tCall (sp__law_says K w) [] E0 (tCons (tMeth (He.ga K "Best") "shows" (sp_Best_shows K w) [] E0 (tVar 5) (tCons (tVar 0) (tCons (tVar 1) tNil))) (tCons (tCall (sp__law_best K w) [] E0 (tCons (tVar 0) (tCons (tVar 1) (tCons (tVar 2) (tCons (tVar 3) tNil))))) tNil)))))))))

/-- _law_lodged_right -/
def t__law_lodged_right (K : PySem.W.Frag) (w : World) : TS :=
  (tSeq (tAsg (tLstRg (tRg1 (tCB (qLen K) (tCons (tVar 0) tNil)))) (gName 3))
  (tSeq (tAsg (tAndV (tOp rEq (tCB (qLen K) (tCons (tVar 2) tNil)) (tCB (qLen K) (tCons (tVar 0) tNil))) (tCB (rAll K) (tCons (tLc (iList K (tVar 2)) (gName 9) tYes (tChain qLe qLt (tC (.int 0)) (tVar 9) (tVar 1)) [9]) tNil))) (gName 4))
  (tSeq (tFor (iList K (tIf (tB (tVar 4)) (tVar 3) (tLst tNil))) (gName 5) (tSeq (tAsg (tCall (sp__law_there K w) [] E0 (tCons (tVar 0) (tCons (tVar 3) (tCons (tOp (rIxT K) (tOp (rIxL K) (tVar 0) (tVar 5)) (tC (.int 0))) tNil)))) (gName 6))
  (tAsg (tAndV (tVar 4) (tOp (rEqD K) (tLc (iList K (tVar 6)) (gName 10) (tTest (tOp rEq (tOp (rIxL K) (tVar 2) (tVar 10)) (tOp (rIxL K) (tVar 2) (tVar 5)))) (tVar 10) [10]) (tLst (tCons (tVar 5) tNil)))) (gName 4))))
  (tSeq (tAsg (tCB (qList K) (tCons (tVar 2) tNil)) (gName 7))
  (tSeq (tAsg (tMake (He.ga K "Lodged") (sp_Lodged___init__ K w) [] E0 (tCons (tVar 7) tNil)) (gName 8))
  (tSeq (tDrop (tBM K "list" rAppend (tVar 7) (tCons (tC (.int 0)) tNil)))
  (tRet (tAndV (tOp (rEqD K) (tFld K (tVar 8) "rooms") (tVar 2)) (tCall (sp__law_says K w) [] E0 (tCons (tMeth (He.ga K "Lodged") "shows" (sp_Lodged_shows K w) [] E0 (tVar 8) (tCons (tVar 0) (tCons (tVar 1) tNil))) (tCons (tVar 4) tNil)))))))))))

/-- _law_crowd_right -/
def t__law_crowd_right (K : PySem.W.Frag) (w : World) : TS :=
  (tSeq (tAsg (tAndV (tCall (sp__law_chosen K w) [] E0 (tCons (tVar 0) (tCons (tVar 3) tNil))) (tOp qGt (tCB (qLen K) (tCons (tVar 3) tNil)) (tVar 1))) (gName 4))
  (tSeq (tAsg (tAndV (tVar 4) (tOp (rEqD K) (tCall (sp__law_there K w) [] E0 (tCons (tVar 0) (tCons (tVar 3) (tCons (tVar 2) tNil)))) (tVar 3))) (gName 4))
  (tSeq (tAsg (tCB (qList K) (tCons (tVar 3) tNil)) (gName 5))
  (tSeq (tAsg (tMake (He.ga K "Crowd") (sp_Crowd___init__ K w) [] E0 (tCons (tVar 2) (tCons (tVar 5) tNil))) (gName 6))
  (tSeq (tDrop (tBM K "list" rAppend (tVar 5) (tCons (tC (.int 0)) tNil)))
  (tRet (tAndV (tOp rEq (tFld K (tVar 6) "day") (tVar 2)) (tAndV (tOp (rEqD K) (tFld K (tVar 6) "asking") (tVar 3)) (tCall (sp__law_says K w) [] E0 (tCons (tMeth (He.ga K "Crowd") "shows" (sp_Crowd_shows K w) [] E0 (tVar 6) (tCons (tVar 0) (tCons (tVar 1) tNil))) (tCons (tVar 4) tNil)))))))))))

/-- _law_due_right -/
def t__law_due_right (K : PySem.W.Frag) (w : World) : TS :=
  (tSeq (tAsg (tCall (sp__law_draw K w) [] E0 (tCons (tVar 5) (tCons (tC (.int 8)) (tCons (tC (.int 7)) tNil)))) (gName 6))
  (tSeq (tPar3 7 8 9 (tCons (tFld K (tVar 4) "price") (tCons (tFld K (tVar 4) "taken") (tCons (tFld K (tVar 4) "tolls") tNil))))
  (tSeq (tPar 10 11 (tCons (tFld K (tVar 4) "others") (tCons (tFld K (tVar 4) "other_tolls") tNil)))
  (tSeq (tIfS (tTest (tOp rEq (tVar 6) (tC (.int 0)))) (tAsg (tOp qAdd (tVar 7) (tOp (rIxT K) (tTup (tCons (tC (.int 1)) (tCons (tUn qNeg (tC (.int 1))) tNil))) (tCall (sp__law_draw K w) [] E0 (tCons (tVar 5) (tCons (tC (.int 9)) (tCons (tC (.int 2)) tNil)))))) (gName 7)) tNext)
  (tSeq (tIfS (tTest (tOp rEq (tVar 6) (tC (.int 1)))) (tAsg (tCall (sp__law_bent K w) [] E0 (tCons (tVar 8) (tCons (tVar 5) (tCons (tCB (qLen K) (tCons (tVar 0) tNil)) tNil)))) (gName 8)) tNext)
  (tSeq (tIfS (tTest (tOp rEq (tVar 6) (tC (.int 2)))) (tAsg (tCall (sp__law_tolled K w) [] E0 (tCons (tVar 9) (tCons (tVar 5) tNil))) (gName 9)) tNext)
  (tSeq (tIfS (tTest (tOp rEq (tVar 6) (tC (.int 3)))) (tAsg (tCall (sp__law_bent K w) [] E0 (tCons (tVar 10) (tCons (tVar 5) (tCons (tCall (sp__law_draw K w) [] E0 (tCons (tVar 5) (tCons (tC (.int 10)) (tCons (tOp qAdd (tCB (qLen K) (tCons (tVar 0) tNil)) (tC (.int 1))) tNil)))) tNil)))) (gName 10)) tNext)
  (tSeq (tIfS (tTest (tOp rEq (tVar 6) (tC (.int 4)))) (tAsg (tCall (sp__law_tolled K w) [] E0 (tCons (tVar 11) (tCons (tVar 5) tNil))) (gName 11)) tNext)
  (tSeq (tIfS (tTest (tOp rEq (tVar 6) (tC (.int 5)))) (tPar 8 7 (tCons (tVar 10) (tCons (tC (.int 0)) tNil))) tNext)
  (tSeq (tAsg (tLst (tCons (tCB (qList K) (tCons (tVar 8) tNil)) (tCons (tCB (qList K) (tCons (tVar 9) tNil)) (tCons (tCB (qList K) (tCons (tVar 10) tNil)) (tCons (tCB (qList K) (tCons (tVar 11) tNil)) tNil))))) (gName 12))
  (tSeq (tAsg (tMake (He.ga K "Due") (sp_Due___init__ K w) [] E0 (tCons (tVar 7) (tCons (tOp (rIxL K) (tVar 12) (tC (.int 0))) (tCons (tOp (rIxL K) (tVar 12) (tC (.int 1))) (tCons (tOp (rIxL K) (tVar 12) (tC (.int 2))) (tCons (tOp (rIxL K) (tVar 12) (tC (.int 3))) tNil)))))) (gName 13))
  (tSeq (tFor (iList K (tVar 12)) (gName 14) (tDrop (tBM K "list" rAppend (tVar 14) (tCons (tC (.int 0)) tNil))))
  (tSeq (tIfS (tOr (tTest (tOp (rNeD K) (tFld K (tVar 13) "taken") (tVar 8))) (tTest (tOp (rNeD K) (tFld K (tVar 13) "tolls") (tVar 9)))) (tRet (tC (.bl false))) tNext)
  (tSeq (tIfS (tOr (tTest (tOp (rNeD K) (tFld K (tVar 13) "others") (tVar 10))) (tTest (tOp (rNeD K) (tFld K (tVar 13) "other_tolls") (tVar 11)))) (tRet (tC (.bl false))) tNext)
  (tSeq (tAsg (tOp rCat (tVar 0) (tLst (tCons (tTup (tCons (tVar 2) (tCons (tVar 3) (tCons (tCB qMax2 (tCons (tC (.int 0)) (tCons (tVar 7) tNil))) tNil)))) tNil))) (gName 15))
  (tSeq (tAsg (tAndV (tOp qGe (tVar 7) (tC (.int 0))) (tAndV (tOp (rIn K false) (tCB (qLen K) (tCons (tVar 0) tNil)) (tVar 8)) (tCall (sp__law_best K w) [] E0 (tCons (tVar 15) (tCons (tVar 1) (tCons (tVar 8) (tCons (tVar 9) tNil))))))) (gName 16))
  (tSeq (tAsg (tAndV (tVar 16) (tCall (sp__law_best K w) [] E0 (tCons (tVar 0) (tCons (tVar 1) (tCons (tVar 10) (tCons (tVar 11) tNil)))))) (gName 16))
  (tSeq (tAsg (tAndV (tVar 16) (tOp rEq (tCall (sp__law_worth K w) [] E0 (tCons (tVar 15) (tCons (tVar 8) tNil))) (tCall (sp__law_worth K w) [] E0 (tCons (tVar 0) (tCons (tVar 10) tNil))))) (gName 16))
  (tRet (tAndV (tOp rEq (tFld K (tVar 13) "price") (tVar 7)) (tCall (sp__law_says K w) [] E0 (tCons (tMeth (He.ga K "Due") "shows" (sp_Due_shows K w) [] E0 (tVar 13) (tCons (tVar 0) (tCons (tVar 1) (tCons (tVar 2) (tCons (tVar 3) tNil))))) (tCons (tVar 16) tNil)))))))))))))))))))))))

end Spn

namespace Spn
open PySem PySem.Spec PyProof.Rows L2
section
variable {K : PySem.W.Frag} {w : World} {vs : List V} {H : Hp} {Q Q0 : VK} {E : XK}
theorem pure__law_says (h : sp__law_says K w vs H Q E) (fin : Fin H Q Q0) : t__law_says K w (endS Q0) (start ["_law_said", "_law_wanted"] vs) H := by
  obtain ⟨b, c, rfl, n, q⟩ := h
  unfold t__law_says
  try walk_at "rd"
  refine isi_of (.base (.bl b)) (by decide +kernel : kitB "bool" "bool" = some true) ⟨_, rfl, ?_⟩
  rw [if_pos rfl]
  refine ⟨rfl, ?_⟩
  have e : decide (V.bl b = V.bl c) = decide (b = c) := by simp
  rw [e]
  exact fin.same n (Same.refl H) q
theorem cutV_lo {xs : List V} {i : Int} (h0 : 0 ≤ i) (h1 : i ≤ xs.length) : cutV xs none (some i) = xs.take i.toNat := by
  obtain ⟨k, rfl⟩ := Int.eq_ofNat_of_zero_le h0
  unfold cutV
  rw [HT.sIx_none, HT.sIx_nat, Int.toNat_natCast, List.drop_zero]
  rw [show min k xs.length - 0 = k by omega]
theorem cutV_hi {xs : List V} {i : Int} (h0 : 0 ≤ i) (h1 : i ≤ xs.length) : cutV xs (some i) none = xs.drop i.toNat := by
  obtain ⟨k, rfl⟩ := Int.eq_ofNat_of_zero_le h0
  unfold cutV
  rw [HT.sIx_none, HT.sIx_nat, Int.toNat_natCast, show min k xs.length = k by omega]
  rw [List.take_of_length_le (by rw [List.length_drop]; omega)]
theorem cutV_mid {xs : List V} {i : Int} (h0 : 0 ≤ i) (h1 : i ≤ xs.length) : cutV xs (some i) (some (i + 1)) = (xs.drop i.toNat).take 1 := by
  obtain ⟨k, rfl⟩ := Int.eq_ofNat_of_zero_le h0
  unfold cutV
  rw [show (k : Int) + 1 = ((k + 1 : Nat) : Int) from rfl, HT.sIx_nat, HT.sIx_nat, Int.toNat_natCast, show min k xs.length = k by omega]
  by_cases c : k + 1 ≤ xs.length
  · rw [show min (k + 1) xs.length - k = 1 by omega]
  · have : xs.drop k = [] := List.drop_eq_nil_of_le (by omega)
    rw [this, List.take_nil, List.take_nil]
theorem sq_ix {t : Int} {n : Nat} (h0 : 0 ≤ t) (h1 : t < n) : seqIndex? t n = some t.toNat := by
  have e : (if t < 0 then t + (n : Int) else t) = t := if_neg (by omega)
  unfold seqIndex?
  simp only [e]
  exact if_pos (by rw [Bool.and_eq_true]; exact ⟨decide_eq_true h0, decide_eq_true h1⟩)
/-- a list and where it is cut -/
theorem cut_lst {a : Addr} {xs : List V} {lo hi : Option Int} {ys : List V} {Q : VK} (h : H a = some (.lst xs)) (e : cutV xs lo hi = ys) (q : ∀ p, H p = none → Q (.ref p) (upd H p (.lst ys))) : rSlL K (.ref a) lo hi H Q := ⟨a, xs, rfl, SqL.of h, by rw [e]; exact q⟩
theorem cat_lst {a b : Addr} {xs ys : List V} {Q : VK} (h : H a = some (.lst xs)) (h2 : H b = some (.lst ys)) (z : xs.length + ys.length ≤ 10000) (q : ∀ p, H p = none → Q (.ref p) (upd H p (.lst (xs ++ ys)))) : rCat (.ref a) (.ref b) H Q := ⟨a, b, xs, ys, rfl, rfl, h, h2, by rw [sizeLine_eq]; omega, q⟩
theorem pure__law_bent (h : sp__law_bent K w vs H Q E) (fin : Fin H Q Q0) : t__law_bent K w (endS Q0) (start ["_law_some", "_law_cell", "_law_more", "_law_kind", "_law_many", "_law_at", "_law_found"] vs) H := by
  obtain ⟨a, c, v, xs, rfl, ha, hz, n, q⟩ := h
  have q : ∀ H' p ys, Same H H' → H p = none → H' p = some (.lst ys) → (∀ y ∈ ys, y ∈ xs ∨ y = v) → ys.length ≤ xs.length + 1 → Q0 (.ref p) H' := fun H' p ys s f e m z =>
    fin.new n s (q _ p ys (ltH_same s) (ltH_noT n s) f (ltH_lst e) m z)
  refine seq_i fun nx k => ?_
  try walk_at "rd"
  refine ⟨c, 1, 8, rfl, by decide, by decide, n, fun kd _ _ => rlen_lst ha rfl ⟨_, _, rfl, k _ _ (seq_i fun nx2 k2 => if_i fun th el h1 h2 => ?_)⟩⟩
  try walk_at "rd"
  refine req_int ⟨_, rfl, ?_⟩
  by_cases c0 : (xs.length : Int) = 0
  · rw [decide_eq_true c0]
    refine iteT (h1 _ ?_)
    try walk_at "rd"
    refine req_int ⟨_, rfl, ?_⟩
    by_cases c1 : kd = 1
    · rw [decide_eq_true c1]
      refine iteT ⟨by show 1 ≤ sizeLine; decide, fun p hp => ?_⟩
      exact q _ p [v] (Same.upd hp) hp upd_same (fun y hy => .inr (List.mem_singleton.mp hy)) (by show 1 ≤ _; omega)
    · rw [decide_eq_false c1]
      refine iteF ⟨Nat.zero_le _, fun p hp => ?_⟩
      exact q _ p [] (Same.upd hp) hp upd_same (fun y hy => by cases hy) (Nat.zero_le _)
  rw [decide_eq_false c0]
  refine iteF (h2 _ (k2 _ _ (seq_i fun nx3 k3 => ?_)))
  try walk_at "rd"
  refine ⟨c, 2, xs.length, rfl, by decide, by omega, n, fun t t0 t1 => ⟨a, xs, rfl, .inl (SqL.of ha), fun f hf => ⟨_, _, rfl, k3 _ _ (seq_i fun nx4 k4 => if_i fun th el h1 h2 => ?_)⟩⟩⟩
  have s1 := Same.upd (o := .lst xs) hf
  have ef : (upd H f (.lst xs)) f = some (.lst xs) := upd_same
  have ha1 := s1 _ _ ha
  generalize (upd H f (.lst xs) : Hp) = H1 at s1 ef ha1 ⊢
  try walk_at "rd"
  refine req_int ⟨_, rfl, ?_⟩
  have tl : t.toNat < xs.length := by omega
  by_cases c1 : kd = 1
  · rw [decide_eq_true c1]
    refine iteT (h1 _ ?_)
    try walk_at "rd"
    refine cut_lst ha1 (cutV_lo t0 (by omega)) fun p1 hp1 => ⟨by show 1 ≤ sizeLine; decide, fun p2 hp2 => ?_⟩
    have s2 := s1.trans (Same.upd (o := .lst (xs.take t.toNat)) hp1)
    have s12 := Same.upd (o := .lst [v]) hp2
    have s3 := s2.trans s12
    refine cat_lst (s12 _ _ upd_same) upd_same (by rw [List.length_take]; show _ + 1 ≤ _; omega) fun p3 hp3 => ?_
    have s4 := s3.trans (Same.upd (o := .lst (xs.take t.toNat ++ [v])) hp3)
    refine cut_lst (s4 _ _ ha) (cutV_hi t0 (by omega)) fun p4 hp4 => ?_
    have s5 := Same.upd (o := .lst (xs.drop t.toNat)) hp4
    refine cat_lst (s5 _ _ upd_same) upd_same (by simp only [List.length_append, List.length_take, List.length_drop, List.length_cons, List.length_nil]; omega) fun p5 hp5 => ?_
    have s6 := (s4.trans s5).trans (Same.upd (o := .lst (xs.take t.toNat ++ [v] ++ xs.drop t.toNat)) hp5)
    refine q _ p5 _ s6 ((s4.trans s5).free hp5) upd_same (fun y hy => ?_) (by simp only [List.length_append, List.length_take, List.length_drop, List.length_cons, List.length_nil]; omega)
    rcases List.mem_append.mp hy with hy | hy
    · rcases List.mem_append.mp hy with hy | hy
      · exact .inl (List.mem_of_mem_take hy)
      · exact .inr (List.mem_singleton.mp hy)
    · exact .inl (List.mem_of_mem_drop hy)
  rw [decide_eq_false c1]
  have f0 : H f = none := hf
  refine iteF (h2 _ (k4 _ _ (seq_i fun nx5 k5 => if_i fun th el h1 h2 => ?_)))
  try walk_at "rd"
  refine req_int ⟨_, rfl, ?_⟩
  -- the rest, with what was found
  have rest : ∀ ys H', Same H H' → H' f = some (.lst ys) → ys.length ≤ xs.length + 1 → (ys.length ≤ t.toNat → kd ≠ 4) → (∀ y ∈ ys, y ∈ xs ∨ y = v) → nx5 [some (.ref a), some (.int c), some v, some (.int kd), some (.int xs.length), some (.int t), some (.ref f)] H' := by
    intro ys H' s e z z4 m
    refine k5 _ _ (seq_i fun nx6 k6 => if_i fun th el h1 h2 => ?_)
    try walk_at "rd"
    refine req_int ⟨_, rfl, ?_⟩
    have ha' := s _ _ ha
    by_cases c3 : kd = 3
    · rw [decide_eq_true c3]
      refine iteT (h1 _ ?_)
      try walk_at "rd"
      refine cut_lst ha' (cutV_lo t0 (by omega)) fun p1 hp1 => cut_lst (Same.upd hp1 _ _ ha') (cutV_mid t0 (by omega)) fun p2 hp2 => ?_
      have s2 := s.trans (Same.upd (o := .lst (xs.take t.toNat)) hp1)
      have s12 := Same.upd (o := .lst ((xs.drop t.toNat).take 1)) hp2
      have s3 := s2.trans s12
      refine cat_lst (s12 _ _ upd_same) upd_same (by simp only [List.length_append, List.length_take, List.length_drop, List.length_cons, List.length_nil]; omega) fun p3 hp3 => ?_
      have s4 := s3.trans (Same.upd (o := .lst (xs.take t.toNat ++ (xs.drop t.toNat).take 1)) hp3)
      refine cut_lst (s4 _ _ ha) (cutV_hi t0 (by omega)) fun p4 hp4 => ?_
      have s5 := Same.upd (o := .lst (xs.drop t.toNat)) hp4
      refine cat_lst (s5 _ _ upd_same) upd_same (by simp only [List.length_append, List.length_take, List.length_drop, List.length_cons, List.length_nil]; omega) fun p5 hp5 => ?_
      have s6 := (s4.trans s5).trans (Same.upd (o := .lst (xs.take t.toNat ++ (xs.drop t.toNat).take 1 ++ xs.drop t.toNat)) hp5)
      refine q _ p5 _ s6 ((s4.trans s5).free hp5) upd_same (fun y hy => ?_) (by simp only [List.length_append, List.length_take, List.length_drop, List.length_cons, List.length_nil]; omega)
      rcases List.mem_append.mp hy with hy | hy
      · rcases List.mem_append.mp hy with hy | hy
        · exact .inl (List.mem_of_mem_take hy)
        · exact .inl (List.mem_of_mem_drop (List.mem_of_mem_take hy))
      · exact .inl (List.mem_of_mem_drop hy)
    rw [decide_eq_false c3]
    refine iteF (h2 _ (k6 _ _ (seq_i fun nx7 k7 => if_i fun th el h1 h2 => ?_)))
    try walk_at "rd"
    refine req_int ⟨_, rfl, ?_⟩
    have last : ∀ zs H', Same H H' → H' f = some (.lst zs) → zs.length ≤ xs.length + 1 → (∀ y ∈ zs, y ∈ xs ∨ y = v) → nx7 [some (.ref a), some (.int c), some v, some (.int kd), some (.int xs.length), some (.int t), some (.ref f)] H' := by
      intro zs H' s e z m
      refine k7 _ _ (seq_i fun nx8 k8 => if_i fun th el h1 h2 => ?_)
      try walk_at "rd"
      refine req_int ⟨_, rfl, ?_⟩
      have ha' := s _ _ ha
      by_cases c5 : kd = 5
      · rw [decide_eq_true c5]
        refine iteT (h1 _ ?_)
        unfold tRevL
        try walk_at "rd"
        refine ⟨xs, SqL.of ha', fun p hp => q _ p xs.reverse (s.trans (Same.upd hp)) (s.free hp) upd_same (fun y hy => .inl (List.mem_reverse.mp hy)) (by rw [List.length_reverse]; omega)⟩
      · rw [decide_eq_false c5]
        refine iteF (h2 _ (k8 _ _ ?_))
        try walk_at "rd"
        exact q _ f zs s f0 e m z
    by_cases c4 : kd = 4
    · rw [decide_eq_true c4]
      refine iteT (h1 _ ?_)
      try walk_at "rd"
      have lt : t.toNat < ys.length := Nat.lt_of_not_le fun z => z4 z c4
      refine gsub_set (j := t.toNat) (k := t) (fun Q h => ⟨_, rfl, h⟩) (fun Q h => ⟨_, rfl, h⟩) e (by omega) lt ?_
      refine last (ys.set t.toNat v) _ (Same.upd3 s f0) upd_same (by rw [List.length_set]; exact z) fun y hy => ?_
      rcases List.mem_or_eq_of_mem_set hy with hy | hy
      · exact m y hy
      · exact .inr hy
    · rw [decide_eq_false c4]
      exact iteF (h2 _ (last ys H' s e z m))
  by_cases c2 : kd = 2
  · rw [decide_eq_true c2]
    refine iteT (h1 _ ?_)
    try walk_at "rd"
    refine ⟨ty_lst (K := K) ef, ?_⟩
    refine ⟨f, xs, t, t.toNat, _, rfl, rfl, ef, by omega, by omega, sq_ix t0 (by omega), List.getElem?_eq_getElem tl, ?_⟩
    exact rest _ _ (Same.upd3 s1 f0) upd_same (by rw [List.length_eraseIdx]; split <;> omega) (fun _ => by omega) fun y hy => .inl (List.mem_of_mem_eraseIdx hy)
  · rw [decide_eq_false c2]
    exact iteF (h2 _ (rest xs H1 s1 ef (by omega) (fun z => by omega) fun y hy => .inl hy))
end
end Spn

namespace Spn
open PySem PySem.Spec PyProof.Rows L2
theorem paired_mem {α β : Type} {F : α → β → Prop} : ∀ {xs : List α} {bs : List β}, Paired F xs bs → ∀ y ∈ xs, ∃ b, F y b
  | _, _, .nil, y, h => nomatch h
  | _, _, .cons r t, y, h => by
    rcases List.mem_cons.mp h with e | h
    · subst e; exact ⟨_, r⟩
    · exact paired_mem t y h
theorem paired_of {α β : Type} {F : α → β → Prop} : ∀ {ys : List α}, (∀ y ∈ ys, ∃ b, F y b) → ∃ bs, Paired F ys bs
  | [], _ => ⟨[], .nil⟩
  | y :: ys, h => by
    obtain ⟨b, hb⟩ := h y List.mem_cons_self
    obtain ⟨bs, p⟩ := paired_of (ys := ys) fun z hz => h z (List.mem_cons_of_mem _ hz)
    exact ⟨b :: bs, .cons hb p⟩
def dP (τ : List (Int × Int)) : PyData := .list (τ.map fun r => .tuple [.int r.1, .int r.2])
theorem sh_P (τ : List (Int × Int)) : SeqAt.shaped (dP τ) = true := sh_list _ (fun _ => rfl) (fun _ => by simp [PyData.depth, PyData.depthAll]) τ
theorem eq_P (rs ss : List (Int × Int)) : PyData.eqv (dP rs) (dP ss) = decide (rs = ss) := by
  have e : ∀ l : List (Int × Int), dP l = PySem.W.Datum.toD (l.map fun r => (⟨[r.1, r.2]⟩ : PySem.W.Tup Int)) := fun l => by
    show PyData.list _ = PyData.list _
    rw [List.map_map]
    rfl
  rw [e, e, PySem.W.Datum.eqv]
  refine decide_eq_decide.mpr ⟨fun h => ?_, fun h => by rw [h]⟩
  refine (List.map_inj_right fun r s z => ?_).mp h
  have z := congrArg PySem.W.Tup.items z
  simp only [List.cons.injEq, and_true] at z
  exact Prod.ext z.1 z.2
section
variable {K : PySem.W.Frag} {w : World} {vs : List V} {H : Hp} {Q Q0 : VK} {E : XK}
theorem dp_P1 {v : V} {r : Int × Int} (h : IsP H v r) : Dp K H v (.tuple [.int r.1, .int r.2]) := by
  obtain ⟨t, rfl, h⟩ := h
  exact .tup (SqT.of h) (.cons (.int _) (.cons (.int _) .nil))
theorem dpAll_P : ∀ {vs : List V} {rs : List (Int × Int)}, Paired (IsP H) vs rs → DpAll K H vs (rs.map fun r => .tuple [.int r.1, .int r.2])
  | _, _, .nil => .nil
  | _, _, .cons r t => .cons (dp_P1 r) (dpAll_P t)
theorem dp_P {a : Addr} {rs : List (Int × Int)} (h : TollsAt H a rs) : Dp K H (.ref a) (dP rs) := by
  obtain ⟨vs, e, p⟩ := h
  exact .lst (SqL.of e) (dpAll_P p)
theorem reqD_P {a b : Addr} {ns ms : List (Int × Int)} {Q : VK} (h1 : TollsAt H a ns) (h2 : TollsAt H b ms) (q : Q (.bl (decide (ns = ms))) H) : rEqD K (.ref a) (.ref b) H Q := ⟨_, _, dp_P h1, dp_P h2, sh_P _, sh_P _, by rw [eq_P]; exact q⟩
theorem rneD_P {a b : Addr} {ns ms : List (Int × Int)} {Q : VK} (h1 : TollsAt H a ns) (h2 : TollsAt H b ms) (q : Q (.bl (!decide (ns = ms))) H) : rNeD K (.ref a) (.ref b) H Q := ⟨_, _, dp_P h1, dp_P h2, sh_P _, sh_P _, by rw [eq_P]; exact q⟩
theorem pure__law_tolled (h : sp__law_tolled K w vs H Q E) (fin : Fin H Q Q0) : t__law_tolled K w (endS Q0) (start ["_law_tolls", "_law_cell", "_law_at", "_law_day", "_law_much", "_law_bent_here"] vs) H := by
  obtain ⟨a, c, τ, rfl, ha, hz, n, q⟩ := h
  obtain ⟨us, eu, pu⟩ := id ha
  have lu := pu.length
  have q : ∀ H' p ys, Same H H' → H' p = some (.lst ys) → (∀ y ∈ ys, ∃ b, IsP H' y b) → ys.length ≤ τ.length + 1 → Q0 (.ref p) H' := fun H' p ys s e m z => by
    obtain ⟨bs, pb⟩ := paired_of m
    refine fin.new n s (q _ p bs (ltH_same s) (ltH_noT n s) ⟨ys, ltH_lst e, pb.mono fun _ _ q => q.keep (ltH_tk _ _)⟩ ?_)
    rw [← pb.length]
    exact z
  refine seq_i fun nx k => if_i fun th el h1 h2 => ?_
  try walk_at "rd"
  refine ⟨Nat.zero_le _, fun p0 hp0 => ?_⟩
  have s0 := Same.upd (o := .lst []) hp0
  refine reqD_P (ns := τ) (ms := []) (ha.same s0) ⟨[], upd_same, .nil⟩ ⟨_, rfl, ?_⟩
  have n0 : NoT (upd H p0 (.lst [])) := n.upd
  generalize (upd H p0 (.lst []) : Hp) = H1 at s0 n0 ⊢
  have first : th H1 := by
    refine h1 _ ?_
    try walk_at "rd"
    refine ⟨c, 4, 9, rfl, by decide, by decide, n0, fun x1 _ _ => ⟨x1, rfl, c, 5, 4, rfl, by decide, by decide, n0, fun x2 _ _ => ⟨x2, rfl, by decide, fun t ht => ?_⟩⟩⟩
    have s1 := s0.trans (Same.upd (o := .tup [V.int (x1 - 4), .int (x2 - 1)]) ht)
    have et : (upd H1 t (.tup [V.int (x1 - 4), .int (x2 - 1)])) t = some (.tup [V.int (x1 - 4), .int (x2 - 1)]) := upd_same
    have n1 : NoT (upd H1 t (.tup [V.int (x1 - 4), .int (x2 - 1)])) := n0.upd
    generalize (upd H1 t (.tup [V.int (x1 - 4), .int (x2 - 1)]) : Hp) = H2 at s1 et n1 ⊢
    refine ⟨a, c, .ref t, us, rfl, s1 _ _ eu, by omega, n1, fun H3 p ys s3 n3 hp ep m z => q _ p ys (s1.trans s3) ep (fun y hy => ?_) (by omega)⟩
    rcases m y hy with h | h
    · obtain ⟨b, hb⟩ := paired_mem pu y h
      exact ⟨b, hb.same (s1.trans s3)⟩
    · exact ⟨(x1 - 4, x2 - 1), t, h, s3 _ _ et⟩
  by_cases c0 : τ = []
  · rw [decide_eq_true c0]
    exact iteT first
  rw [decide_eq_false c0, if_neg (by decide)]
  have tpos : 0 < τ.length := List.length_pos_iff.mpr c0
  refine ⟨c, 3, 3, rfl, by decide, by decide, n0, fun x3 _ _ => req_int ⟨_, rfl, ?_⟩⟩
  by_cases c3 : x3 = 0
  · rw [decide_eq_true c3]
    exact iteT first
  rw [decide_eq_false c3]
  refine iteF (h2 _ (k _ _ (seq_i fun nx2 k2 => ?_)))
  try walk_at "rd"
  refine rlen_lst (s0 _ _ eu) lu ⟨c, 6, τ.length, rfl, by decide, by omega, n0, fun i i0 i1 => k2 _ _ (seq_i fun nx3 k3 => ?_)⟩
  try walk_at "rd"
  have ii : i.toNat < us.length := by omega
  obtain ⟨⟨d, b⟩, t, et, ht⟩ := paired_mem pu us[i.toNat] (List.getElem_mem ii)
  refine rix_lst (s0 _ _ eu) i0 (List.getElem?_eq_getElem ii) ?_
  rw [et]
  refine gtup2 (s0 _ _ ht) (k3 _ _ (seq_i fun nx4 k4 => ?_))
  have rest : ∀ tt dd bb H', Same H H' → NoT H' → H' tt = some (.tup [V.int dd, .int bb]) → nx4 [some (.ref a), some (.int c), some (.int i), some (.int d), some (.int b), some (.ref tt)] H' := by
    intro tt dd bb H' s n' ett
    refine k4 _ _ ?_
    try walk_at "rd"
    refine cut_lst (s _ _ eu) (cutV_lo i0 (by omega)) fun p1 hp1 => ⟨by show 1 ≤ sizeLine; decide, fun p2 hp2 => ?_⟩
    have s2 := Same.upd (o := .lst (us.take i.toNat)) hp1
    have s12 := Same.upd (o := .lst [V.ref tt]) hp2
    refine cat_lst (s12 _ _ upd_same) upd_same (by rw [List.length_take]; show _ + 1 ≤ _; omega) fun p3 hp3 => ?_
    have s4 := (s2.trans s12).trans (Same.upd (o := .lst (us.take i.toNat ++ [V.ref tt])) hp3)
    refine cut_lst (s4 _ _ (s _ _ eu)) (cutV_hi (by omega) (by omega)) fun p4 hp4 => ?_
    have s5 := Same.upd (o := .lst (us.drop (i + 1).toNat)) hp4
    refine cat_lst (s5 _ _ upd_same) upd_same (by simp only [List.length_append, List.length_take, List.length_drop, List.length_cons, List.length_nil]; omega) fun p5 hp5 => ?_
    have s6 := (s4.trans s5).trans (Same.upd (o := .lst (us.take i.toNat ++ [V.ref tt] ++ us.drop (i + 1).toNat)) hp5)
    refine q _ p5 _ (s.trans s6) upd_same (fun y hy => ?_) (by simp only [List.length_append, List.length_take, List.length_drop, List.length_cons, List.length_nil]; omega)
    have old : y ∈ us → ∃ b, IsP _ y b := fun h => by
      obtain ⟨b, hb⟩ := paired_mem pu y h
      exact ⟨b, hb.same (s.trans s6)⟩
    rcases List.mem_append.mp hy with hy | hy
    · rcases List.mem_append.mp hy with hy | hy
      · exact old (List.mem_of_mem_take hy)
      · exact ⟨(dd, bb), tt, List.mem_singleton.mp hy, s6 _ _ ett⟩
    · exact old (List.mem_of_mem_drop hy)
  try walk_at "rd"
  refine ⟨by decide, fun t1 g1 => ⟨by decide, fun t2 g2 => ⟨by decide, fun t3 g3 => ⟨by decide, fun t4 g4 => ⟨by decide, fun t5 g5 => ⟨by decide, fun l6 g6 => ?_⟩⟩⟩⟩⟩⟩
  have u1 := Same.upd (o := .tup [V.int d, .int (b + 1)]) g1
  have u2 := Same.upd (o := .tup [V.int d, .int (b - 1)]) g2
  have u3 := Same.upd (o := .tup [V.int (d + 1), .int b]) g3
  have u4 := Same.upd (o := .tup [V.int d, .int (-b)]) g4
  have u5 := Same.upd (o := .tup [V.int d, .int b]) g5
  have u6 := Same.upd (o := .lst [V.ref t1, .ref t2, .ref t3, .ref t4, .ref t5]) g6
  have e1 := ((((u2.trans u3).trans u4).trans u5).trans u6) _ _ upd_same
  have e2 := (((u3.trans u4).trans u5).trans u6) _ _ upd_same
  have e3 := ((u4.trans u5).trans u6) _ _ upd_same
  have e4 := (u5.trans u6) _ _ upd_same
  have e5 := u6 _ _ upd_same
  have sA := (((((s0.trans u1).trans u2).trans u3).trans u4).trans u5).trans u6
  have nA : NoT (upd (upd (upd (upd (upd (upd H1 t1 (.tup [V.int d, .int (b + 1)])) t2 (.tup [V.int d, .int (b - 1)])) t3 (.tup [V.int (d + 1), .int b])) t4 (.tup [V.int d, .int (-b)])) t5 (.tup [V.int d, .int b])) l6 (.lst [V.ref t1, .ref t2, .ref t3, .ref t4, .ref t5])) := n0.upd.upd.upd.upd.upd.upd
  have e6 : (upd (upd (upd (upd (upd (upd H1 t1 (.tup [V.int d, .int (b + 1)])) t2 (.tup [V.int d, .int (b - 1)])) t3 (.tup [V.int (d + 1), .int b])) t4 (.tup [V.int d, .int (-b)])) t5 (.tup [V.int d, .int b])) l6 (.lst [V.ref t1, .ref t2, .ref t3, .ref t4, .ref t5])) l6 = some (.lst [V.ref t1, .ref t2, .ref t3, .ref t4, .ref t5]) := upd_same
  clear u1 u2 u3 u4 u5 u6
  generalize (upd (upd (upd (upd (upd (upd H1 t1 (.tup [V.int d, .int (b + 1)])) t2 (.tup [V.int d, .int (b - 1)])) t3 (.tup [V.int (d + 1), .int b])) t4 (.tup [V.int d, .int (-b)])) t5 (.tup [V.int d, .int b])) l6 (.lst [V.ref t1, .ref t2, .ref t3, .ref t4, .ref t5]) : Hp) = H6 at e1 e2 e3 e4 e5 e6 sA nA ⊢
  refine ⟨c, 7, 5, rfl, by decide, by decide, nA, fun z z0 z1 => ?_⟩
  have zc : z = 0 ∨ z = 1 ∨ z = 2 ∨ z = 3 ∨ z = 4 := by omega
  rcases zc with rfl | rfl | rfl | rfl | rfl
  · exact rix_lst e6 (by decide) rfl (rest t1 _ _ _ sA nA e1)
  · exact rix_lst e6 (by decide) rfl (rest t2 _ _ _ sA nA e2)
  · exact rix_lst e6 (by decide) rfl (rest t3 _ _ _ sA nA e3)
  · exact rix_lst e6 (by decide) rfl (rest t4 _ _ _ sA nA e4)
  · exact rix_lst e6 (by decide) rfl (rest t5 _ _ _ sA nA e5)
end
end Spn

namespace Spn
open PySem PySem.Spec PyProof.Rows L2
section
variable {K : PySem.W.Frag} {w : World} {vs : List V} {H : Hp} {Q Q0 : VK} {E : XK}
/-- a list of its own is made another -/
structure Oth (H H' : Hp) (l : Addr) : Prop where
  k : ∀ b o, H b = some o → b ≠ l → H' b = some o
  t : TK H H'
theorem Oth.upd {l : Addr} {xs ys : List V} (h : H l = some (.lst xs)) : Oth H (L2.upd H l (.lst ys)) l := ⟨fun b o e ne => (upd_ne ne).trans e, (TK.refl _).lst h⟩
theorem Oth.ins {H' : Hp} {l x C dx : Addr} {fs : List (Str × V)} {xs : List V} (o : Oth H H' l) (e : H l = some (.lst xs)) (h : H x = some (.ins C dx fs)) : H' x = some (.ins C dx fs) := o.k _ _ h (ne_of h e (by intro z; cases z))
theorem Oth.tolls {H' : Hp} {l a : Addr} {τ : List (Int × Int)} (o : Oth H H' l) (ne : a ≠ l) (h : TollsAt H a τ) : TollsAt H' a τ := by
  obtain ⟨us, e, p⟩ := h
  exact ⟨us, o.k _ _ e ne, p.mono fun _ _ q => q.keep o.t⟩
theorem Oth.reqs {H' : Hp} {l a : Addr} {rs : List Rq} (o : Oth H H' l) (ne : a ≠ l) (h : ReqsAt H a rs) : ReqsAt H' a rs := by
  obtain ⟨us, e, p⟩ := h
  exact ⟨us, o.k _ _ e ne, p.mono fun _ _ q => q.keep o.t⟩
theorem make_Best {b c : Addr} {ts us : List V} {Q : Addr → Hp → Prop} (hb : H b = some (.lst ts)) (hc : H c = some (.lst us)) (n : NoT H)
    (k : ∀ H' x p q dx, Same H H' → NoT H' → H p = none → H q = none → p ≠ q → H' x = some (.ins (He.ga K "Best") dx (bestF p q)) → H' p = some (.lst ts) → H' q = some (.lst us) → Q x H') (x dx : Addr) (hx : H x = none) (hd : H dx = none) (ne : dx ≠ x) :
    sp_Best___init__ K w [.ref x, .ref b, .ref c] (upd (upd H dx (.own x)) x (.ins (He.ga K "Best") dx [])) (fun v H2 => v = .non ∧ Q x H2) E0 := by
  have sA := Same.upd (o := .own x) hd
  have hxA : (upd H dx (.own x)) x = none := by rw [upd_ne ne.symm]; exact hx
  have sB := Same.upd2 (o := .ins (He.ga K "Best") dx []) sA hxA
  refine ⟨x, dx, b, c, ts, us, rfl, upd_same, sB _ _ hb, sB _ _ hc, n.upd.upd, fun H4 p q hp hq npq ex ep eq keep n4 => ⟨rfl, ?_⟩⟩
  exact k H4 x p q dx (fun b o e => keep b o (sB b o e) (ne_of_none e hx)) n4 (sB.free hp) (sB.free hq) npq ex ep eq
theorem make_Lodged {b : Addr} {ts : List V} {Q : Addr → Hp → Prop} (hb : H b = some (.lst ts)) (n : NoT H)
    (k : ∀ H' x p dx, Same H H' → NoT H' → H p = none → H' x = some (.ins (He.ga K "Lodged") dx (lodF p)) → H' p = some (.lst ts) → Q x H') (x dx : Addr) (hx : H x = none) (hd : H dx = none) (ne : dx ≠ x) :
    sp_Lodged___init__ K w [.ref x, .ref b] (upd (upd H dx (.own x)) x (.ins (He.ga K "Lodged") dx [])) (fun v H2 => v = .non ∧ Q x H2) E0 := by
  have sA := Same.upd (o := .own x) hd
  have hxA : (upd H dx (.own x)) x = none := by rw [upd_ne ne.symm]; exact hx
  have sB := Same.upd2 (o := .ins (He.ga K "Lodged") dx []) sA hxA
  refine ⟨x, dx, b, ts, rfl, upd_same, sB _ _ hb, n.upd.upd, fun H4 p hp ex ep keep n4 => ⟨rfl, ?_⟩⟩
  exact k H4 x p dx (fun b o e => keep b o (sB b o e) (ne_of_none e hx)) n4 (sB.free hp) ex ep
theorem make_Crowd {d : Int} {b : Addr} {ts : List V} {Q : Addr → Hp → Prop} (hb : H b = some (.lst ts)) (n : NoT H)
    (k : ∀ H' x p dx, Same H H' → NoT H' → H p = none → H' x = some (.ins (He.ga K "Crowd") dx (crowdF d p)) → H' p = some (.lst ts) → Q x H') (x dx : Addr) (hx : H x = none) (hd : H dx = none) (ne : dx ≠ x) :
    sp_Crowd___init__ K w [.ref x, .int d, .ref b] (upd (upd H dx (.own x)) x (.ins (He.ga K "Crowd") dx [])) (fun v H2 => v = .non ∧ Q x H2) E0 := by
  have sA := Same.upd (o := .own x) hd
  have hxA : (upd H dx (.own x)) x = none := by rw [upd_ne ne.symm]; exact hx
  have sB := Same.upd2 (o := .ins (He.ga K "Crowd") dx []) sA hxA
  refine ⟨x, dx, d, b, ts, rfl, upd_same, sB _ _ hb, n.upd.upd, fun H4 p hp ex ep keep n4 => ⟨rfl, ?_⟩⟩
  exact k H4 x p dx (fun b o e => keep b o (sB b o e) (ne_of_none e hx)) n4 (sB.free hp) ex ep
theorem make_Due {p : Int} {a b c d : Addr} {ts us os ws : List V} {Q : Addr → Hp → Prop} (ha : H a = some (.lst ts)) (hb : H b = some (.lst us)) (hc : H c = some (.lst os)) (hd' : H d = some (.lst ws)) (n : NoT H)
    (k : ∀ H' x dx t u o v, Same H H' → NoT H' → H t = none → H u = none → H o = none → H v = none → H' x = some (.ins (He.ga K "Due") dx (dueF p t u o v)) → H' t = some (.lst ts) → H' u = some (.lst us) → H' o = some (.lst os) → H' v = some (.lst ws) → Q x H') (x dx : Addr) (hx : H x = none) (hd : H dx = none) (ne : dx ≠ x) :
    sp_Due___init__ K w [.ref x, .int p, .ref a, .ref b, .ref c, .ref d] (upd (upd H dx (.own x)) x (.ins (He.ga K "Due") dx [])) (fun v H2 => v = .non ∧ Q x H2) E0 := by
  have sA := Same.upd (o := .own x) hd
  have hxA : (upd H dx (.own x)) x = none := by rw [upd_ne ne.symm]; exact hx
  have sB := Same.upd2 (o := .ins (He.ga K "Due") dx []) sA hxA
  refine ⟨x, dx, p, a, b, c, d, ts, us, os, ws, rfl, upd_same, sB _ _ ha, sB _ _ hb, sB _ _ hc, sB _ _ hd', n.upd.upd, fun H4 t u o v ht hu ho hv _ _ _ _ _ _ ex et eu eo ev keep n4 => ⟨rfl, ?_⟩⟩
  exact k H4 x dx t u o v (fun b o e => keep b o (sB b o e) (ne_of_none e hx)) n4 (sB.free ht) (sB.free hu) (sB.free ho) (sB.free hv) ex et eu eo ev
theorem pure__law_best_right (C : BestC K) (h : sp__law_best_right K w vs H Q E) (fin : Fin H Q Q0) : t__law_best_right K w (endS Q0) (start ["_law_requests_here", "_law_rooms_here", "_law_taken", "_law_tolls", "_law_handed", "_law_answer"] vs) H := by
  obtain ⟨a, m, b, c, rs, ns, τ, rfl, hr, hb, hc, z1, z2, z3, hm, n, q⟩ := h
  obtain ⟨us, eu, pu⟩ := id hc
  refine seq_i fun nx k => ?_
  try walk_at "rd"
  refine ⟨b, _, rfl, .inl (SqL.of hb), fun l1 hl1 => ?_⟩
  have s1 := Same.upd (o := .lst (ns.map V.int)) hl1
  refine ⟨c, us, rfl, .inl (SqL.of (s1 _ _ eu)), fun l2 hl2 => ⟨by show 2 ≤ sizeLine; decide, fun l3 hl3 => k _ _ (seq_i fun nx2 k2 => ?_)⟩⟩
  have s12 := Same.upd (o := .lst us) hl2
  have s23 := Same.upd (o := .lst [V.ref l1, .ref l2]) hl3
  have e1 := (s12.trans s23) _ _ (upd_same (H := H) (a := l1) (o := .lst (ns.map V.int)))
  have e2 := s23 _ _ (upd_same (H := upd H l1 (.lst (ns.map V.int))) (a := l2) (o := .lst us))
  have e3 : (upd (upd (upd H l1 (.lst (ns.map V.int))) l2 (.lst us)) l3 (.lst [V.ref l1, .ref l2])) l3 = some (.lst [V.ref l1, .ref l2]) := upd_same
  have s3 := (s1.trans s12).trans s23
  have n3 : NoT (upd (upd (upd H l1 (.lst (ns.map V.int))) l2 (.lst us)) l3 (.lst [V.ref l1, .ref l2])) := n.upd.upd.upd
  have n31 : l3 ≠ l1 := (ne_of_none (s12 _ _ (upd_same (H := H) (a := l1) (o := .lst (ns.map V.int)))) hl3).symm
  have hl2 := s1.free hl2
  have n12 : l1 ≠ l2 := fun z => by
    subst z
    exact ne_of_none (upd_same (H := H) (a := l1) (o := .lst (ns.map V.int))) (by assumption) rfl
  generalize (upd (upd (upd H l1 (.lst (ns.map V.int))) l2 (.lst us)) l3 (.lst [V.ref l1, .ref l2]) : Hp) = H3 at e1 e2 e3 s3 n3 ⊢
  try walk_at "rd"
  unfold tMake
  try walk_at "rd"
  refine rix_lst (z := 0) e3 (by decide) rfl (rix_lst (z := 1) e3 (by decide) rfl (make_Best e1 e2 n3 fun H4 x p r dx s4 n4 hp hr' npr hx ep er => k2 _ _ (seq_i fun nx3 k3 => ?_)))
  try walk_at "rd"
  have s04 := s3.trans s4
  refine rix_lst (s4 _ _ e3) (by decide) rfl ⟨ty_lst (K := K) (s4 _ _ e1), rapp (K := K) (s4 _ _ e1) (by rw [List.length_map, sizeLine_eq]; omega) (k3 _ _ (seq_i fun nx4 k4 => ?_))⟩
  have o5 := Oth.upd (ys := ns.map V.int ++ [V.int 0]) (s4 _ _ e1)
  have s5 := Same.upd3 (o := .lst (ns.map V.int ++ [V.int 0])) s04 hl1
  have n5 : NoT (upd H4 l1 (.lst (ns.map V.int ++ [V.int 0]))) := n4.upd
  have hx5 := o5.ins (s4 _ _ e1) hx
  have ep5 := o5.k _ _ ep (ne_of_none e1 hp).symm
  have er5 := o5.k _ _ er (ne_of_none e1 hr').symm
  have e25 := o5.k _ _ (s4 _ _ e2) n12.symm
  have e35 := o5.k _ _ (s4 _ _ e3) n31
  generalize (upd H4 l1 (.lst (ns.map V.int ++ [V.int 0])) : Hp) = H5 at s5 n5 hx5 ep5 er5 e25 e35 ⊢
  try walk_at "rd"
  refine rix_lst e35 (by decide) rfl ⟨ty_lst (K := K) e25, by decide, fun t ht => ?_⟩
  have s56 := Same.upd (o := .tup [V.int 0, .int 0]) ht
  refine rapp (K := K) (s56 _ _ e25) (by rw [pu.length, sizeLine_eq]; omega) (k4 _ _ (seq_i fun nx5 k5 => if_i fun th el h1 h2 => ?_))
  have o7 := Oth.upd (ys := us ++ [V.ref t]) (s56 _ _ e25)
  have s7 := Same.upd3 (o := .lst (us ++ [V.ref t])) (s5.trans s56) hl2
  have n7 : NoT (upd (upd H5 t (.tup [V.int 0, .int 0])) l2 (.lst (us ++ [V.ref t]))) := n5.upd.upd
  have hx7 := o7.ins (s56 _ _ e25) (s56 _ _ hx5)
  have ep7 := o7.k _ _ (s56 _ _ ep5) (ne_of_none e2 hp).symm
  have er7 := o7.k _ _ (s56 _ _ er5) (ne_of_none e2 hr').symm
  generalize (upd (upd H5 t (.tup [V.int 0, .int 0])) l2 (.lst (us ++ [V.ref t])) : Hp) = H7 at s7 n7 hx7 ep7 er7 ⊢
  have hc7 := hc.same s7
  have hb7 := s7 _ _ hb
  have hr7 := hr.same s7
  have B : BestAt K H7 x p r ns τ := ⟨⟨dx, hx7⟩, ep7, us, er7, pu.mono fun _ _ h => h.same s7⟩
  try walk_at "rd"
  refine best_fld1 C (fun Q h => ⟨_, rfl, h⟩) B (rneD_I B.2.1 hb7 ⟨_, rfl, ?_⟩)
  rw [decide_eq_true rfl, if_neg (by decide)]
  refine best_fld2 C (fun Q h => ⟨_, rfl, h⟩) B (rneD_P B.2.2 hc7 ⟨_, rfl, ?_⟩)
  rw [decide_eq_true rfl]
  refine iteF (h2 _ (k5 _ _ ?_))
  try walk_at "rd"
  refine best_shows (fun Q h => ⟨_, rfl, h⟩) (fun Q h => ⟨_, rfl, h⟩) (fun Q h => ⟨_, rfl, h⟩) B hr7 (by omega) (by omega) (by omega) hm n7 ?_
  refine ⟨a, m, b, c, rs, ns, τ, rfl, hr7, hb7, hc7, by omega, by omega, by omega, hm, n7, ?_⟩
  refine ⟨_, _, rfl, n7, ?_⟩
  rw [decide_eq_true rfl]
  exact fin.same n s7 q
end
end Spn

namespace Spn
open PySem PySem.Spec PyProof.Rows L2
section
variable {K : PySem.W.Frag} {w : World} {vs : List V} {H : Hp} {Q Q0 : VK} {E : XK}
/-- those who would lodge with a -/
def lodWith (rs : List Rq) (R : List Int) (a : Int) : List Int := (forDay rs (every rs.length) (getR rs a).1).filter fun b => decide (fI R b = fI R a)
theorem lod_with {rs : List Rq} (ok : OkR rs) (m : Int) (R : List Int) : lodShows rs m R = (decide (R.length = rs.length) && (R.all fun r => decide (0 ≤ r) && decide (r < m)) && ((every rs.length).all fun a => decide (lodWith rs R a = [a]))) := by
  rw [← lod_eq ok]
  unfold lodDue
  refine congrArg (fun z => (decide (R.length = rs.length) && (R.all fun r => decide (0 ≤ r) && decide (r < m))) && z) ?_
  refine congrArg (fun f => List.all (every rs.length) f) (funext fun a => ?_)
  have e : forDay rs ((every rs.length).filter fun b => decide (fI R b = fI R a)) (getR rs a).1 = lodWith rs R a := by
    unfold lodWith forDay
    rw [List.filter_filter, List.filter_filter]
    exact List.filter_congr fun z _ => Bool.and_comm _ _
  rw [e]
theorem pure__law_lodged_right (C : LodC K) (h : sp__law_lodged_right K w vs H Q E) (fin : Fin H Q Q0) : t__law_lodged_right K w (endS Q0) (start ["_law_requests_here", "_law_rooms_here", "_law_some", "_law_every", "_law_wanted", "_law_at", "_law_beside", "_law_handed", "_law_answer", "_law_room", "_law_one"] vs) H := by
  obtain ⟨a, m, b, rs, R, rfl, hr, ok, hb, z1, z2, n, q⟩ := h
  obtain ⟨rvs, er, prr⟩ := id hr
  refine seq_i fun nx k => ?_
  unfold tLstRg tRg1
  try walk_at "rd"
  refine rlen_lst er prr.length ⟨_, rfl, RgOk.of_le (by decide) (by omega) (by decide) (by omega), fun e he => k _ _ (seq_i fun nx2 k2 => ?_)⟩
  have s1 := Same.upd (o := .lst (rgV 0 (rs.length : Int))) he
  have he1 : IntsAt (upd H e (.lst (rgV 0 (rs.length : Int)))) e (every rs.length) := by show _ = _; rw [upd_same, rgV_every]
  have n1 : NoT (upd H e (.lst (rgV 0 (rs.length : Int)))) := n.upd
  generalize (upd H e (.lst (rgV 0 (rs.length : Int))) : Hp) = H1 at s1 he1 n1 ⊢
  -- behind the loop
  have rest : ∀ (W : Bool) (H' : Hp) (nx3 : L2.St → Hp → Prop) (x5 x6 x9 x10 : Option V), (∀ σ' H', tSeq (tAsg (tCB (qList K) (tCons (tVar 2) tNil)) (gName 7)) (tSeq (tAsg (tMake (He.ga K "Lodged") (sp_Lodged___init__ K w) [] E0 (tCons (tVar 7) tNil)) (gName 8)) (tSeq (tDrop (tBM K "list" rAppend (tVar 7) (tCons (tC (.int 0)) tNil))) (tRet (tAndV (tOp (rEqD K) (tFld K (tVar 8) "rooms") (tVar 2)) (tCall (sp__law_says K w) [] E0 (tCons (tMeth (He.ga K "Lodged") "shows" (sp_Lodged_shows K w) [] E0 (tVar 8) (tCons (tVar 0) (tCons (tVar 1) tNil))) (tCons (tVar 4) tNil)))))))  (endS Q0) σ' H' → nx3 σ' H') →
      Same H H' → NoT H' → W = lodShows rs m R → (nx3 [some (.ref a), some (.int m), some (.ref b), some (.ref e), some (.bl W), x5, x6, none, none, x9, x10] H' : Prop) := by
    intro W H' nx3 x5 x6 x9 x10 k3 s n' eW
    refine k3 _ _ (seq_i fun nx4 k4 => ?_)
    try walk_at "rd"
    refine ⟨b, _, rfl, .inl (SqL.of (s _ _ hb)), fun l hl => k4 _ _ (seq_i fun nx5 k5 => ?_)⟩
    have s2 := s.trans (Same.upd (o := .lst (R.map V.int)) hl)
    have el : (upd H' l (.lst (R.map V.int))) l = some (.lst (R.map V.int)) := upd_same
    have n2 : NoT (upd H' l (.lst (R.map V.int))) := n'.upd
    have l0 := s.free hl
    generalize (upd H' l (.lst (R.map V.int)) : Hp) = H2 at s2 el n2 ⊢
    try walk_at "rd"
    unfold tMake
    try walk_at "rd"
    refine make_Lodged el n2 fun H4 x p dx s4 n4 hp hx ep => k5 _ _ (seq_i fun nx6 k6 => ?_)
    try walk_at "rd"
    refine ⟨ty_lst (K := K) (s4 _ _ el), rapp (K := K) (s4 _ _ el) (by rw [List.length_map, sizeLine_eq]; omega) (k6 _ _ ?_)⟩
    have o5 := Oth.upd (ys := R.map V.int ++ [V.int 0]) (s4 _ _ el)
    have s5 := Same.upd3 (o := .lst (R.map V.int ++ [V.int 0])) (s2.trans s4) l0
    have n5 : NoT (upd H4 l (.lst (R.map V.int ++ [V.int 0]))) := n4.upd
    have hx5 := o5.ins (s4 _ _ el) hx
    have ep5 := o5.k _ _ ep (ne_of_none el hp).symm
    generalize (upd H4 l (.lst (R.map V.int ++ [V.int 0])) : Hp) = H5 at s5 n5 hx5 ep5 ⊢
    try walk_at "rd"
    refine rfld (fun Q h => ⟨_, rfl, h⟩) hx5 C.cl C.n1 (lf_rooms p) (reqD_I (ns := R) (ms := R) ep5 (s5 _ _ hb) ⟨_, rfl, ?_⟩)
    rw [decide_eq_true rfl, if_pos rfl]
    refine rmeth (vs := [.ref a, .int m]) (fun Q h => ⟨_, rfl, h⟩) hx5 (lf_shows p) (fun R h => ⟨_, rfl, _, rfl, h⟩) ⟨x, p, a, m, rs, R, rfl, ⟨⟨dx, hx5⟩, ep5⟩, hr.same s5, by omega, by omega, n5, ?_⟩
    refine ⟨_, _, rfl, n5, ?_⟩
    rw [eW, decide_eq_true rfl]
    exact fin.same n s5 q
  try walk_at "rd"
  refine rlen_lst (s1 _ _ hb) (List.length_map _) (rlen_lst (s1 _ _ er) prr.length (req_int ⟨_, rfl, ?_⟩))
  -- the loop is not walked
  have no : ∀ H', Same H H' → NoT H' → lodShows rs m R = false → ∀ x9 : Option V, nx2 [some (.ref a), some (.int m), some (.ref b), some (.ref e), some (.bl false), none, none, none, none, x9, none] H' := by
    intro H' s n' e0 x9
    refine k2 _ _ (seq_i fun nx3 k3 => tFor_lvia ?_)
    try walk_at "rd"
    refine ⟨Nat.zero_le _, fun p0 hp0 => ?_⟩
    have sp := Same.upd (o := .lst []) hp0
    refine tFor_lst (K := K) (a := p0) (xs := []) (fun S h => h) (fun i σ H2 => σ = [some (.ref a), some (.int m), some (.ref b), some (.ref e), some (.bl false), none, none, none, none, x9, none] ∧ H2 = upd H' p0 (.lst [])) ⟨rfl, rfl⟩ (fun i σ H2 h => by rw [h.2]; exact upd_same) (fun i v σ H2 nxL kL hv => nomatch hv) ?_
    rintro σ H2 ⟨rfl, rfl⟩
    exact rest false _ nx3 none none x9 none k3 (s.trans sp) n'.upd e0.symm
  by_cases cl : (R.length : Int) = rs.length
  case neg =>
    rw [decide_eq_false cl, if_neg (by decide)]
    refine no H1 s1 n1 ?_ none
    unfold lodShows
    rw [decide_eq_false (by omega)]
    rfl
  rw [decide_eq_true cl, if_pos rfl]
  have cl' : R.length = rs.length := by omega
  refine tLc_list R (fun r => some (.bl (decide (0 ≤ r) && decide (r < m)))) (fun S h => ⟨_, rfl, h⟩) (s1 _ _ hb) (ints_paired R) (le1000 (by omega)) (fun D v i acc Nx hD e _ add _ => ?_) fun D hD => ?_
  · subst e
    try walk_at "rd"
    by_cases c : 0 ≤ i
    · rw [if_pos c]
      exact add _ (by rw [decide_eq_true c, Bool.true_and])
    · rw [if_neg c]
      exact add _ (by rw [decide_eq_false c, Bool.false_and])
  have s02 := s1.trans (Same.upd (o := .lst (R.filterMap fun r => some (V.bl (decide (0 ≤ r) && decide (r < m))))) hD)
  have n02 : NoT (upd H1 D (.lst (R.filterMap fun r => some (V.bl (decide (0 ≤ r) && decide (r < m)))))) := n1.upd
  have he2 := Same.upd (o := .lst (R.filterMap fun r => some (V.bl (decide (0 ≤ r) && decide (r < m))))) hD _ _ he1
  refine all_new (bs := R.map fun r => decide (0 ≤ r) && decide (r < m)) (fm_map _ V.bl R) ?_
  have ea2 : (R.map fun r => decide (0 ≤ r) && decide (r < m)).all id = R.all fun r => decide (0 ≤ r) && decide (r < m) := by
    rw [List.all_map]
    rfl
  rw [ea2]
  cases ca : R.all fun r => decide (0 ≤ r) && decide (r < m) with
  | false =>
    refine no _ s02 n02 ?_ none
    unfold lodShows
    rw [ca, Bool.and_false]
    rfl
  | true =>
  generalize (upd H1 D (.lst (R.filterMap fun r => some (V.bl (decide (0 ≤ r) && decide (r < m))))) : Hp) = H2 at s02 n02 he2 ⊢
  refine k2 _ _ (seq_i fun nx3 k3 => tFor_lvia ?_)
  try walk_at "rd"
  refine tFor_lst (K := K) (a := e) (xs := (every rs.length).map V.int) (fun S h => h) (fun i σ H' => ∃ W x5 x6 x10, σ = [some (.ref a), some (.int m), some (.ref b), some (.ref e), some (.bl W), x5, x6, none, none, none, x10] ∧ Same H H' ∧ NoT H' ∧ IntsAt H' e (every rs.length) ∧ (W = true ↔ ∀ j : Nat, j < i → lodWith rs R (j : Int) = [(j : Int)])) ⟨true, none, none, none, rfl, s02, n02, he2, fun _ j hj => by omega, fun _ => rfl⟩ ?_ ?_ ?_
  · rintro i σ H' ⟨_, _, _, _, rfl, _, _, h, _⟩
    exact h
  · rintro i v σ H' nxL kL hv ⟨W, x5, x6, x10, rfl, s, n', he', okk⟩
    have hi : i < rs.length := by
      have := (List.getElem?_eq_some_iff.mp hv).1
      rwa [List.length_map, every_len] at this
    have ev : v = .int (i : Int) := by
      unfold every at hv
      rw [List.getElem?_map, List.getElem?_map, List.getElem?_range hi] at hv
      exact (Option.some.inj hv).symm
    subst ev
    try walk_at "rd"
    refine seq_i fun nx5 k5 => ?_
    try walk_at "rd"
    refine rix_req (hr.same s) (Int.natCast_nonneg i) (by omega) fun t ht => rix_tup ht (by decide) rfl ?_
    refine ⟨a, e, _, rs, _, rfl, hr.same s, he', every_in _, by rw [every_len]; omega, n', fun p2 hp2 => k5 _ _ ?_⟩
    have s2 := s.trans (Same.upd (o := .lst ((forDay rs (every rs.length) (getR rs (i : Int)).1).map V.int)) hp2)
    have e2 : IntsAt (upd H' p2 (.lst ((forDay rs (every rs.length) (getR rs (i : Int)).1).map V.int))) p2 (forDay rs (every rs.length) (getR rs (i : Int)).1) := upd_same
    have n2 : NoT (upd H' p2 (.lst ((forDay rs (every rs.length) (getR rs (i : Int)).1).map V.int))) := n'.upd
    have he2 := Same.upd (o := .lst ((forDay rs (every rs.length) (getR rs (i : Int)).1).map V.int)) hp2 _ _ he'
    generalize (upd H' p2 (.lst ((forDay rs (every rs.length) (getR rs (i : Int)).1).map V.int)) : Hp) = H3 at s2 e2 n2 he2 ⊢
    try walk_at "rd"
    cases W with
    | false =>
      rw [if_neg (by decide)]
      refine kL _ _ ⟨false, _, _, _, rfl, s2, n2, he2, fun z => (by cases z), fun z => ?_⟩
      exact okk.mpr fun j hj => z j (by omega)
    | true =>
    rw [if_pos rfl]
    refine tLc_list (forDay rs (every rs.length) (getR rs (i : Int)).1) (fun z => if decide (fI R z = fI R (i : Int)) = true then some (.int z) else none) (fun S h => ⟨_, rfl, h⟩) e2 (ints_paired _) (le1000 (Nat.le_trans (List.length_filter_le _ _) (by rw [every_len]; omega))) (fun D2 v z acc Nx hD2 ez hz add skip => ?_) fun D2 hD2 => ?_
    · subst ez
      obtain ⟨z0, z1⟩ := mem_every.mp (forDay_mem.mp hz).1
      have s4 := s2.trans (Same.upd (o := .lst acc) hD2)
      try walk_at "rd"
      refine rix_room (s4 _ _ hb) z0 (by omega) ?_
      refine rix_room (s4 _ _ hb) (Int.natCast_nonneg i) (by omega) (req_int ⟨_, rfl, ?_⟩)
      by_cases c : fI R z = fI R (i : Int)
      · rw [decide_eq_true c]
        exact iteT (add _ (if_pos (decide_eq_true c)))
      · rw [decide_eq_false c]
        exact iteF (skip (if_neg (by rw [decide_eq_false c]; decide)))
    rw [fm_filter (fun z => decide (fI R z = fI R (i : Int))) V.int]
    have s5 := s2.trans (Same.upd (o := .lst ((lodWith rs R (i : Int)).map V.int)) hD2)
    have s25 := Same.upd (o := .lst ((lodWith rs R (i : Int)).map V.int)) hD2
    have e5 : IntsAt (upd H3 D2 (.lst ((lodWith rs R (i : Int)).map V.int))) D2 (lodWith rs R (i : Int)) := upd_same
    have n5 : NoT (upd H3 D2 (.lst ((lodWith rs R (i : Int)).map V.int))) := n2.upd
    refine ⟨by show 1 ≤ sizeLine; decide, fun p3 hp3 => ?_⟩
    have s6 := Same.upd (o := .lst [V.int (i : Int)]) hp3
    refine reqD_I (ns := lodWith rs R (i : Int)) (ms := [(i : Int)]) (s6 _ _ e5) upd_same ?_
    refine kL _ _ ⟨_, _, _, _, rfl, s5.trans s6, n5.upd, s6 _ _ (s25 _ _ he2), ?_⟩
    rw [decide_eq_true_iff]
    refine ⟨fun z j hj => ?_, fun z => z i (by omega)⟩
    by_cases c : j = i
    · rw [c]; exact z
    · exact okk.mp rfl j (by omega)
  · rintro σ H' ⟨W, x5, x6, x10, rfl, s, n', _, okk⟩
    rw [List.length_map, every_len] at okk
    refine rest W H' nx3 x5 x6 none x10 k3 s n' ?_
    rw [lod_with ok, decide_eq_true cl', ca, Bool.true_and, Bool.true_and, Bool.eq_iff_iff, okk, all_at]
    refine forall_congr' fun j => forall_congr' fun hj => ?_
    rw [decide_eq_true_iff]
end
end Spn

namespace Spn
open PySem PySem.Spec PyProof.Rows L2
section
variable {K : PySem.W.Frag} {w : World} {vs : List V} {H : Hp} {Q Q0 : VK} {E : XK}
theorem pure__law_crowd_right (C : CrowdC K) (h : sp__law_crowd_right K w vs H Q E) (fin : Fin H Q Q0) : t__law_crowd_right K w (endS Q0) (start ["_law_requests_here", "_law_rooms_here", "_law_day", "_law_some", "_law_wanted", "_law_handed", "_law_answer"] vs) H := by
  obtain ⟨a, m, d, b, rs, A, rfl, hr, hb, z1, z2, n, q⟩ := h
  refine seq_i fun nx k => ?_
  try walk_at "rd"
  -- behind what is wanted
  have rest : ∀ (W : Bool) (H' : Hp) (nx3 : L2.St → Hp → Prop), (∀ σ' H', tSeq (tAsg (tCB (qList K) (tCons (tVar 3) tNil)) (gName 5)) (tSeq (tAsg (tMake (He.ga K "Crowd") (sp_Crowd___init__ K w) [] E0 (tCons (tVar 2) (tCons (tVar 5) tNil))) (gName 6)) (tSeq (tDrop (tBM K "list" rAppend (tVar 5) (tCons (tC (.int 0)) tNil))) (tRet (tAndV (tOp rEq (tFld K (tVar 6) "day") (tVar 2)) (tAndV (tOp (rEqD K) (tFld K (tVar 6) "asking") (tVar 3)) (tCall (sp__law_says K w) [] E0 (tCons (tMeth (He.ga K "Crowd") "shows" (sp_Crowd_shows K w) [] E0 (tVar 6) (tCons (tVar 0) (tCons (tVar 1) tNil))) (tCons (tVar 4) tNil)))))))) (endS Q0) σ' H' → nx3 σ' H') →
      Same H H' → NoT H' → W = crowdShows rs m d A → nx3 [some (.ref a), some (.int m), some (.int d), some (.ref b), some (.bl W), none, none] H' := by
    intro W H' nx3 k3 s n' eW
    refine k3 _ _ (seq_i fun nx4 k4 => ?_)
    try walk_at "rd"
    refine ⟨b, _, rfl, .inl (SqL.of (s _ _ hb)), fun l hl => k4 _ _ (seq_i fun nx5 k5 => ?_)⟩
    have s2 := s.trans (Same.upd (o := .lst (A.map V.int)) hl)
    have el : (upd H' l (.lst (A.map V.int))) l = some (.lst (A.map V.int)) := upd_same
    have n2 : NoT (upd H' l (.lst (A.map V.int))) := n'.upd
    have l0 := s.free hl
    generalize (upd H' l (.lst (A.map V.int)) : Hp) = H2 at s2 el n2 ⊢
    try walk_at "rd"
    unfold tMake
    try walk_at "rd"
    refine make_Crowd el n2 fun H4 x p dx s4 n4 hp hx ep => k5 _ _ (seq_i fun nx6 k6 => ?_)
    try walk_at "rd"
    refine ⟨ty_lst (K := K) (s4 _ _ el), rapp (K := K) (s4 _ _ el) (by rw [List.length_map, sizeLine_eq]; omega) (k6 _ _ ?_)⟩
    have o5 := Oth.upd (ys := A.map V.int ++ [V.int 0]) (s4 _ _ el)
    have s5 := Same.upd3 (o := .lst (A.map V.int ++ [V.int 0])) (s2.trans s4) l0
    have n5 : NoT (upd H4 l (.lst (A.map V.int ++ [V.int 0]))) := n4.upd
    have hx5 := o5.ins (s4 _ _ el) hx
    have ep5 := o5.k _ _ ep (ne_of_none el hp).symm
    generalize (upd H4 l (.lst (A.map V.int ++ [V.int 0])) : Hp) = H5 at s5 n5 hx5 ep5 ⊢
    try walk_at "rd"
    refine rfld (fun Q h => ⟨_, rfl, h⟩) hx5 C.cl C.n1 (cf_day d p) (req_int ⟨_, rfl, ?_⟩)
    rw [decide_eq_true rfl, if_pos rfl]
    refine rfld (fun Q h => ⟨_, rfl, h⟩) hx5 C.cl C.n2 (cf_asking d p) (reqD_I (ns := A) (ms := A) ep5 (s5 _ _ hb) ⟨_, rfl, ?_⟩)
    rw [decide_eq_true rfl, if_pos rfl]
    refine rmeth (vs := [.ref a, .int m]) (fun Q h => ⟨_, rfl, h⟩) hx5 (cf_shows d p) (fun R h => ⟨_, rfl, _, rfl, h⟩) ⟨x, p, a, m, d, rs, A, rfl, ⟨⟨dx, hx5⟩, ep5⟩, hr.same s5, by omega, by omega, n5, ?_⟩
    refine ⟨_, _, rfl, n5, ?_⟩
    rw [eW, decide_eq_true rfl]
    exact fin.same n s5 q
  have no : ∀ W : Bool, W = false → crowdShows rs m d A = false → nx [some (.ref a), some (.int m), some (.int d), some (.ref b), some (.bl W), none, none] H := by
    intro W eW e0
    subst eW
    refine k _ _ (seq_i fun nx2 k2 => ?_)
    try walk_at "rd"
    exact rest false H nx2 k2 (Same.refl H) n e0.symm
  refine ⟨a, b, rs, A, rfl, hr, hb, by omega, n, _, rfl, ?_⟩
  cases ci : isChoice rs.length A with
  | false =>
    rw [if_neg (by decide)]
    exact no false rfl (by unfold crowdShows; rw [ci]; rfl)
  | true =>
  rw [if_pos rfl]
  refine rlen_lst hb (List.length_map _) ?_
  try walk_at "rd"
  by_cases c : m < (A.length : Int)
  case neg =>
    exact no _ (decide_eq_false c) (by unfold crowdShows; rw [ci, decide_eq_false c]; rfl)
  rw [decide_eq_true (show (A.length : Int) > m from c)]
  refine k _ _ (seq_i fun nx2 k2 => ?_)
  try walk_at "rd"
  refine ⟨a, b, d, rs, A, rfl, hr, hb, (choice_iff.mp ci).2, by omega, n, fun p hp => ?_⟩
  have s1 := Same.upd (o := .lst ((forDay rs A d).map V.int)) hp
  refine reqD_I (ns := forDay rs A d) (ms := A) upd_same (s1 _ _ hb) ?_
  refine rest _ _ nx2 k2 s1 n.upd ?_
  unfold crowdShows
  rw [ci, decide_eq_true c]
  rfl
end
end Spn

namespace Spn
open PySem PySem.Spec PyProof.Rows L2
section
variable {K : PySem.W.Frag} {w : World} {vs : List V} {H : Hp} {Q Q0 : VK} {E : XK}
theorem due_shows {x t u o v a : Addr} {m f l p : Int} {rs : List Rq} {T : List Int} {τ : List (Int × Int)} {O : List Int} {ρ : List (Int × Int)} {tb tr tm tf tl : TE} {σ : L2.St} {Q : VK} (D : DueAt K H x t u o v p T τ O ρ) (hr : ReqsAt H a rs) (eb : ∀ Q : VK, Q (.ref x) H → tb σ H Q) (er : ∀ Q : VK, Q (.ref a) H → tr σ H Q) (em : ∀ Q : VK, Q (.int m) H → tm σ H Q) (ef : ∀ Q : VK, Q (.int f) H → tf σ H Q) (el : ∀ Q : VK, Q (.int l) H → tl σ H Q)
    (z0 : rs.length ≤ 900) (z1 : T.length ≤ 1000) (z2 : τ.length ≤ 1000) (z3 : O.length ≤ 1000) (z4 : ρ.length ≤ 1000) (hm : Rms m) (n : NoT H) (k : Q (.bl (dueShows rs m f l p T τ O ρ)) H) : tMeth (He.ga K "Due") "shows" (sp_Due_shows K w) [] E0 tb (tCons tr (tCons tm (tCons tf (tCons tl tNil)))) σ H Q := by
  obtain ⟨dx, hx⟩ := D.ins
  exact rmeth (vs := [.ref a, .int m, .int f, .int l]) eb hx (dks p t u o v) (fun R h => er _ (em _ (ef _ (el _ h)))) ⟨x, t, u, o, v, a, m, f, l, p, rs, T, τ, O, ρ, rfl, D, hr, z0, z1, z2, z3, z4, hm, n, k⟩
theorem ints_of {xs ys : List V} {v : V} {ns : List Int} {i : Int} (e : xs = ns.map V.int) (ev : v = .int i) (m : ∀ y ∈ ys, y ∈ xs ∨ y = v) : ∃ ms : List Int, ys = ms.map V.int ∧ ms.length = ys.length := by
  obtain ⟨ms, p⟩ := paired_of (F := fun (y : V) (j : Int) => y = .int j) (ys := ys) fun y hy => by
    rcases m y hy with h | h
    · rw [e] at h
      obtain ⟨j, _, h⟩ := List.mem_map.mp h
      exact ⟨j, h.symm⟩
    · exact ⟨i, h.trans ev⟩
  refine ⟨ms, ?_, p.length.symm⟩
  clear m
  induction p with
  | nil => rfl
  | cons r _ ih => rw [List.map_cons, ← ih, r]
/-- a list of whole numbers, bent -/
theorem bent_I {a : Addr} {c i : Int} {ns : List Int} {Q : VK} (h : IntsAt H a ns) (z : ns.length ≤ 990) (n : NoT H) (k : ∀ H' p ms, Same H H' → NoT H' → H p = none → IntsAt H' p ms → ms.length ≤ ns.length + 1 → Q (.ref p) H') : sp__law_bent K w [.ref a, .int c, .int i] H Q E := by
  refine ⟨a, c, .int i, _, rfl, h, by rw [List.length_map]; omega, n, fun H' p ys s n' hp e m z2 => ?_⟩
  obtain ⟨ms, e2, l⟩ := ints_of rfl rfl m
  rw [List.length_map] at z2
  exact k H' p ms s n' hp (by show _ = _; rw [e, e2]) (by omega)
/-- the parts of a due price, as they stand -/
structure Pts (H H' : Hp) (t u o v : Addr) (T : List Int) (τ : List (Int × Int)) (O : List Int) (σ : List (Int × Int)) : Prop where
  s : Same H H'
  n : NoT H'
  t : IntsAt H' t T
  u : TollsAt H' u τ
  o : IntsAt H' o O
  v : TollsAt H' v σ
  z : T.length ≤ 951 ∧ τ.length ≤ 951 ∧ O.length ≤ 951 ∧ σ.length ≤ 951
theorem Pts.same {H' H2 : Hp} {t u o v : Addr} {T : List Int} {τ : List (Int × Int)} {O : List Int} {σ : List (Int × Int)} (P : Pts H H' t u o v T τ O σ) (s : Same H' H2) (n : NoT H2) : Pts H H2 t u o v T τ O σ := ⟨P.s.trans s, n, s _ _ P.t, P.u.same s, s _ _ P.o, P.v.same s, P.z⟩
end
end Spn

namespace Spn
open PySem PySem.Spec PyProof.Rows L2
/-- behind what is bent -/
def tt_due (K : PySem.W.Frag) (w : World) : TS :=
  (tSeq (tAsg (tLst (tCons (tCB (qList K) (tCons (tVar 8) tNil)) (tCons (tCB (qList K) (tCons (tVar 9) tNil)) (tCons (tCB (qList K) (tCons (tVar 10) tNil)) (tCons (tCB (qList K) (tCons (tVar 11) tNil)) tNil))))) (gName 12))
  (tSeq (tAsg (tMake (He.ga K "Due") (sp_Due___init__ K w) [] E0 (tCons (tVar 7) (tCons (tOp (rIxL K) (tVar 12) (tC (.int 0))) (tCons (tOp (rIxL K) (tVar 12) (tC (.int 1))) (tCons (tOp (rIxL K) (tVar 12) (tC (.int 2))) (tCons (tOp (rIxL K) (tVar 12) (tC (.int 3))) tNil)))))) (gName 13))
  (tSeq (tFor (iList K (tVar 12)) (gName 14) (tDrop (tBM K "list" rAppend (tVar 14) (tCons (tC (.int 0)) tNil))))
  (tSeq (tIfS (tOr (tTest (tOp (rNeD K) (tFld K (tVar 13) "taken") (tVar 8))) (tTest (tOp (rNeD K) (tFld K (tVar 13) "tolls") (tVar 9)))) (tRet (tC (.bl false))) tNext)
  (tSeq (tIfS (tOr (tTest (tOp (rNeD K) (tFld K (tVar 13) "others") (tVar 10))) (tTest (tOp (rNeD K) (tFld K (tVar 13) "other_tolls") (tVar 11)))) (tRet (tC (.bl false))) tNext)
  (tSeq (tAsg (tOp rCat (tVar 0) (tLst (tCons (tTup (tCons (tVar 2) (tCons (tVar 3) (tCons (tCB qMax2 (tCons (tC (.int 0)) (tCons (tVar 7) tNil))) tNil)))) tNil))) (gName 15))
  (tSeq (tAsg (tAndV (tOp qGe (tVar 7) (tC (.int 0))) (tAndV (tOp (rIn K false) (tCB (qLen K) (tCons (tVar 0) tNil)) (tVar 8)) (tCall (sp__law_best K w) [] E0 (tCons (tVar 15) (tCons (tVar 1) (tCons (tVar 8) (tCons (tVar 9) tNil))))))) (gName 16))
  (tSeq (tAsg (tAndV (tVar 16) (tCall (sp__law_best K w) [] E0 (tCons (tVar 0) (tCons (tVar 1) (tCons (tVar 10) (tCons (tVar 11) tNil)))))) (gName 16))
  (tSeq (tAsg (tAndV (tVar 16) (tOp rEq (tCall (sp__law_worth K w) [] E0 (tCons (tVar 15) (tCons (tVar 8) tNil))) (tCall (sp__law_worth K w) [] E0 (tCons (tVar 0) (tCons (tVar 10) tNil))))) (gName 16))
  (tRet (tAndV (tOp rEq (tFld K (tVar 13) "price") (tVar 7)) (tCall (sp__law_says K w) [] E0 (tCons (tMeth (He.ga K "Due") "shows" (sp_Due_shows K w) [] E0 (tVar 13) (tCons (tVar 0) (tCons (tVar 1) (tCons (tVar 2) (tCons (tVar 3) tNil))))) (tCons (tVar 16) tNil))))))))))))))
section
variable {K : PySem.W.Frag} {w : World} {vs : List V} {H : Hp} {Q Q0 : VK} {E : XK}
theorem Pts.oth {H' : Hp} {t u o v b : Addr} {T : List Int} {τ : List (Int × Int)} {O : List Int} {σ : List (Int × Int)} {xs ys : List V} (P : Pts H H' t u o v T τ O σ) (h0 : H b = none) (h : H' b = some (.lst xs)) (n1 : t ≠ b) (n2 : u ≠ b) (n3 : o ≠ b) (n4 : v ≠ b) : Pts H (upd H' b (.lst ys)) t u o v T τ O σ := by
  have o1 := Oth.upd (ys := ys) h
  exact ⟨Same.upd3 P.s h0, P.n.upd, o1.k _ _ P.t n1, o1.tolls n2 P.u, o1.k _ _ P.o n3, o1.tolls n4 P.v, P.z⟩
theorem DueAt.oth {x t u o v b : Addr} {p : Int} {T : List Int} {τ : List (Int × Int)} {O : List Int} {σ : List (Int × Int)} {xs ys : List V} (D : DueAt K H x t u o v p T τ O σ) (h : H b = some (.lst xs)) (n1 : t ≠ b) (n2 : u ≠ b) (n3 : o ≠ b) (n4 : v ≠ b) : DueAt K (upd H b (.lst ys)) x t u o v p T τ O σ := by
  have o1 := Oth.upd (ys := ys) h
  obtain ⟨dx, hx⟩ := D.ins
  exact ⟨⟨dx, o1.ins h hx⟩, o1.k _ _ D.t n1, o1.tolls n2 D.u, o1.k _ _ D.o n3, o1.tolls n4 D.v⟩
theorem four_get {a b c d x : V} {i : Nat} (h : [a, b, c, d][i]? = some x) : x = a ∨ x = b ∨ x = c ∨ x = d := by
  match i, h with
  | 0, h => exact .inl (Option.some.inj h).symm
  | 1, h => exact .inr (.inl (Option.some.inj h).symm)
  | 2, h => exact .inr (.inr (.inl (Option.some.inj h).symm))
  | 3, h => exact .inr (.inr (.inr (Option.some.inj h).symm))
theorem due_tail {a x t u o v : Addr} {m f l c wh p : Int} {rs : List Rq} {T O : List Int} {τ ρ : List (Int × Int)} {H1 : Hp} (C : DueC K) (hr : ReqsAt H a rs) (z0 : rs.length ≤ 450) (hm : Rms m) (n : NoT H) (fin : Fin H Q Q0) (q : Q (.bl true) H) (P : Pts H H1 t u o v T τ O ρ) :
    tt_due K w (endS Q0) [some (.ref a), some (.int m), some (.int f), some (.int l), some (.ref x), some (.int c), some (.int wh), some (.int p), some (.ref t), some (.ref u), some (.ref o), some (.ref v), none, none, none, none, none] H1 := by
  obtain ⟨us, eu, pu⟩ := id P.u
  obtain ⟨ws, ew, pw⟩ := id P.v
  obtain ⟨zT, zτ, zO, zρ⟩ := P.z
  refine seq_i fun nx k => ?_
  try walk_at "rd"
  refine ⟨t, _, rfl, .inl (SqL.of P.t), fun l1 hl1 => ?_⟩
  have s1 := Same.upd (o := .lst (T.map V.int)) hl1
  refine ⟨u, us, rfl, .inl (SqL.of (s1 _ _ eu)), fun l2 hl2 => ?_⟩
  have s2 := Same.upd (o := .lst us) hl2
  refine ⟨o, _, rfl, .inl (SqL.of ((s1.trans s2) _ _ P.o)), fun l3 hl3 => ?_⟩
  have s3 := Same.upd (o := .lst (O.map V.int)) hl3
  refine ⟨v, ws, rfl, .inl (SqL.of (((s1.trans s2).trans s3) _ _ ew)), fun l4 hl4 => ⟨by show 4 ≤ sizeLine; decide, fun l5 hl5 => k _ _ (seq_i fun nx2 k2 => ?_)⟩⟩
  have s4 := Same.upd (o := .lst ws) hl4
  have s5 := Same.upd (o := .lst [V.ref l1, .ref l2, .ref l3, .ref l4]) hl5
  have e1 := (((s2.trans s3).trans s4).trans s5) _ _ upd_same
  have e2 := ((s3.trans s4).trans s5) _ _ upd_same
  have e3 := (s4.trans s5) _ _ upd_same
  have e4 := s5 _ _ upd_same
  have e5 : (upd (upd (upd (upd (upd H1 l1 (.lst (T.map V.int))) l2 (.lst us)) l3 (.lst (O.map V.int))) l4 (.lst ws)) l5 (.lst [V.ref l1, .ref l2, .ref l3, .ref l4])) l5 = some (.lst [V.ref l1, .ref l2, .ref l3, .ref l4]) := upd_same
  have f1 := hl1
  have f2 := s1.free hl2
  have f3 := (s1.trans s2).free hl3
  have f4 := ((s1.trans s2).trans s3).free hl4
  have g1 := ne_of_none (((s2.trans s3).trans s4) _ _ (upd_same (H := H1) (a := l1) (o := .lst (T.map V.int)))) hl5
  have g2 := ne_of_none ((s3.trans s4) _ _ (upd_same (H := upd H1 l1 (.lst (T.map V.int))) (a := l2) (o := .lst us))) hl5
  have g3 := ne_of_none (s4 _ _ (upd_same (H := upd (upd H1 l1 (.lst (T.map V.int))) l2 (.lst us)) (a := l3) (o := .lst (O.map V.int)))) hl5
  have g4 := ne_of_none (upd_same (H := upd (upd (upd H1 l1 (.lst (T.map V.int))) l2 (.lst us)) l3 (.lst (O.map V.int))) (a := l4) (o := .lst ws)) hl5
  have sA := (((s1.trans s2).trans s3).trans s4).trans s5
  have nA : NoT (upd (upd (upd (upd (upd H1 l1 (.lst (T.map V.int))) l2 (.lst us)) l3 (.lst (O.map V.int))) l4 (.lst ws)) l5 (.lst [V.ref l1, .ref l2, .ref l3, .ref l4])) := P.n.upd.upd.upd.upd.upd
  clear s1 s2 s3 s4 s5 hl2 hl3 hl4 hl5
  generalize (upd (upd (upd (upd (upd H1 l1 (.lst (T.map V.int))) l2 (.lst us)) l3 (.lst (O.map V.int))) l4 (.lst ws)) l5 (.lst [V.ref l1, .ref l2, .ref l3, .ref l4]) : Hp) = H2 at e1 e2 e3 e4 e5 sA nA ⊢
  have P2 := P.same sA nA
  try walk_at "rd"
  unfold tMake
  try walk_at "rd"
  refine rix_lst (z := 0) e5 (by decide) rfl (rix_lst (z := 1) e5 (by decide) rfl (rix_lst (z := 2) e5 (by decide) rfl (rix_lst (z := 3) e5 (by decide) rfl (make_Due e1 e2 e3 e4 nA fun H4 y dx t' u' o' v' s4 n4 ht hu ho hv' ex et eu' eo ev => k2 _ _ (seq_i fun nx3 k3 => ?_)))))
  try walk_at "rd"
  have P4 := P2.same s4 n4
  have nb : ∀ b, b = l1 ∨ b = l2 ∨ b = l3 ∨ b = l4 → H1 b = none ∧ b ≠ l5 ∧ ∃ ys, H2 b = some (.lst ys) ∧ ys.length ≤ 1000 := by
    rintro b (rfl | rfl | rfl | rfl)
    · exact ⟨f1, g1, _, e1, by rw [List.length_map]; omega⟩
    · exact ⟨f2, g2, _, e2, by rw [pu.length]; omega⟩
    · exact ⟨f3, g3, _, e3, by rw [List.length_map]; omega⟩
    · exact ⟨f4, g4, _, e4, by rw [pw.length]; omega⟩
  have D4 : DueAt K H4 y t' u' o' v' p T τ O ρ := ⟨⟨dx, ex⟩, et, ⟨us, eu', P4.u.elim fun us' h => by
    have := (s4 _ _ (sA _ _ eu))
    exact pu.mono fun _ _ q => q.same (sA.trans s4)⟩, eo, ⟨ws, ev, pw.mono fun _ _ q => q.same (sA.trans s4)⟩⟩
  -- one more behind each that was handed
  refine tFor_lst (K := K) (a := l5) (xs := [V.ref l1, .ref l2, .ref l3, .ref l4]) (fun S h => ⟨_, rfl, h⟩) (fun i σ H' => ∃ x14, σ = [some (.ref a), some (.int m), some (.int f), some (.int l), some (.ref x), some (.int c), some (.int wh), some (.int p), some (.ref t), some (.ref u), some (.ref o), some (.ref v), some (.ref l5), some (.ref y), x14, none, none] ∧
    Pts H H' t u o v T τ O ρ ∧ H' l5 = some (.lst [V.ref l1, .ref l2, .ref l3, .ref l4]) ∧ DueAt K H' y t' u' o' v' p T τ O ρ ∧ ∀ b, b = l1 ∨ b = l2 ∨ b = l3 ∨ b = l4 → ∃ ys, H' b = some (.lst ys) ∧ ys.length ≤ 1000 + i) ⟨none, rfl, P4, s4 _ _ e5, D4, fun b hb => ?_⟩ ?_ ?_ ?_
  · obtain ⟨_, _, ys, e, z⟩ := nb b hb
    exact ⟨ys, s4 _ _ e, z⟩
  · rintro i σ H' ⟨_, rfl, _, h, _⟩
    exact h
  · rintro i vv σ H' nxL kL hv ⟨x14, rfl, P', e', D', ls⟩
    have i4 : i < 4 := (List.getElem?_eq_some_iff.mp hv).1
    obtain ⟨b, rfl, hb⟩ : ∃ b, vv = .ref b ∧ (b = l1 ∨ b = l2 ∨ b = l3 ∨ b = l4) := by
      rcases four_get hv with z | z | z | z
      · exact ⟨_, z, .inl rfl⟩
      · exact ⟨_, z, .inr (.inl rfl)⟩
      · exact ⟨_, z, .inr (.inr (.inl rfl))⟩
      · exact ⟨_, z, .inr (.inr (.inr rfl))⟩
    obtain ⟨ys, eb, zb⟩ := ls b hb
    obtain ⟨b0, b5, _, e2b, _⟩ := nb b hb
    try walk_at "rd"
    refine ⟨ty_lst (K := K) eb, rapp (K := K) eb (by rw [sizeLine_eq]; omega) (kL _ _ ⟨_, rfl, ?_, (upd_ne b5.symm).trans e', ?_, fun d hd => ?_⟩)⟩
    · exact P'.oth (P.s.free b0) eb (ne_of_none P.t b0) (ne_of_none eu b0) (ne_of_none P.o b0) (ne_of_none ew b0)
    · exact D'.oth eb (ne_of_none e2b ht).symm (ne_of_none e2b hu).symm (ne_of_none e2b ho).symm (ne_of_none e2b hv').symm
    · by_cases c : d = b
      · subst c
        exact ⟨_, upd_same, by rw [List.length_append]; show ys.length + 1 ≤ _; omega⟩
      · obtain ⟨zs, ez, zz⟩ := ls d hd
        exact ⟨zs, (upd_ne c).trans ez, by omega⟩
  rintro σ H5 ⟨x14, rfl, P5, _, D5, _⟩
  clear nb D4 e1 e2 e3 e4 e5
  refine k3 _ _ (seq_i fun nx4 k4 => if_i fun th el h1 h2 => ?_)
  try walk_at "rd"
  refine due_fld C D5 (fun Q h => ⟨_, rfl, h⟩) C.nt (dk1 ..) (rneD_I D5.t P5.t ⟨_, rfl, ?_⟩)
  rw [decide_eq_true rfl, if_neg (by decide)]
  refine due_fld C D5 (fun Q h => ⟨_, rfl, h⟩) C.nu (dk2 ..) (rneD_P D5.u P5.u ⟨_, rfl, ?_⟩)
  rw [decide_eq_true rfl]
  refine iteF (h2 _ (k4 _ _ (seq_i fun nx5 k5 => if_i fun th el h1 h2 => ?_)))
  try walk_at "rd"
  refine due_fld C D5 (fun Q h => ⟨_, rfl, h⟩) C.no (dk3 ..) (rneD_I D5.o P5.o ⟨_, rfl, ?_⟩)
  rw [decide_eq_true rfl, if_neg (by decide)]
  refine due_fld C D5 (fun Q h => ⟨_, rfl, h⟩) C.nv (dk4 ..) (rneD_P D5.v P5.v ⟨_, rfl, ?_⟩)
  rw [decide_eq_true rfl]
  refine iteF (h2 _ (k5 _ _ (seq_i fun nx6 k6 => ?_)))
  -- the price and what is wanted
  refine rmore (f := f) (l := l) (p := if p > 0 then p else 0) (hr.same P5.s) (by omega) (fun Q h => ⟨_, rfl, h⟩) (fun Q h => ⟨_, rfl, h⟩) (fun Q h => ⟨_, rfl, h⟩) (fun Q h => ?_) fun d H6 s6 n6 hd hm6 => k6 _ _ (seq_i fun nx7 k7 => ?_)
  · try walk_at "rd"
    exact ⟨0, p, rfl, h⟩
  have P6 := P5.same s6 (n6 P5.n)
  have D6 := D5.same s6
  have hr6 := hr.same P6.s
  have er6 := id hr6
  obtain ⟨rvs, er6, pr6⟩ := er6
  have zl := len_more rs (f, l, if p > 0 then p else 0)
  have rest : ∀ W : Bool, W = dueShows rs m f l p T τ O ρ → ∀ nx9 : L2.St → Hp → Prop, (∀ σ' H', tRet (tAndV (tOp rEq (tFld K (tVar 13) "price") (tVar 7)) (tCall (sp__law_says K w) [] E0 (tCons (tMeth (He.ga K "Due") "shows" (sp_Due_shows K w) [] E0 (tVar 13) (tCons (tVar 0) (tCons (tVar 1) (tCons (tVar 2) (tCons (tVar 3) tNil))))) (tCons (tVar 16) tNil)))) (endS Q0) σ' H' → nx9 σ' H') →
      nx9 [some (.ref a), some (.int m), some (.int f), some (.int l), some (.ref x), some (.int c), some (.int wh), some (.int p), some (.ref t), some (.ref u), some (.ref o), some (.ref v), some (.ref l5), some (.ref y), x14, some (.ref d), some (.bl W)] H6 := by
    intro W eW nx9 k9
    refine k9 _ _ ?_
    refine due_fld C D6 (fun Q h => ⟨_, rfl, h⟩) C.np (dk0 ..) ⟨_, rfl, req_int ⟨_, rfl, ?_⟩⟩
    rw [decide_eq_true rfl, if_pos rfl]
    refine due_shows D6 hr6 (fun Q h => ⟨_, rfl, h⟩) (fun Q h => ⟨_, rfl, h⟩) (fun Q h => ⟨_, rfl, h⟩) (fun Q h => ⟨_, rfl, h⟩) (fun Q h => ⟨_, rfl, h⟩) (by omega) (by omega) (by omega) (by omega) (by omega) hm P6.n ⟨_, rfl, ?_⟩
    refine ⟨_, _, rfl, P6.n, ?_⟩
    rw [eW, decide_eq_true rfl]
    exact fin.same n P6.s q
  have no8 : ∀ nx8 : L2.St → Hp → Prop, (∀ σ' H', tSeq (tAsg (tAndV (tVar 16) (tOp rEq (tCall (sp__law_worth K w) [] E0 (tCons (tVar 15) (tCons (tVar 8) tNil))) (tCall (sp__law_worth K w) [] E0 (tCons (tVar 0) (tCons (tVar 10) tNil))))) (gName 16)) (tRet (tAndV (tOp rEq (tFld K (tVar 13) "price") (tVar 7)) (tCall (sp__law_says K w) [] E0 (tCons (tMeth (He.ga K "Due") "shows" (sp_Due_shows K w) [] E0 (tVar 13) (tCons (tVar 0) (tCons (tVar 1) (tCons (tVar 2) (tCons (tVar 3) tNil))))) (tCons (tVar 16) tNil))))) (endS Q0) σ' H' → nx8 σ' H') → dueShows rs m f l p T τ O ρ = false →
      nx8 [some (.ref a), some (.int m), some (.int f), some (.int l), some (.ref x), some (.int c), some (.int wh), some (.int p), some (.ref t), some (.ref u), some (.ref o), some (.ref v), some (.ref l5), some (.ref y), x14, some (.ref d), some (.bl false)] H6 := by
    intro nx8 k8 e0
    refine k8 _ _ (seq_i fun nx9 k9 => ?_)
    try walk_at "rd"
    exact rest false e0.symm nx9 k9
  have no7 : dueShows rs m f l p T τ O ρ = false → nx7 [some (.ref a), some (.int m), some (.int f), some (.int l), some (.ref x), some (.int c), some (.int wh), some (.int p), some (.ref t), some (.ref u), some (.ref o), some (.ref v), some (.ref l5), some (.ref y), x14, some (.ref d), some (.bl false)] H6 := by
    intro e0
    refine k7 _ _ (seq_i fun nx8 k8 => ?_)
    try walk_at "rd"
    exact no8 nx8 k8 e0
  try walk_at "rd"
  by_cases c0 : 0 ≤ p
  case neg =>
    rw [if_neg (by omega)]
    exact no7 (by unfold dueShows; rw [decide_eq_false c0]; rfl)
  rw [if_pos (by omega)]
  refine rlen_lst er6 pr6.length (rin P6.t ⟨_, rfl, ?_⟩)
  by_cases cm : (rs.length : Int) ∈ T
  case neg =>
    rw [decide_eq_false cm, if_neg (by decide)]
    exact no7 (by unfold dueShows; rw [decide_eq_false cm, Bool.and_false]; rfl)
  rw [decide_eq_true cm, if_pos rfl]
  have ep : (if p > 0 then p else 0) = p := by split <;> omega
  rw [ep] at hm6 zl
  refine ⟨d, m, t, u, _, T, τ, rfl, hm6, P6.t, P6.u, by omega, by omega, by omega, hm, P6.n, ?_⟩
  cases cb : isBest (rs ++ [(f, l, p)]) m T τ with
  | false => exact no7 (by unfold dueShows; rw [cb, Bool.and_false]; rfl)
  | true =>
  refine k7 _ _ (seq_i fun nx8 k8 => ?_)
  try walk_at "rd"
  refine ⟨a, m, o, v, rs, O, ρ, rfl, hr6, P6.o, P6.v, by omega, by omega, by omega, hm, P6.n, ?_⟩
  cases co : isBest rs m O ρ with
  | false => exact no8 nx8 k8 (by unfold dueShows; rw [co, Bool.and_false]; rfl)
  | true =>
  refine k8 _ _ (seq_i fun nx9 k9 => ?_)
  try walk_at "rd"
  refine ⟨d, t, _, T, rfl, hm6, P6.t, (choice_iff.mp (isBest_iff.mp cb).1).2, by omega, P6.n, ?_⟩
  refine ⟨a, o, rs, O, rfl, hr6, P6.o, (choice_iff.mp (isBest_iff.mp co).1).2, by omega, P6.n, req_int ?_⟩
  refine rest _ ?_ nx9 k9
  unfold dueShows
  rw [decide_eq_true c0, decide_eq_true cm, cb, co]
  rfl
theorem pure__law_due_right (C : DueC K) (h : sp__law_due_right K w vs H Q E) (fin : Fin H Q Q0) : t__law_due_right K w (endS Q0) (start ["_law_requests_here", "_law_rooms_here", "_law_first", "_law_last", "_law_found", "_law_cell", "_law_which", "_law_price", "_law_taken", "_law_tolls", "_law_others", "_law_more", "_law_handed", "_law_answer", "_law_some", "_law_with_it", "_law_wanted"] vs) H := by
  obtain ⟨a, m, f, l, x, c, t, u, o, v, p, rs, T, τ, O, ρ, rfl, D, hr, z0, z1, z2, z3, z4, hm, n, q⟩ := h
  obtain ⟨rvs, er, prr⟩ := id hr
  refine seq_i fun nx k => ?_
  try walk_at "rd"
  refine ⟨c, 8, 7, rfl, by decide, by decide, n, fun wh _ _ => k _ _ (seq_i fun nx2 k2 => ?_)⟩
  refine due_fld C D (fun Q h => ⟨_, rfl, h⟩) C.np (dk0 ..) (due_fld C D (fun Q h => ⟨_, rfl, h⟩) C.nt (dk1 ..) (due_fld C D (fun Q h => ⟨_, rfl, h⟩) C.nu (dk2 ..) ⟨_, _, _, rfl, k2 _ _ (seq_i fun nx3 k3 => ?_)⟩))
  refine due_fld C D (fun Q h => ⟨_, rfl, h⟩) C.no (dk3 ..) (due_fld C D (fun Q h => ⟨_, rfl, h⟩) C.nv (dk4 ..) ⟨_, _, rfl, k3 _ _ (seq_i fun nx4 k4 => ?_)⟩)
  have P0 : Pts H H t u o v T τ O ρ := ⟨Same.refl H, n, D.t, D.u, D.o, D.v, by omega, by omega, by omega, by omega⟩
  refine if_i fun th el h1 h2 => ?_
  try walk_at "rd"
  refine req_int ⟨_, rfl, ?_⟩
  -- the first stage: the price
  have st1 : ∀ (p' : Int) (H' : Hp), Pts H H' t u o v T τ O ρ → nx4 [some (.ref a), some (.int m), some (.int f), some (.int l), some (.ref x), some (.int c), some (.int wh), some (.int p'), some (.ref t), some (.ref u), some (.ref o), some (.ref v), none, none, none, none, none] H' := by
    intro p' H1 P1
    refine k4 _ _ (seq_i fun nx5 k5 => if_i fun th el h1 h2 => ?_)
    try walk_at "rd"
    refine req_int ⟨_, rfl, ?_⟩
    have st2 : ∀ (t' : Addr) (T' : List Int) (H' : Hp), Pts H H' t' u o v T' τ O ρ → nx5 [some (.ref a), some (.int m), some (.int f), some (.int l), some (.ref x), some (.int c), some (.int wh), some (.int p'), some (.ref t'), some (.ref u), some (.ref o), some (.ref v), none, none, none, none, none] H' := by
      intro t' T' H2 P2
      refine k5 _ _ (seq_i fun nx6 k6 => if_i fun th el h1 h2 => ?_)
      try walk_at "rd"
      refine req_int ⟨_, rfl, ?_⟩
      have st3 : ∀ (u' : Addr) (τ' : List (Int × Int)) (H' : Hp), Pts H H' t' u' o v T' τ' O ρ → nx6 [some (.ref a), some (.int m), some (.int f), some (.int l), some (.ref x), some (.int c), some (.int wh), some (.int p'), some (.ref t'), some (.ref u'), some (.ref o), some (.ref v), none, none, none, none, none] H' := by
        intro u' τ' H3 P3
        refine k6 _ _ (seq_i fun nx7 k7 => if_i fun th el h1 h2 => ?_)
        try walk_at "rd"
        refine req_int ⟨_, rfl, ?_⟩
        have st4 : ∀ (o' : Addr) (O' : List Int) (H' : Hp), Pts H H' t' u' o' v T' τ' O' ρ → nx7 [some (.ref a), some (.int m), some (.int f), some (.int l), some (.ref x), some (.int c), some (.int wh), some (.int p'), some (.ref t'), some (.ref u'), some (.ref o'), some (.ref v), none, none, none, none, none] H' := by
          intro o' O' H4 P4
          refine k7 _ _ (seq_i fun nx8 k8 => if_i fun th el h1 h2 => ?_)
          try walk_at "rd"
          refine req_int ⟨_, rfl, ?_⟩
          have st5 : ∀ (v' : Addr) (ρ' : List (Int × Int)) (H' : Hp), Pts H H' t' u' o' v' T' τ' O' ρ' → nx8 [some (.ref a), some (.int m), some (.int f), some (.int l), some (.ref x), some (.int c), some (.int wh), some (.int p'), some (.ref t'), some (.ref u'), some (.ref o'), some (.ref v'), none, none, none, none, none] H' := by
            intro v' ρ' H5 P5
            refine k8 _ _ (seq_i fun nx9 k9 => if_i fun th el h1 h2 => ?_)
            try walk_at "rd"
            refine req_int ⟨_, rfl, ?_⟩
            have st6 : ∀ (p' : Int) (t' : Addr) (T' : List Int), Pts H H5 t' u' o' v' T' τ' O' ρ' → nx9 [some (.ref a), some (.int m), some (.int f), some (.int l), some (.ref x), some (.int c), some (.int wh), some (.int p'), some (.ref t'), some (.ref u'), some (.ref o'), some (.ref v'), none, none, none, none, none] H5 := by
              intro p' t' T' P6
              refine k9 _ _ ?_
              exact due_tail C hr (by omega) hm n fin q P6
            by_cases c5 : wh = 5
            · rw [decide_eq_true c5]
              refine iteT (h1 _ ?_)
              try walk_at "rd"
              exact ⟨_, _, rfl, st6 0 o' O' ⟨P5.s, P5.n, P5.o, P5.u, P5.o, P5.v, P5.z.2.2.1, P5.z.2.1, P5.z.2.2.1, P5.z.2.2.2⟩⟩
            · rw [decide_eq_false c5]
              exact iteF (h2 _ (st6 p' t' T' P5))
          by_cases c4 : wh = 4
          · rw [decide_eq_true c4]
            refine iteT (h1 _ ?_)
            try walk_at "rd"
            refine ⟨v, c, ρ, rfl, P4.v, by omega, P4.n, fun H' v' ρ' s n' hv z => st5 v' ρ' H' ?_⟩
            exact ⟨P4.s.trans s, n', s _ _ P4.t, P4.u.same s, s _ _ P4.o, hv, P4.z.1, P4.z.2.1, P4.z.2.2.1, by omega⟩
          · rw [decide_eq_false c4]
            exact iteF (h2 _ (st5 v ρ H4 P4))
        by_cases c3 : wh = 3
        · rw [decide_eq_true c3]
          refine iteT (h1 _ ?_)
          try walk_at "rd"
          refine rlen_lst (P3.s _ _ er) prr.length ⟨_, rfl, c, 10, _, rfl, by decide, by omega, P3.n, fun g _ _ => bent_I P3.o (by omega) P3.n fun H' o' O' s n' _ ho z => st4 o' O' H' ?_⟩
          exact ⟨P3.s.trans s, n', s _ _ P3.t, P3.u.same s, ho, P3.v.same s, P3.z.1, P3.z.2.1, by omega, P3.z.2.2.2⟩
        · rw [decide_eq_false c3]
          exact iteF (h2 _ (st4 o O H3 P3))
      by_cases c2 : wh = 2
      · rw [decide_eq_true c2]
        refine iteT (h1 _ ?_)
        try walk_at "rd"
        refine ⟨u, c, τ, rfl, P2.u, by omega, P2.n, fun H' u' τ' s n' hu z => st3 u' τ' H' ?_⟩
        exact ⟨P2.s.trans s, n', s _ _ P2.t, hu, s _ _ P2.o, P2.v.same s, P2.z.1, by omega, P2.z.2.2.1, P2.z.2.2.2⟩
      · rw [decide_eq_false c2]
        exact iteF (h2 _ (st3 u τ H2 P2))
    by_cases c1 : wh = 1
    · rw [decide_eq_true c1]
      refine iteT (h1 _ ?_)
      try walk_at "rd"
      refine rlen_lst (P1.s _ _ er) prr.length (bent_I P1.t (by omega) P1.n fun H' t' T' s n' _ ht z => st2 t' T' H' ?_)
      exact ⟨P1.s.trans s, n', ht, P1.u.same s, s _ _ P1.o, P1.v.same s, by omega, P1.z.2.1, P1.z.2.2.1, P1.z.2.2.2⟩
    · rw [decide_eq_false c1]
      exact iteF (h2 _ (st2 t T H1 P1))
  by_cases c0 : wh = 0
  · rw [decide_eq_true c0]
    refine iteT (h1 _ ?_)
    try walk_at "rd"
    refine ⟨by decide, fun tp htp => ?_⟩
    have s := Same.upd (o := .tup [V.int 1, .int (-1)]) htp
    refine ⟨c, 9, 2, rfl, by decide, by decide, n.upd, fun g g0 g1 => ?_⟩
    rcases (show g = 0 ∨ g = 1 by omega) with rfl | rfl
    · exact rix_tup upd_same (by decide) rfl ⟨_, rfl, st1 _ _ (P0.same s n.upd)⟩
    · exact rix_tup upd_same (by decide) rfl ⟨_, rfl, st1 _ _ (P0.same s n.upd)⟩
  · rw [decide_eq_false c0]
    exact iteF (h2 _ (st1 p H P0))
end
end Spn

namespace Spn
open PySem PySem.Spec PyProof.Rows L2
/-! ### readings -/
/-- law -/
def t_law (K : PySem.W.Frag) (w : World) : TS :=
  (tSeq (tAsg (tCall (sp__law_requests K w) [] E0 (tCons (tVar 0) tNil)) (gName 1))
  (tSeq (tAsg (tCB qMax2 (tCons (tC (.int 1)) (tCons (tCall (sp__law_rooms K w) [] E0 (tCons (tVar 0) (tCons (tCB (qLen K) (tCons (tVar 1) tNil)) tNil))) tNil))) (gName 2))
  (tSeq (tPar 3 4 (tCons (tCall (sp_best K w) [] E0 (tCons (tVar 1) (tCons (tVar 2) tNil))) (tCons (tCall (sp_lodged K w) [] E0 (tCons (tVar 1) (tCons (tVar 2) tNil))) tNil)))
  (tSeq (tAsg (tOp qSub (tCall (sp__law_draw K w) [] E0 (tCons (tCall (sp__law_cell_at K w) [] E0 (tCons (tVar 0) (tCons (tC (.int 4)) tNil))) (tCons (tC (.int 2)) (tCons (tC (.int 8)) tNil)))) (tC (.int 4))) (gName 5))
  (tSeq (tAsg (tCall (sp_due K w) [] E0 (tCons (tVar 1) (tCons (tVar 2) (tCons (tVar 5) (tCons (tOp qAdd (tVar 5) (tC (.int 2))) tNil))))) (gName 6))
  (tSeq (tAsg (tIf (tB (tCB (rIsi K) (tCons (tVar 4) (tCons (tC (.ref (He.ga K "Crowd"))) tNil)))) (tFld K (tVar 4) "asking") (tLstRg (tRg1 (tCB (qLen K) (tCons (tVar 1) tNil))))) (gName 7))
  (tSeq (tAsg (tIf (tB (tCB (rIsi K) (tCons (tVar 4) (tCons (tC (.ref (He.ga K "Lodged"))) tNil)))) (tFld K (tVar 4) "rooms") (tLc (iList K (tVar 1)) (gName 13) tYes (tC (.int 0)) [13])) (gName 8))
  (tSeq (tFor (iRng1 (tCons (tC (.int 5)) tNil)) (gName 9) (tSeq (tAsg (tOp qAdd (tOp qAdd (tCall (sp__law_cell_at K w) [] E0 (tCons (tVar 0) (tCons (tVar 9) tNil))) (tOp qMul (tC (.int 977)) (tVar 9))) (tOp qMul (tC (.int 7)) (tCall (sp__law_cell_at K w) [] E0 (tCons (tVar 0) (tCons (tOp qAdd (tVar 9) (tC (.int 1))) tNil))))) (gName 10))
  (tSeq (tAsg (tOp qSub (tCall (sp__law_draw K w) [] E0 (tCons (tVar 10) (tCons (tC (.int 11)) (tCons (tOp qAdd (tCB (qLen K) (tCons (tVar 1) tNil)) (tC (.int 2))) tNil)))) (tC (.int 1))) (gName 11))
  (tSeq (tIfS (tNot (tB (tCall (sp__law_best_right K w) [] E0 (tCons (tVar 1) (tCons (tVar 2) (tCons (tCall (sp__law_bent K w) [] E0 (tCons (tFld K (tVar 3) "taken") (tCons (tVar 10) (tCons (tVar 11) tNil)))) (tCons (tFld K (tVar 3) "tolls") tNil))))))) (tRet (tC (.bl false))) tNext)
  (tSeq (tIfS (tNot (tB (tCall (sp__law_best_right K w) [] E0 (tCons (tVar 1) (tCons (tVar 2) (tCons (tFld K (tVar 3) "taken") (tCons (tCall (sp__law_tolled K w) [] E0 (tCons (tFld K (tVar 3) "tolls") (tCons (tOp qDiv (tVar 10) (tC (.int 3))) tNil))) tNil))))))) (tRet (tC (.bl false))) tNext)
  (tSeq (tIfS (tNot (tB (tCall (sp__law_lodged_right K w) [] E0 (tCons (tVar 1) (tCons (tVar 2) (tCons (tCall (sp__law_bent K w) [] E0 (tCons (tVar 8) (tCons (tOp qDiv (tVar 10) (tC (.int 5))) (tCons (tOp qSub (tCall (sp__law_draw K w) [] E0 (tCons (tVar 10) (tCons (tC (.int 12)) (tCons (tC (.int 4)) tNil)))) (tC (.int 1))) tNil)))) tNil)))))) (tRet (tC (.bl false))) tNext)
  (tSeq (tAsg (tIf (tB (tCB (rIsi K) (tCons (tVar 4) (tCons (tC (.ref (He.ga K "Crowd"))) tNil)))) (tOp qAdd (tFld K (tVar 4) "day") (tOp (rIxT K) (tTup (tCons (tC (.int 0)) (tCons (tC (.int 0)) (tCons (tC (.int 1)) (tCons (tUn qNeg (tC (.int 1))) tNil))))) (tCall (sp__law_draw K w) [] E0 (tCons (tVar 10) (tCons (tC (.int 13)) (tCons (tC (.int 4)) tNil)))))) (tVar 5)) (gName 12))
  (tSeq (tIfS (tNot (tB (tCall (sp__law_crowd_right K w) [] E0 (tCons (tVar 1) (tCons (tVar 2) (tCons (tVar 12) (tCons (tCall (sp__law_bent K w) [] E0 (tCons (tVar 7) (tCons (tOp qDiv (tVar 10) (tC (.int 7))) (tCons (tVar 11) tNil)))) tNil))))))) (tRet (tC (.bl false))) tNext)
  (tIfS (tNot (tB (tCall (sp__law_due_right K w) [] E0 (tCons (tVar 1) (tCons (tVar 2) (tCons (tVar 5) (tCons (tOp qAdd (tVar 5) (tC (.int 2))) (tCons (tVar 6) (tCons (tOp qDiv (tVar 10) (tC (.int 11))) tNil))))))))) (tRet (tC (.bl false))) tNext)))))))))
  (tRet (tC (.bl true)))))))))))

end Spn

namespace Spn
open PySem PySem.Spec PyProof.Rows L2 LamX
def sp_law (K : PySem.W.Frag) (w : World) : Sp := fun vs H Q _ => ∃ a ns, vs = [.ref a] ∧ ScrAt K H a ns ∧ ns.length ≤ 63 ∧ NoT H ∧ Tabs (TT K) H ∧ ∀ H', Q (.bl true) H'
inductive Hom (K : PySem.W.Frag) (H : Hp) (y : Addr) : Prop where
  | lod (p : Addr) (R : List Int) (h : LodAt K H y p R)
  | crowd (p : Addr) (d : Int) (A : List Int) (h : CrowdAt K H y p d A)
theorem Hom.same {K : PySem.W.Frag} {H H' : Hp} {y : Addr} (h : Hom K H y) (s : Same H H') : Hom K H' y := by
  cases h with
  | lod p R h =>
    obtain ⟨⟨dx, hx⟩, hp⟩ := h
    exact .lod p R ⟨⟨dx, s _ _ hx⟩, s _ _ hp⟩
  | crowd p d A h =>
    obtain ⟨⟨dx, hx⟩, hp⟩ := h
    exact .crowd p d A ⟨⟨dx, s _ _ hx⟩, s _ _ hp⟩
theorem BestAt.same' {K : PySem.W.Frag} {H H' : Hp} {x p q : Addr} {ns : List Int} {τ : List (Int × Int)} (B : BestAt K H x p q ns τ) (s : Same H H') : BestAt K H' x p q ns τ := by
  obtain ⟨⟨dx, hx⟩, hp, hq⟩ := B
  exact ⟨⟨dx, s _ _ hx⟩, s _ _ hp, hq.same s⟩
theorem BestAt.ext {K : PySem.W.Frag} {H H' : Hp} {x p q : Addr} {ns : List Int} {τ : List (Int × Int)} (B : BestAt K H x p q ns τ) (e : ExT H H') : BestAt K H' x p q ns τ := by
  obtain ⟨⟨dx, hx⟩, hp, us, eu, pu⟩ := B
  refine ⟨⟨dx, e.at_ hx (fun ps z => by cases z)⟩, e.at_ hp (fun ps z => by cases z), us, e.at_ eu (fun ps z => by cases z), pu.mono fun _ _ q => ?_⟩
  obtain ⟨t, e1, e2⟩ := q
  exact ⟨t, e1, e.at_ e2 (fun ps z => by cases z)⟩
theorem ScrAt.ext {K : PySem.W.Frag} {H H' : Hp} {a : Addr} {ns : List Int} (h : ScrAt K H a ns) (e : ExT H H') : ScrAt K H' a ns := by
  rcases h with (h | ⟨o, h⟩) | h
  · exact .inl (.inl (e.at_ h (fun ps z => by cases z)))
  · exact .inl (.inr ⟨o, e.at_ h (fun ps z => by cases z)⟩)
  · exact .inr h
/-- the law's loop, and what is behind it -/
def t_loop (K : PySem.W.Frag) (w : World) : TS :=
  (tSeq (tFor (iRng1 (tCons (tC (.int 5)) tNil)) (gName 9) (tSeq (tAsg (tOp qAdd (tOp qAdd (tCall (sp__law_cell_at K w) [] E0 (tCons (tVar 0) (tCons (tVar 9) tNil))) (tOp qMul (tC (.int 977)) (tVar 9))) (tOp qMul (tC (.int 7)) (tCall (sp__law_cell_at K w) [] E0 (tCons (tVar 0) (tCons (tOp qAdd (tVar 9) (tC (.int 1))) tNil))))) (gName 10))
  (tSeq (tAsg (tOp qSub (tCall (sp__law_draw K w) [] E0 (tCons (tVar 10) (tCons (tC (.int 11)) (tCons (tOp qAdd (tCB (qLen K) (tCons (tVar 1) tNil)) (tC (.int 2))) tNil)))) (tC (.int 1))) (gName 11))
  (tSeq (tIfS (tNot (tB (tCall (sp__law_best_right K w) [] E0 (tCons (tVar 1) (tCons (tVar 2) (tCons (tCall (sp__law_bent K w) [] E0 (tCons (tFld K (tVar 3) "taken") (tCons (tVar 10) (tCons (tVar 11) tNil)))) (tCons (tFld K (tVar 3) "tolls") tNil))))))) (tRet (tC (.bl false))) tNext)
  (tSeq (tIfS (tNot (tB (tCall (sp__law_best_right K w) [] E0 (tCons (tVar 1) (tCons (tVar 2) (tCons (tFld K (tVar 3) "taken") (tCons (tCall (sp__law_tolled K w) [] E0 (tCons (tFld K (tVar 3) "tolls") (tCons (tOp qDiv (tVar 10) (tC (.int 3))) tNil))) tNil))))))) (tRet (tC (.bl false))) tNext)
  (tSeq (tIfS (tNot (tB (tCall (sp__law_lodged_right K w) [] E0 (tCons (tVar 1) (tCons (tVar 2) (tCons (tCall (sp__law_bent K w) [] E0 (tCons (tVar 8) (tCons (tOp qDiv (tVar 10) (tC (.int 5))) (tCons (tOp qSub (tCall (sp__law_draw K w) [] E0 (tCons (tVar 10) (tCons (tC (.int 12)) (tCons (tC (.int 4)) tNil)))) (tC (.int 1))) tNil)))) tNil)))))) (tRet (tC (.bl false))) tNext)
  (tSeq (tAsg (tIf (tB (tCB (rIsi K) (tCons (tVar 4) (tCons (tC (.ref (He.ga K "Crowd"))) tNil)))) (tOp qAdd (tFld K (tVar 4) "day") (tOp (rIxT K) (tTup (tCons (tC (.int 0)) (tCons (tC (.int 0)) (tCons (tC (.int 1)) (tCons (tUn qNeg (tC (.int 1))) tNil))))) (tCall (sp__law_draw K w) [] E0 (tCons (tVar 10) (tCons (tC (.int 13)) (tCons (tC (.int 4)) tNil)))))) (tVar 5)) (gName 12))
  (tSeq (tIfS (tNot (tB (tCall (sp__law_crowd_right K w) [] E0 (tCons (tVar 1) (tCons (tVar 2) (tCons (tVar 12) (tCons (tCall (sp__law_bent K w) [] E0 (tCons (tVar 7) (tCons (tOp qDiv (tVar 10) (tC (.int 7))) (tCons (tVar 11) tNil)))) tNil))))))) (tRet (tC (.bl false))) tNext)
  (tIfS (tNot (tB (tCall (sp__law_due_right K w) [] E0 (tCons (tVar 1) (tCons (tVar 2) (tCons (tVar 5) (tCons (tOp qAdd (tVar 5) (tC (.int 2))) (tCons (tVar 6) (tCons (tOp qDiv (tVar 10) (tC (.int 11))) tNil))))))))) (tRet (tC (.bl false))) tNext)))))))))
  (tRet (tC (.bl true))))
section
variable {K : PySem.W.Frag} {w : World} {vs : List V} {H : Hp} {Q Q0 : VK} {E : XK}
theorem Fin.ext {H H' : Hp} {Q Q0 : VK} (fin : Fin H Q Q0) (x : ExT H H') (n : NoT H') {v : V} (q : ∀ H'', Q v H'') : Q0 v H' := by
  refine fin v H' (fun b => match H b with | some _ => H' b | none => none) ⟨fun b o e => ?_, fun b o e => ?_, fun a C dx fs e => ?_, fun b o e => ?_⟩ (q _)
  · simp only [e]
  · cases h : H b with
    | some u => simp only [h] at e; exact e
    | none => simp only [h] at e; cases e
  · cases h : H a with
    | some u =>
      simp only [h] at e
      by_cases t : ∃ ps, u = .tbl ps
      · obtain ⟨ps, rfl⟩ := t
        obtain ⟨qs, z⟩ := x.t a ps h
        rw [z] at e
        cases e
      · have := x.e a u h fun ps z => t ⟨ps, z⟩
        rw [this] at e
        cases e
        exact .inl ⟨_, _, rfl⟩
    | none => simp only [h] at e; cases e
  · cases h : H b with
    | some u => simp only [h] at e; exact n b o e
    | none => simp only [h] at e; cases e
theorem pure_law (C : HomeC K) (CD : DueC K) (CB : BestC K) (k3' : Kit K "Lodged" "Lodged" true) (k4' : Kit K "Crowd" "Lodged" false)
    (h : sp_law K w vs H Q E) (fin : Fin H Q Q0) : t_law K w (endS Q0) (start ["_law_script", "_law_requests_here", "_law_rooms_here", "_law_found", "_law_home", "_law_first", "_law_owed", "_law_places", "_law_some", "_law_k", "_law_cell", "_law_drawn", "_law_day", "_law_request"] vs) H := by
  obtain ⟨a, sc, rfl, hs, hl, n, tt, q⟩ := h
  have q : ∀ H', ExT H H' → NoT H' → Q0 (.bl true) H' := fun H' x n => fin.ext x n q
  refine seq_i fun nx k => ?_
  try walk_at "rd"
  refine ⟨a, sc, rfl, hs, hl, n, fun H1 pr rs s1 n1 hpr hr ok zr => k _ _ (seq_i fun nx2 k2 => ?_)⟩
  have okr := ok.r
  obtain ⟨rvs, er, prr⟩ := id hr
  have tt1 := LamX.Tabs.ext tt s1
  have hs1 := hs.same s1
  try walk_at "rd"
  refine rlen_lst er prr.length ⟨a, sc, _, rfl, hs1, by omega, by omega, n1, fun rm rm0 rm1 => ⟨1, rm, rfl, k2 _ _ (seq_i fun nx3 k3 => ?_)⟩⟩
  have m1 : 1 ≤ (if rm > 1 then rm else 1) ∧ (if rm > 1 then rm else 1) ≤ 200 := by split <;> omega
  generalize (if rm > 1 then rm else 1) = m at m1 ⊢
  have rms : Rms m := ⟨by omega, by omega⟩
  try walk_at "rd"
  refine ⟨pr, m, rs, rfl, hr, okr, by omega, by omega, n1, fun H2 x p q' ns τ B hb zτ => ?_⟩
  obtain ⟨s2, n2, hx0, hp0, hq0, npq, B2⟩ := B
  have zn := best_len hb
  have hr2 := hr.same s2
  have hs2 := hs1.same s2
  have tt2 := LamX.Tabs.ext tt1 s2
  refine ⟨pr, m, rs, rfl, hr2, okr, by omega, by omega, n2, tt2, fun H3 y y3 tt3 n3 hy ln => ⟨_, _, rfl, k3 _ _ (seq_i fun nx4 k4 => ?_)⟩⟩
  have hr3 := hr2.ext y3.e
  have hs3 := hs2.ext y3
  have B3 := B2.ext y3
  have x3 : ExT H H3 := (ExT.of (s1.trans s2)).trans y3
  try walk_at "rd"
  refine ⟨a, sc, 4, rfl, hs3, by decide, n3, fun c1 => ⟨c1, 2, 8, rfl, by decide, by decide, n3, fun d1 _ _ => ⟨_, rfl, k4 _ _ (seq_i fun nx5 k5 => ?_)⟩⟩⟩
  generalize d1 - 4 = f
  try walk_at "rd"
  refine ⟨pr, m, f, f + 2, rs, rfl, hr3, okr, by omega, m1.1, by omega, n3, fun H4 z t u o v pp T τ' O ρ s4 n4 hz0 ht0 hu0 ho0 hv0 nto nuo nov ntu ntv nuv D dk zT zτ' zO zρ => k5 _ _ (seq_i fun nx6 k6 => ?_)⟩
  have rest : ∀ (H6 : Hp) (pl sm : Addr) (A R : List Int), Same H4 H6 → NoT H6 → Hom K H6 y → IntsAt H6 pl A → A.length ≤ 900 → IntsAt H6 sm R → R.length ≤ 900 → t_loop K w (endS Q0) [some (.ref a), some (.ref pr), some (.int m), some (.ref x), some (.ref y), some (.int f), some (.ref z), some (.ref pl), some (.ref sm), none, none, none, none, none] H6 := by
    intro H6 pl sm A R s6 n6 hm hp zA hq zR
    have zl := hr
    refine seq_i fun nx8 k8 => ?_
    refine tFor_rng1 (n := 5) (fun R h => h) (by decide) (fun i σ H' => ∃ x9 x10 x11 x12, σ = [some (.ref a), some (.ref pr), some (.int m), some (.ref x), some (.ref y), some (.int f), some (.ref z), some (.ref pl), some (.ref sm), x9, x10, x11, x12, none] ∧ Same H6 H' ∧ NoT H') ⟨none, none, none, none, rfl, Same.refl _, n6⟩ ?_ ?_
    · rintro i σ H' nxL kL hi ⟨x9, x10, x11, x12, rfl, s', n'⟩
      have s46 := s6.trans s'
      have hr7 := (hr3.same s4).same s46
      obtain ⟨rv7, er7, pr7⟩ := id hr7
      have hs7 := (hs3.same s4).same s46
      have B7 := (B3.same' s4).same' s46
      have D7 := D.same s46
      have hm7 := hm.same s'
      have hp7 := s' _ _ hp
      have hq7 := s' _ _ hq
      refine seq_i fun nx9 k9 => ?_
      try walk_at "rd"
      refine ⟨a, sc, i, rfl, hs7, by omega, n', fun c1 => ⟨.inl ⟨by decide, by decide⟩, c1, rfl, a, sc, _, rfl, hs7, by omega, n', fun c2 => ⟨c2, rfl, .inl ⟨by decide, by decide⟩, k9 _ _ (seq_i fun nx10 k10 => ?_)⟩⟩⟩
      generalize c1 + 977 * (i : Int) + 7 * c2 = c
      try walk_at "rd"
      refine rlen_lst er7 pr7.length ⟨_, rfl, c, 11, _, rfl, by decide, by omega, n', fun g g0 g1 => ⟨_, rfl, k10 _ _ (seq_i fun nx11 k11 => if_i fun th el h1 h2 => ?_)⟩⟩
      try walk_at "rd"
      have zn' : ns.length ≤ 200 := by omega
      refine best_fld1 CB (fun Q h => ⟨_, rfl, h⟩) B7 ?_
      refine bent_I B7.2.1 (by omega) n' fun H8 l1 ms s8 n8 _ hl1 z1 => ?_
      refine best_fld2 CB (fun Q h => ⟨_, rfl, h⟩) (B7.same' s8) ?_
      refine ⟨pr, m, l1, q', rs, ms, τ, rfl, hr7.same s8, hl1, (B7.same' s8).2.2, by omega, by omega, by omega, rms, n8, _, rfl, ?_⟩
      rw [if_neg (by decide)]
      refine h2 _ (k11 _ _ (seq_i fun nx12 k12 => if_i fun th el h1 h2 => ?_))
      have B8 := B7.same' s8
      try walk_at "rd"
      refine best_fld1 CB (fun Q h => ⟨_, rfl, h⟩) B8 ?_
      refine best_fld2 CB (fun Q h => ⟨_, rfl, h⟩) B8 ?_
      refine ⟨⟨by decide, by decide⟩, q', c / 3, τ, rfl, B8.2.2, by omega, n8, fun H9 l2 τ2 s9 n9 hl2 z2 => ?_⟩
      refine ⟨pr, m, p, l2, rs, ns, τ2, rfl, (hr7.same s8).same s9, s9 _ _ B8.2.1, hl2, by omega, by omega, by omega, rms, n9, _, rfl, ?_⟩
      rw [if_neg (by decide)]
      refine h2 _ (k12 _ _ (seq_i fun nx13 k13 => if_i fun th el h1 h2 => ?_))
      have s79 := s8.trans s9
      try walk_at "rd"
      refine ⟨⟨by decide, by decide⟩, c, 12, 4, rfl, by decide, by decide, n9, fun g2 _ _ => ⟨_, rfl, ?_⟩⟩
      refine bent_I (s79 _ _ hq7) (by omega) n9 fun H10 l3 R3 s10 n10 _ hl3 z3 => ?_
      have s70 := s79.trans s10
      refine ⟨pr, m, l3, rs, R3, rfl, hr7.same s70, okr, hl3, by omega, by omega, n10, _, rfl, ?_⟩
      rw [if_neg (by decide)]
      refine h2 _ (k13 _ _ (seq_i fun nx14 k14 => ?_))
      have hm10 := hm7.same s70
      have after : ∀ (dd : Int) (H11 : Hp), Same H10 H11 → NoT H11 → nx14 [some (.ref a), some (.ref pr), some (.int m), some (.ref x), some (.ref y), some (.int f), some (.ref z), some (.ref pl), some (.ref sm), some (.int i), some (.int c), some (.int (g - 1)), some (.int dd), none] H11 := by
        intro dd H11 s11 n11
        refine k14 _ _ (seq_i fun nx15 k15 => if_i fun th el h1 h2 => ?_)
        have s71 := s70.trans s11
        try walk_at "rd"
        refine ⟨⟨by decide, by decide⟩, bent_I (s71 _ _ hp7) (by omega) n11 fun H12 l4 A4 s12 n12 _ hl4 z4 => ?_⟩
        have s72 := s71.trans s12
        refine ⟨pr, m, dd, l4, rs, A4, rfl, hr7.same s72, hl4, by omega, by omega, n12, _, rfl, ?_⟩
        rw [if_neg (by decide)]
        refine h2 _ (k15 _ _ (if_i fun th el h1 h2 => ?_))
        try walk_at "rd"
        refine ⟨⟨by decide, by decide⟩, pr, m, f, f + 2, z, c / 11, t, u, o, v, pp, rs, T, τ', O, ρ, rfl, D7.same s72, hr7.same s72, by omega, by omega, by omega, by omega, by omega, rms, n12, _, rfl, ?_⟩
        rw [if_neg (by decide)]
        exact h2 _ (kL _ _ ⟨_, _, _, _, rfl, s'.trans s72, n12⟩)
      rcases hm10 with ⟨p3, R', ⟨dx3, hx3⟩, hR3⟩ | ⟨p3, d3, A', ⟨dx3, hx3⟩, hA3⟩
      · try walk_at "rd"
        refine rIsi_ins C.il C.lc hx3 ⟨_, rfl, ?_⟩
        rw [if_neg (by decide)]
        exact after _ _ (Same.refl _) n10
      · try walk_at "rd"
        refine rIsi_ins C.ic C.cc hx3 ⟨_, rfl, ?_⟩
        rw [if_pos rfl]
        refine rfld (fun Q h => ⟨_, rfl, h⟩) hx3 C.c.cl C.c.n1 (cf_day d3 p3) ?_
        refine ⟨by decide, fun tp htp => ?_⟩
        have s11 := Same.upd (o := .tup [V.int 0, .int 0, .int 1, .int (-1)]) htp
        refine ⟨c, 13, 4, rfl, by decide, by decide, n10.upd, fun g3 g30 g31 => ?_⟩
        have e3 : ∃ j : Int, ([V.int 0, .int 0, .int 1, .int (-1)] : List V)[g3.toNat]? = some (.int j) := by
          rcases (show g3 = 0 ∨ g3 = 1 ∨ g3 = 2 ∨ g3 = 3 by omega) with rfl | rfl | rfl | rfl <;> exact ⟨_, rfl⟩
        obtain ⟨j, e3⟩ := e3
        exact rix_tup upd_same g30 e3 ⟨_, rfl, _, rfl, after _ _ s11 n10.upd⟩
    · rintro σ H' ⟨x9, x10, x11, x12, rfl, s', n'⟩
      refine k8 _ _ ?_
      try walk_at "rd"
      exact q _ (x3.trans (ExT.of (s4.trans (s6.trans s')))) n'
  have hr4 := hr3.same s4
  have er4 := hr4
  obtain ⟨rv4, er4, pr4⟩ := er4
  rcases ln with ⟨p2, R, hp2, ⟨⟨dx, hx⟩, hR⟩, shw, _⟩ | ⟨p2, d, A, hp2, ⟨⟨dx, hx⟩, hA⟩, shw, _⟩
  · have lr : R.length = rs.length := by
      unfold lodShows at shw
      rw [Bool.and_eq_true, Bool.and_eq_true] at shw
      exact of_decide_eq_true shw.1.1
    try walk_at "rd"
    refine rIsi_ins C.il C.lc (s4 _ _ hx) ⟨_, rfl, ?_⟩
    rw [if_neg (by decide)]
    unfold tLstRg tRg1
    try walk_at "rd"
    refine rlen_lst er4 pr4.length ⟨_, rfl, RgOk.of_le (by decide) (by omega) (by decide) (by omega), fun e he => k6 _ _ (seq_i fun nx7 k7 => ?_)⟩
    have s5 := Same.upd (o := .lst (rgV 0 (rs.length : Int))) he
    have e5 : IntsAt (upd H4 e (.lst (rgV 0 (rs.length : Int)))) e (every rs.length) := by show _ = _; rw [upd_same, rgV_every]
    have n5 : NoT (upd H4 e (.lst (rgV 0 (rs.length : Int)))) := n4.upd
    generalize (upd H4 e (.lst (rgV 0 (rs.length : Int))) : Hp) = H5 at s5 e5 n5 ⊢
    have hx5 := s5 _ _ (s4 _ _ hx)
    have hR5 := s5 _ _ (s4 _ _ hR)
    try walk_at "rd"
    refine rIsi_ins C.il k3' hx5 ⟨_, rfl, ?_⟩
    rw [if_pos rfl]
    refine rfld (fun Q h => ⟨_, rfl, h⟩) hx5 C.l.cl C.l.n1 (lf_rooms p2) (k7 _ _ ?_)
    exact rest H5 e p2 (every rs.length) R s5 n5 (.lod p2 R ⟨⟨dx, hx5⟩, hR5⟩) e5 (by rw [every_len]; omega) hR5 (by omega)
  · have la : A.length ≤ rs.length := by
      unfold crowdShows at shw
      rw [Bool.and_eq_true, Bool.and_eq_true] at shw
      exact choice_len shw.1.1
    have hx4 := s4 _ _ hx
    have hA4 := s4 _ _ hA
    try walk_at "rd"
    refine rIsi_ins C.ic C.cc hx4 ⟨_, rfl, ?_⟩
    rw [if_pos rfl]
    refine rfld (fun Q h => ⟨_, rfl, h⟩) hx4 C.c.cl C.c.n2 (cf_asking d p2) (k6 _ _ (seq_i fun nx7 k7 => ?_))
    try walk_at "rd"
    refine rIsi_ins C.ic k4' hx4 ⟨_, rfl, ?_⟩
    rw [if_neg (by decide)]
    refine tLc_list (R := IsR H4) rs (fun r => some (V.int 0)) (fun R h => ⟨_, rfl, h⟩) er4 pr4 (le1000 (by omega)) (fun D v r acc Nx hD _ _ add _ => ?_) fun D hD => ?_
    · try walk_at "rd"
      exact add _ rfl
    · refine k7 _ _ ?_
      have s5 := Same.upd (o := .lst (rs.filterMap fun r => some (V.int 0))) hD
      have e5 : IntsAt (upd H4 D (.lst (rs.filterMap fun r => some (V.int 0)))) D (rs.map fun _ => (0 : Int)) := by
        show _ = _
        rw [upd_same, fm_map (fun _ : Rq => (0 : Int)) V.int]
      have n5 : NoT (upd H4 D (.lst (rs.filterMap fun r => some (V.int 0)))) := n4.upd
      exact rest _ p2 D A (rs.map fun _ => 0) s5 n5 (.crowd p2 d A ⟨⟨dx, s5 _ _ hx4⟩, s5 _ _ hA4⟩) (s5 _ _ hA4) (by omega) e5 (by rw [List.length_map]; omega)
end
end Spn

namespace Spn
open PySem PySem.Spec PyProof.Rows L2 LamX
/-! ### a law run at few things, told at all -/
def isSm : HO → Bool
  | .lst _ => true
  | .tup _ => true
  | .tbl _ => true
  | .frz _ (.lst _) => true
  | .frz _ (.tup _) => true
  | _ => false
def smH (H : Hp) : Hp := fun b => match H b with
  | some o => if isSm o = true then some o else none
  | none => none
theorem smH_at {H : Hp} {b : Addr} {o : HO} (h : H b = some o) (s : isSm o = true) : smH H b = some o := by
  unfold smH
  rw [h]
  exact if_pos s
theorem smH_sub {H : Hp} {b : Addr} {o : HO} (h : smH H b = some o) : H b = some o ∧ isSm o = true := by
  unfold smH at h
  cases e : H b with
  | none => rw [e] at h; cases h
  | some u =>
    rw [e] at h
    by_cases c : isSm u = true
    · have h : (if isSm u = true then some u else none) = some o := h
      rw [if_pos c] at h
      cases h
      exact ⟨rfl, c⟩
    · have h : (if isSm u = true then some u else none) = some o := h
      rw [if_neg c] at h
      cases h
theorem smH_none {H : Hp} {b : Addr} {o : HO} (h : H b = some o) (s : isSm o = false) : smH H b = none := by
  unfold smH
  rw [h]
  exact if_neg (by rw [s]; decide)
theorem smH_free {H : Hp} {b : Addr} (h : H b = none) : smH H b = none := by
  unfold smH
  rw [h]
theorem smH_noT (H : Hp) : NoT (smH H) := fun b o e => by
  have := (smH_sub e).2
  cases o with
  | frz ob u => cases u <;> first | rfl | cases this
  | dT kvs => cases this
  | _ => rfl
def wdH (H H' : Hp) : Hp := fun b => match H b with
  | none => none
  | some (.lst _) => none
  | some (.tbl _) => H' b
  | some o => some o
theorem small_ok {P : Program} {w : World} {H : Hp} {h : Heap} (x : HOk P w H h) : HOk P w (smH H) h := fun b o e => by
  obtain ⟨e, s⟩ := smH_sub e
  have := x b o e
  cases o with
  | lst xs => exact this
  | tup xs => exact this
  | tbl ps => exact this
  | frz ob u =>
    cases u with
    | lst xs => exact this
    | tup xs => exact this
    | _ => cases s
  | _ => cases s
theorem wide_ok {P : Program} {w : World} {H H' : Hp} {h h' : Heap} {fs : List Addr} (x : HOk P w H h) (x' : HOk P w H' h') (u : Un fs [] (smH H) H' h h') (frf : ∀ b ∈ fs, H b = none) : HOk P w (wdH H H') h' ∧ Un fs [] H (wdH H H') h h' := by
  have other : ∀ b o, H b = some o → isSm o = false → ∀ v, h.get? b = some v → h'.get? b = some v := fun b o e s v hv =>
    u.keep b v hv (smH_none e s) (fun z => by rw [frf b z] at e; cases e) (fun z => nomatch z)
  have wd : ∀ b o, H b = some o → isSm o = false → wdH H H' b = some o := fun b o e s => by
    unfold wdH
    rw [e]
    cases o <;> first | rfl | cases s
  have wt : ∀ b xs, H b = some (.tup xs) → wdH H H' b = some (.tup xs) := fun b xs e => by unfold wdH; rw [e]
  have wf : ∀ b o v, H b = some (.frz o v) → wdH H H' b = some (.frz o v) := fun b o v e => by unfold wdH; rw [e]
  have wb : ∀ b ps, H b = some (.tbl ps) → wdH H H' b = H' b := fun b ps e => by unfold wdH; rw [e]
  refine ⟨fun b o e => ?_, ⟨fun b o q n hf hx => u.keep b o q (smH_free n) hf hx, fun b o q n hf hx => u.slot b o q (smH_free n) hf hx, fun b o q n hx => by unfold wdH; rw [n], u.there, wt, wf, fun b ps q => ?_⟩⟩
  · cases q : H b with
    | none => unfold wdH at e; rw [q] at e; cases e
    | some v =>
      by_cases s : isSm v = true
      · cases v with
        | lst xs => unfold wdH at e; rw [q] at e; cases e
        | tup xs =>
          rw [wt b xs q] at e
          cases e
          exact x' b _ (u.tups b xs (smH_at q rfl))
        | tbl ps =>
          rw [wb b ps q] at e
          obtain ⟨m, z⟩ := u.tbls b ps (smH_at q rfl)
          rw [z] at e
          cases e
          exact x' b _ z
        | frz ob v =>
          rw [wf b ob v q] at e
          cases e
          have z := x' b _ (u.frzs b ob v (smH_at q s))
          cases v with
          | lst xs => exact z
          | tup xs => exact z
          | _ => cases s
        | _ => cases s
      · have s : isSm v = false := by cases h : isSm v <;> simp_all
        rw [wd b v q s] at e
        cases e
        refine (x b _ q).stay (fun d y hd hy => ?_) (fun d hd => wd d _ hd rfl) fun d xs hd => wt d xs hd
        rcases hd with hd | hd
        · subst hd
          exact other _ _ q s y hy
        · exact other _ _ hd rfl y hy
  · obtain ⟨m, z⟩ := u.tbls b ps (smH_at q rfl)
    exact ⟨m, (wb b ps q).trans z⟩
theorem FnOk.wide {P : Program} {w : World} {K : PySem.W.Frag} {mg : Str → Option Value} {base : Heap} {k : Nat} {f : Addr} {fd : FuncData} {ps : List Str} {sp : Sp} (F : FnOk P w K mg base CX0 k f fd ps sp) :
    FnOk P w K mg base CX0 k f fd ps (fun vs H Q E => ∃ q : V → Prop, (∀ v H', q v → Q v H') ∧ sp vs (smH H) (fun v _ => q v) E) := by
  refine ⟨fun vs H Q E ⟨q, _, h⟩ => F.len vs _ _ E h, fun A outer s H args us vs Q E hr he hb hv ⟨q, hq, h⟩ => ?_⟩
  have he' : Env0 P w K mg base A outer s (smH H) := ⟨he.frames, he.mod, fun b o e => ⟨(he.bs b o e).1, smH_free (he.bs b o e).2⟩, he.bsz, he.funs, fun b hb => smH_free (he.frf b hb), small_ok he.hok, he.bare⟩
  refine codeAny_mono (F.run A outer s (smH H) args us vs _ E hr he' hb hv h) fun r s' z => ?_
  cases r with
  | error e => exact z
  | ok fl =>
    cases fl with
    | ret u =>
      obtain ⟨v, H', os, ag, un, ho, rv, z⟩ := z
      obtain ⟨w1, w2⟩ := wide_ok he.hok ho un he.frf
      exact ⟨v, _, os, ag, w2, w1, rv, hq _ _ z⟩
    | next => exact z
    | brk => exact z
    | cont => exact z
/-- a def whose code object is known by its place -/
theorem FnB.mkC {P : Program} {w : World} {K : PySem.W.Frag} {mg : Str → Option Value} {base : Heap} {CX : CXT} {k : Nat} {p : Str × Option Str} {N ps : List Str} {sp : Sp} {x qual : Str} {st : Stmt}
    (F : ∃ fd, FunD K x qual (defArgs st) (defBody st) (defScope st) [] [] (He.fAd K p) fd) (S : FnScope N ps (defScope st))
    (bd : ∀ (kV doc pm : Value) (an : Option Addr) (cdv ct : Value) (us : List Value), us.length = ps.length → bindArgs (PySem.W.fnOf x qual (defArgs st) (defBody st) (defScope st) .none kV doc pm an cdv ct) ⟨us, []⟩ = pure (ps.zip us))
    (len : ∀ vs H Q E, sp vs H Q E → vs.length = ps.length)
    (hbody : ∀ (cdv : Value) (A : Around) (outer : List Env) (s : Shared) (H : Hp) (vs : List V) (Q Q0 : VK) (E : XK), cdv = .ref (He.codeOf K p) → Room k (A.deeper (envOfC qual (defScope st) s.heap.objs.size (He.fAd K p) cdv)) → sp vs H Q E → (∀ v H' H'', Shr H H'' H' → Q v H'' → Q0 v H') →
      ∃ t, PSs (cxOf CX P w K mg base N qual (defScope st) (He.fAd K p) cdv A outer s H E) (defBody st) t ∧ t { nx := fun _ H' => Q0 .non H', rt := Q0 } (start N vs) H) : FnB P w K mg base CX (k + 1) p ps sp := by
  obtain ⟨fd, F⟩ := F
  have G : FnOk P w K mg base CX (k + 1) (He.fAd K p) fd ps (fun vs H Q0 E => ∃ Q : VK, sp vs H Q E ∧ ∀ v H' H'', Shr H H'' H' → Q v H'' → Q0 v H') := by
    obtain ⟨oc, od, dV, kV, doc, pm, an, cdv, ct, osl, e, lk, hcd, _, _⟩ := F.ex
    subst e
    obtain ⟨c, ec⟩ := He.codeIn_ref hcd
    have key : cdv = .ref (He.codeOf K p) := by rw [He.codeOf_eq lk ec]; exact ec
    exact fn_of lk hcd S (fun vs H Q E ⟨Q', h, _⟩ => len vs H Q' E h) fun A outer s H vs Q0 E hr ⟨Q, h, fin⟩ => hbody cdv A outer s H vs Q Q0 E key hr h fin
  exact ⟨⟨fd, (Spn.FnOk.shrink G).imp fun vs H Q E h => ⟨Q, h, fun v H' H'' S q => ⟨H'', S, q⟩⟩, FunD.bindsN F bd⟩, F.kp⟩
theorem hu_lodged {A : Around} {k : Nat} (hr : Room k A) : A.units + 2 < cLine := Nat.lt_of_le_of_lt (Nat.add_le_add_left (by decide : 2 ≤ 64) _) hr.units
theorem tabs_sm {T : List (Addr × Str)} {H : Hp} (h : ∀ p ∈ T, H p.1 = some (.tbl #[])) : Tabs T (smH H) := fun p hp => TabS.nil (smH_at (h p hp) rfl)
theorem scr_sm {K : PySem.W.Frag} {H : Hp} {a : Addr} {ns : List Int} (h : SqL K H a (ns.map V.int)) : ScrAt K (smH H) a ns := by
  rcases h with (h | ⟨o, h⟩) | h
  · exact .inl (.inl (smH_at h rfl))
  · exact .inl (.inr ⟨o, smH_at h rfl⟩)
  · exact .inr h
end Spn
namespace Spn
open PySem PySem.Spec PyProof.Rows L2
/-! ### the text, by its places -/
def top (i : Nat) : Stmt := PySem.Challenge.pw_spantolls_k05_answers_by_hand.main.body.getD i (.Pass ⟨0, 0, 0, 0⟩)
abbrev s__law_draw : Stmt := top 32
abbrev s__law_cell_at : Stmt := top 31
abbrev s__law_requests : Stmt := top 33
abbrev s_is_whole : Stmt := top 6
abbrev s_is_request : Stmt := top 7
abbrev s_check_requests : Stmt := top 8
abbrev s_check_rooms : Stmt := top 9
abbrev s_Ways_steps : Stmt := inClass (top 24) 1
abbrev s_Ways_most : Stmt := inClass (top 24) 2
abbrev s_Ways_lead : Stmt := inClass (top 24) 3
abbrev s_Ways___init__ : Stmt := inClass (top 24) 0
abbrev s_Ways_choice : Stmt := inClass (top 24) 4
abbrev s_Ways_amounts : Stmt := inClass (top 24) 5
abbrev s_best_of : Stmt := top 25
abbrev s_worth_of : Stmt := top 14
abbrev s_Due___init__ : Stmt := inClass (top 22) 0
abbrev s_due : Stmt := top 27
abbrev s__law_rooms : Stmt := top 34
abbrev s_Best___init__ : Stmt := inClass (top 19) 0
abbrev s_best : Stmt := top 26
abbrev s_Lodged___init__ : Stmt := inClass (top 20) 0
abbrev s_for_day : Stmt := top 10
abbrev s_Crowd___init__ : Stmt := inClass (top 21) 0
abbrev s_lodged : Stmt := top 29
abbrev s__law_says : Stmt := top 40
abbrev s_bound_by : Stmt := top 15
abbrev s_is_choice : Stmt := top 11
abbrev s_fits : Stmt := top 12
abbrev s_are_tolls : Stmt := top 13
abbrev s_is_best : Stmt := top 16
abbrev s_Best_shows : Stmt := inClass (top 19) 1
abbrev s__law_whole : Stmt := top 35
abbrev s__law_chosen : Stmt := top 36
abbrev s__law_worth : Stmt := top 38
abbrev s__law_there : Stmt := top 37
abbrev s__law_best : Stmt := top 39
abbrev s__law_best_right : Stmt := top 43
abbrev s_Lodged_shows : Stmt := inClass (top 20) 1
abbrev s__law_lodged_right : Stmt := top 44
abbrev s_Crowd_shows : Stmt := inClass (top 21) 1
abbrev s__law_crowd_right : Stmt := top 45
abbrev s__law_bent : Stmt := top 41
abbrev s__law_tolled : Stmt := top 42
abbrev s_Due_shows : Stmt := inClass (top 22) 1
abbrev s__law_due_right : Stmt := top 46
abbrev s_law : Stmt := top 47
theorem sc__law_draw : FnScope ["_law_cell", "_law_k", "_law_many", "_law_primes"] ["_law_cell", "_law_k", "_law_many"] (defScope s__law_draw) := ⟨rfl, rfl, rfl, by decide +kernel, rfl, by decide +kernel, by decide +kernel⟩
theorem sc__law_cell_at : FnScope ["_law_script", "_law_k"] ["_law_script", "_law_k"] (defScope s__law_cell_at) := ⟨rfl, rfl, rfl, by decide +kernel, rfl, by decide +kernel, by decide +kernel⟩
theorem sc__law_requests : FnScope ["_law_script", "_law_found", "_law_k", "_law_first", "_law_kind", "_law_times", "_law_days", "_law_most", "_law_each", "_law_cell", "_law_last"] ["_law_script"] (defScope s__law_requests) := ⟨rfl, rfl, rfl, by decide +kernel, rfl, by decide +kernel, by decide +kernel⟩
theorem sc_is_whole : FnScope ["thing"] ["thing"] (defScope s_is_whole) := ⟨rfl, rfl, rfl, by decide +kernel, rfl, by decide +kernel, by decide +kernel⟩
theorem sc_is_request : FnScope ["thing", "one"] ["thing"] (defScope s_is_request) := ⟨rfl, rfl, rfl, by decide +kernel, rfl, by decide +kernel, by decide +kernel⟩
theorem sc_check_requests : FnScope ["requests", "request"] ["requests"] (defScope s_check_requests) := ⟨rfl, rfl, rfl, by decide +kernel, rfl, by decide +kernel, by decide +kernel⟩
theorem sc_check_rooms : FnScope ["rooms", "least"] ["rooms", "least"] (defScope s_check_rooms) := ⟨rfl, rfl, rfl, by decide +kernel, rfl, by decide +kernel, by decide +kernel⟩
theorem sc_Ways_steps : FnScope ["self", "forth", "back", "at", "request", "first", "end", "price"] ["self"] (defScope s_Ways_steps) := ⟨rfl, rfl, rfl, by decide +kernel, rfl, by decide +kernel, by decide +kernel⟩
theorem sc_Ways_most : FnScope ["self", "steps", "brought", "came", "moved", "step", "start", "end", "more", "which", "day"] ["self"] (defScope s_Ways_most) := ⟨rfl, rfl, rfl, by decide +kernel, rfl, by decide +kernel, by decide +kernel⟩
theorem sc_Ways_lead : FnScope ["self", "brought", "came", "day", "start", "end", "more", "which", "kind", "at"] ["self"] (defScope s_Ways_lead) := ⟨rfl, rfl, rfl, by decide +kernel, rfl, by decide +kernel, by decide +kernel⟩
theorem sc_Ways___init__ : FnScope ["self", "requests", "rooms", "marks", "room", "first", "last", "price", "request", "day", "more"] ["self", "requests", "rooms"] (defScope s_Ways___init__) := ⟨rfl, rfl, rfl, by decide +kernel, rfl, by decide +kernel, by decide +kernel⟩
theorem sc_Ways_choice : FnScope ["self", "at", "mark"] ["self"] (defScope s_Ways_choice) := ⟨rfl, rfl, rfl, by decide +kernel, rfl, by decide +kernel, by decide +kernel⟩
theorem sc_Ways_amounts : FnScope ["self", "brought", "came", "found", "at"] ["self"] (defScope s_Ways_amounts) := ⟨rfl, rfl, rfl, by decide +kernel, rfl, by decide +kernel, by decide +kernel⟩
theorem sc_best_of : FnScope ["requests", "rooms", "ways"] ["requests", "rooms"] (defScope s_best_of) := ⟨rfl, rfl, rfl, by decide +kernel, rfl, by decide +kernel, by decide +kernel⟩
theorem sc_worth_of : FnScope ["requests", "some", "at"] ["requests", "some"] (defScope s_worth_of) := ⟨rfl, rfl, rfl, by decide +kernel, rfl, by decide +kernel, by decide +kernel⟩
theorem sc_Due___init__ : FnScope ["self", "price", "taken", "tolls", "others", "other_tolls"] ["self", "price", "taken", "tolls", "others", "other_tolls"] (defScope s_Due___init__) := ⟨rfl, rfl, rfl, by decide +kernel, rfl, by decide +kernel, by decide +kernel⟩
theorem sc_due : FnScope ["requests", "rooms", "first", "last", "others", "other_tolls", "great", "taken", "beside", "price", "tolls", "at", "request"] ["requests", "rooms", "first", "last"] (defScope s_due) := ⟨rfl, rfl, rfl, by decide +kernel, rfl, by decide +kernel, by decide +kernel⟩
theorem sc__law_rooms : FnScope ["_law_script", "_law_many"] ["_law_script", "_law_many"] (defScope s__law_rooms) := ⟨rfl, rfl, rfl, by decide +kernel, rfl, by decide +kernel, by decide +kernel⟩
theorem sc_Best___init__ : FnScope ["self", "taken", "tolls"] ["self", "taken", "tolls"] (defScope s_Best___init__) := ⟨rfl, rfl, rfl, by decide +kernel, rfl, by decide +kernel, by decide +kernel⟩
theorem sc_best : FnScope ["requests", "rooms", "taken", "tolls"] ["requests", "rooms"] (defScope s_best) := ⟨rfl, rfl, rfl, by decide +kernel, rfl, by decide +kernel, by decide +kernel⟩
theorem sc_Lodged___init__ : FnScope ["self", "rooms"] ["self", "rooms"] (defScope s_Lodged___init__) := ⟨rfl, rfl, rfl, by decide +kernel, rfl, by decide +kernel, by decide +kernel⟩
theorem sc_for_day : FnScope ["requests", "some", "day", "at"] ["requests", "some", "day"] (defScope s_for_day) := ⟨rfl, rfl, rfl, by decide +kernel, rfl, by decide +kernel, by decide +kernel⟩
theorem sc_Crowd___init__ : FnScope ["self", "day", "asking"] ["self", "day", "asking"] (defScope s_Crowd___init__) := ⟨rfl, rfl, rfl, by decide +kernel, rfl, by decide +kernel, by decide +kernel⟩
theorem sc_lodged : FnScope ["requests", "rooms", "found", "met", "at", "day", "there", "used", "room", "request", "one"] ["requests", "rooms"] (defScope s_lodged) := ⟨rfl, rfl, rfl, by decide +kernel, rfl, by decide +kernel, by decide +kernel⟩
theorem sc__law_says : FnScope ["_law_said", "_law_wanted"] ["_law_said", "_law_wanted"] (defScope s__law_says) := ⟨rfl, rfl, rfl, by decide +kernel, rfl, by decide +kernel, by decide +kernel⟩
theorem sc_bound_by : FnScope ["requests", "rooms", "tolls", "total", "first", "last", "price", "toll", "day", "amount"] ["requests", "rooms", "tolls"] (defScope s_bound_by) := ⟨rfl, rfl, rfl, by decide +kernel, rfl, by decide +kernel, by decide +kernel⟩
theorem sc_is_choice : FnScope ["requests", "some", "last", "at"] ["requests", "some"] (defScope s_is_choice) := ⟨rfl, rfl, rfl, by decide +kernel, rfl, by decide +kernel, by decide +kernel⟩
theorem sc_fits : FnScope ["requests", "rooms", "some", "at"] ["requests", "rooms", "some"] (defScope s_fits) := ⟨rfl, rfl, rfl, by decide +kernel, rfl, by decide +kernel, by decide +kernel⟩
theorem sc_are_tolls : FnScope ["tolls", "k", "day", "amount"] ["tolls"] (defScope s_are_tolls) := ⟨rfl, rfl, rfl, by decide +kernel, rfl, by decide +kernel, by decide +kernel⟩
theorem sc_is_best : FnScope ["requests", "rooms", "some", "tolls"] ["requests", "rooms", "some", "tolls"] (defScope s_is_best) := ⟨rfl, rfl, rfl, by decide +kernel, rfl, by decide +kernel, by decide +kernel⟩
theorem sc_Best_shows : FnScope ["self", "requests", "rooms"] ["self", "requests", "rooms"] (defScope s_Best_shows) := ⟨rfl, rfl, rfl, by decide +kernel, rfl, by decide +kernel, by decide +kernel⟩
theorem sc__law_whole : FnScope ["_law_number"] ["_law_number"] (defScope s__law_whole) := ⟨rfl, rfl, rfl, by decide +kernel, rfl, by decide +kernel, by decide +kernel⟩
theorem sc__law_chosen : FnScope ["_law_requests_here", "_law_some", "_law_at"] ["_law_requests_here", "_law_some"] (defScope s__law_chosen) := ⟨rfl, rfl, rfl, by decide +kernel, rfl, by decide +kernel, by decide +kernel⟩
theorem sc__law_worth : FnScope ["_law_requests_here", "_law_some", "_law_at"] ["_law_requests_here", "_law_some"] (defScope s__law_worth) := ⟨rfl, rfl, rfl, by decide +kernel, rfl, by decide +kernel, by decide +kernel⟩
theorem sc__law_there : FnScope ["_law_requests_here", "_law_some", "_law_day", "_law_at"] ["_law_requests_here", "_law_some", "_law_day"] (defScope s__law_there) := ⟨rfl, rfl, rfl, by decide +kernel, rfl, by decide +kernel, by decide +kernel⟩
theorem sc__law_best : FnScope ["_law_requests_here", "_law_rooms_here", "_law_some", "_law_tolls", "_law_whole_here", "_law_first", "_law_last", "_law_price", "_law_at", "_law_k", "_law_day", "_law_much"] ["_law_requests_here", "_law_rooms_here", "_law_some", "_law_tolls"] (defScope s__law_best) := ⟨rfl, rfl, rfl, by decide +kernel, rfl, by decide +kernel, by decide +kernel⟩
theorem sc__law_best_right : FnScope ["_law_requests_here", "_law_rooms_here", "_law_taken", "_law_tolls", "_law_handed", "_law_answer"] ["_law_requests_here", "_law_rooms_here", "_law_taken", "_law_tolls"] (defScope s__law_best_right) := ⟨rfl, rfl, rfl, by decide +kernel, rfl, by decide +kernel, by decide +kernel⟩
theorem sc_Lodged_shows : FnScope ["self", "requests", "rooms", "at", "request", "beside", "room", "one"] ["self", "requests", "rooms"] (defScope s_Lodged_shows) := ⟨rfl, rfl, rfl, by decide +kernel, rfl, by decide +kernel, by decide +kernel⟩
theorem sc__law_lodged_right : FnScope ["_law_requests_here", "_law_rooms_here", "_law_some", "_law_every", "_law_wanted", "_law_at", "_law_beside", "_law_handed", "_law_answer", "_law_room", "_law_one"] ["_law_requests_here", "_law_rooms_here", "_law_some"] (defScope s__law_lodged_right) := ⟨rfl, rfl, rfl, by decide +kernel, rfl, by decide +kernel, by decide +kernel⟩
theorem sc_Crowd_shows : FnScope ["self", "requests", "rooms"] ["self", "requests", "rooms"] (defScope s_Crowd_shows) := ⟨rfl, rfl, rfl, by decide +kernel, rfl, by decide +kernel, by decide +kernel⟩
theorem sc__law_crowd_right : FnScope ["_law_requests_here", "_law_rooms_here", "_law_day", "_law_some", "_law_wanted", "_law_handed", "_law_answer"] ["_law_requests_here", "_law_rooms_here", "_law_day", "_law_some"] (defScope s__law_crowd_right) := ⟨rfl, rfl, rfl, by decide +kernel, rfl, by decide +kernel, by decide +kernel⟩
theorem sc__law_bent : FnScope ["_law_some", "_law_cell", "_law_more", "_law_kind", "_law_many", "_law_at", "_law_found"] ["_law_some", "_law_cell", "_law_more"] (defScope s__law_bent) := ⟨rfl, rfl, rfl, by decide +kernel, rfl, by decide +kernel, by decide +kernel⟩
theorem sc__law_tolled : FnScope ["_law_tolls", "_law_cell", "_law_at", "_law_day", "_law_much", "_law_bent_here"] ["_law_tolls", "_law_cell"] (defScope s__law_tolled) := ⟨rfl, rfl, rfl, by decide +kernel, rfl, by decide +kernel, by decide +kernel⟩
theorem sc_Due_shows : FnScope ["self", "requests", "rooms", "first", "last", "more"] ["self", "requests", "rooms", "first", "last"] (defScope s_Due_shows) := ⟨rfl, rfl, rfl, by decide +kernel, rfl, by decide +kernel, by decide +kernel⟩
theorem sc__law_due_right : FnScope ["_law_requests_here", "_law_rooms_here", "_law_first", "_law_last", "_law_found", "_law_cell", "_law_which", "_law_price", "_law_taken", "_law_tolls", "_law_others", "_law_more", "_law_handed", "_law_answer", "_law_some", "_law_with_it", "_law_wanted"] ["_law_requests_here", "_law_rooms_here", "_law_first", "_law_last", "_law_found", "_law_cell"] (defScope s__law_due_right) := ⟨rfl, rfl, rfl, by decide +kernel, rfl, by decide +kernel, by decide +kernel⟩
theorem sc_law : FnScope ["_law_script", "_law_requests_here", "_law_rooms_here", "_law_found", "_law_home", "_law_first", "_law_owed", "_law_places", "_law_some", "_law_k", "_law_cell", "_law_drawn", "_law_day", "_law_request"] ["_law_script"] (defScope s_law) := ⟨rfl, rfl, rfl, by decide +kernel, rfl, by decide +kernel, by decide +kernel⟩
/-! ### facts of the module -/
/-- isinstance, of a thing of class c -/
structure IsaX (K : PySem.W.Frag) (c : Str) : Prop where
  ha : PySem.W.findIn K (.ref (He.ga K c)) "__class__" = some (some (.builtin "object.__class__"))
  hn : PySem.W.specialIn K (.builtin "object.__class__") "__get__" = some (some (.builtin "getset_descriptor.__get__"))
  htk : PySem.W.takesIn K (.builtin "object.__class__") = some true
  hm : PySem.W.mroIn K (He.ga K c) (.type "object") = some true
theorem IsaX.isa {K : PySem.W.Frag} {c : Str} (h : IsaX K c) (cl : Cls K (He.ga K c)) : Isa K c := ⟨cl, h.ha, h.hn, h.htk, h.hm⟩
inductive Fx where
  | isa (c : Str)
  | kit (c d : Str) (b : Bool)
def Fx.ok (K : PySem.W.Frag) : Fx → Bool
  | .isa c => He.eqO (PySem.W.findIn K (.ref (He.ga K c)) "__class__") (some (some (.builtin "object.__class__"))) && (He.eqO (PySem.W.specialIn K (.builtin "object.__class__") "__get__") (some (some (.builtin "getset_descriptor.__get__"))) && (decide (PySem.W.takesIn K (.builtin "object.__class__") = some true) && decide (PySem.W.mroIn K (He.ga K c) (.type "object") = some true)))
  | .kit c d b => decide (PySem.W.kitOne K (.ref (He.ga K c)) (.ref (He.ga K d)) = some b)
theorem fx_isa {K : PySem.W.Frag} {c : Str} (h : (Fx.isa c).ok K = true) : IsaX K c := by
  obtain ⟨h1, h⟩ := He.ba h
  obtain ⟨h2, h⟩ := He.ba h
  obtain ⟨h3, h4⟩ := He.ba h
  exact ⟨He.eqO_ok h1, He.eqO_ok h2, of_decide_eq_true h3, of_decide_eq_true h4⟩
theorem fx_kit {K : PySem.W.Frag} {c d : Str} {b : Bool} (h : (Fx.kit c d b).ok K = true) : Kit K c d b := by
  unfold Kit
  exact of_decide_eq_true h
def obsX (fa : List He.Fa) (fn : List He.DefD) (fx : List Fx) (K : PySem.W.Frag) : He.AlD × Bool := (He.obsD fa fn K, fx.all fun f => f.ok K)
def SaysX (fa : List He.Fa) (fn : List He.DefD) (fx : List Fx) (K : PySem.W.Frag) : Prop := He.SaysD fa fn K ∧ (fx.all fun f => f.ok K) = true
theorem fx_at {K : PySem.W.Frag} {fx : List Fx} (h : (fx.all fun f => f.ok K) = true) (i : Nat) {f : Fx} (e : fx[i]? = some f := by rfl) : f.ok K = true := List.all_eq_true.mp h f (List.mem_of_getElem? e)
def obsXG (n : Nat) (fa : List He.Fa) (fn : List He.DefD) (fx : List Fx) (g : Addr → Option Obj) : He.AlD × Bool := obsX fa fn fx (He.frG g (He.asD g n))
def hookX (n : Nat) (fa : List He.Fa) (fn : List He.DefD) (fx : List Fx) : PySem.W.Hook where
  α := He.AlD × Bool
  obs := fun s => obsXG n fa fn fx s.heap.get?
  val := fun _ => (He.valD fn, true)
  says := fun _ h => ∃ K : PySem.W.Frag, K.In h ∧ SaysX fa fn fx K
  of := fun _ _ e => ⟨_, He.frG_in, congrArg (fun z : He.AlD × Bool => z.1) e, congrArg (fun z : He.AlD × Bool => z.2) e⟩
  keeps := fun _ _ _ ⟨K, hK, c⟩ k => ⟨K, PySem.W.Frag.In.keeps hK k, c⟩
theorem obsXG_eq {n : Nat} {fa : List He.Fa} {fn : List He.DefD} {fx : List Fx} {g : Addr → Option Obj} {s : Shared} (h : ∀ a, g a = s.heap.get? a) : obsXG n fa fn fx g = (hookX n fa fn fx).obs s := by
  have e : g = s.heap.get? := funext h
  rw [e] <;> rfl
theorem noT_only {H : Hp} (h : Only H) : NoT H := fun a o e => by
  rcases h a with h | ⟨ob, xs, h⟩
  · rw [h] at e; cases e
  · rw [h] at e; cases e; rfl

/-- what the walks ask of the module -/
structure Txt (K : PySem.W.Frag) (mg : Str → Option Value) (base : Heap) : Prop where
  d__law_draw : ∃ fd, FunD K "_law_draw" "_law_draw" (defArgs s__law_draw) (defBody s__law_draw) (defScope s__law_draw) [] [] (He.fAd K ("_law_draw", none)) fd
  d__law_cell_at : ∃ fd, FunD K "_law_cell_at" "_law_cell_at" (defArgs s__law_cell_at) (defBody s__law_cell_at) (defScope s__law_cell_at) [] [] (He.fAd K ("_law_cell_at", none)) fd
  d__law_requests : ∃ fd, FunD K "_law_requests" "_law_requests" (defArgs s__law_requests) (defBody s__law_requests) (defScope s__law_requests) [] [] (He.fAd K ("_law_requests", none)) fd
  d_is_whole : ∃ fd, FunD K "is_whole" "is_whole" (defArgs s_is_whole) (defBody s_is_whole) (defScope s_is_whole) [] [] (He.fAd K ("is_whole", none)) fd
  d_is_request : ∃ fd, FunD K "is_request" "is_request" (defArgs s_is_request) (defBody s_is_request) (defScope s_is_request) [] [] (He.fAd K ("is_request", none)) fd
  d_check_requests : ∃ fd, FunD K "check_requests" "check_requests" (defArgs s_check_requests) (defBody s_check_requests) (defScope s_check_requests) [] [] (He.fAd K ("check_requests", none)) fd
  d_check_rooms : ∃ fd, FunD K "check_rooms" "check_rooms" (defArgs s_check_rooms) (defBody s_check_rooms) (defScope s_check_rooms) [] [] (He.fAd K ("check_rooms", none)) fd
  d_Ways_steps : ∃ fd, FunD K "steps" "Ways.steps" (defArgs s_Ways_steps) (defBody s_Ways_steps) (defScope s_Ways_steps) [] [] (He.fAd K ("Ways", some "steps")) fd
  d_Ways_most : ∃ fd, FunD K "most" "Ways.most" (defArgs s_Ways_most) (defBody s_Ways_most) (defScope s_Ways_most) [] [] (He.fAd K ("Ways", some "most")) fd
  d_Ways_lead : ∃ fd, FunD K "lead" "Ways.lead" (defArgs s_Ways_lead) (defBody s_Ways_lead) (defScope s_Ways_lead) [] [] (He.fAd K ("Ways", some "lead")) fd
  d_Ways___init__ : ∃ fd, FunD K "__init__" "Ways.__init__" (defArgs s_Ways___init__) (defBody s_Ways___init__) (defScope s_Ways___init__) [] [] (He.fAd K ("Ways", some "__init__")) fd
  d_Ways_choice : ∃ fd, FunD K "choice" "Ways.choice" (defArgs s_Ways_choice) (defBody s_Ways_choice) (defScope s_Ways_choice) [] [] (He.fAd K ("Ways", some "choice")) fd
  d_Ways_amounts : ∃ fd, FunD K "amounts" "Ways.amounts" (defArgs s_Ways_amounts) (defBody s_Ways_amounts) (defScope s_Ways_amounts) [] [] (He.fAd K ("Ways", some "amounts")) fd
  d_best_of : ∃ fd, FunD K "best_of" "best_of" (defArgs s_best_of) (defBody s_best_of) (defScope s_best_of) [] [] (He.fAd K ("best_of", none)) fd
  d_worth_of : ∃ fd, FunD K "worth_of" "worth_of" (defArgs s_worth_of) (defBody s_worth_of) (defScope s_worth_of) [] [] (He.fAd K ("worth_of", none)) fd
  d_Due___init__ : ∃ fd, FunD K "__init__" "Due.__init__" (defArgs s_Due___init__) (defBody s_Due___init__) (defScope s_Due___init__) [] [] (He.fAd K ("Due", some "__init__")) fd
  d_due : ∃ fd, FunD K "due" "due" (defArgs s_due) (defBody s_due) (defScope s_due) [] [] (He.fAd K ("due", none)) fd
  d__law_rooms : ∃ fd, FunD K "_law_rooms" "_law_rooms" (defArgs s__law_rooms) (defBody s__law_rooms) (defScope s__law_rooms) [] [] (He.fAd K ("_law_rooms", none)) fd
  d_Best___init__ : ∃ fd, FunD K "__init__" "Best.__init__" (defArgs s_Best___init__) (defBody s_Best___init__) (defScope s_Best___init__) [] [] (He.fAd K ("Best", some "__init__")) fd
  d_best : ∃ fd, FunD K "best" "best" (defArgs s_best) (defBody s_best) (defScope s_best) [] [] (He.fAd K ("best", none)) fd
  d_Lodged___init__ : ∃ fd, FunD K "__init__" "Lodged.__init__" (defArgs s_Lodged___init__) (defBody s_Lodged___init__) (defScope s_Lodged___init__) [] [] (He.fAd K ("Lodged", some "__init__")) fd
  d_for_day : ∃ fd, FunD K "for_day" "for_day" (defArgs s_for_day) (defBody s_for_day) (defScope s_for_day) [] [] (He.fAd K ("for_day", none)) fd
  d_Crowd___init__ : ∃ fd, FunD K "__init__" "Crowd.__init__" (defArgs s_Crowd___init__) (defBody s_Crowd___init__) (defScope s_Crowd___init__) [] [] (He.fAd K ("Crowd", some "__init__")) fd
  d_lodged : ∃ fd, FunD K "lodged" "lodged" (defArgs s_lodged) (defBody s_lodged) (defScope s_lodged) [] [] (He.fAd K ("lodged", none)) fd
  d__law_says : ∃ fd, FunD K "_law_says" "_law_says" (defArgs s__law_says) (defBody s__law_says) (defScope s__law_says) [] [] (He.fAd K ("_law_says", none)) fd
  d_bound_by : ∃ fd, FunD K "bound_by" "bound_by" (defArgs s_bound_by) (defBody s_bound_by) (defScope s_bound_by) [] [] (He.fAd K ("bound_by", none)) fd
  d_is_choice : ∃ fd, FunD K "is_choice" "is_choice" (defArgs s_is_choice) (defBody s_is_choice) (defScope s_is_choice) [] [] (He.fAd K ("is_choice", none)) fd
  d_fits : ∃ fd, FunD K "fits" "fits" (defArgs s_fits) (defBody s_fits) (defScope s_fits) [] [] (He.fAd K ("fits", none)) fd
  d_are_tolls : ∃ fd, FunD K "are_tolls" "are_tolls" (defArgs s_are_tolls) (defBody s_are_tolls) (defScope s_are_tolls) [] [] (He.fAd K ("are_tolls", none)) fd
  d_is_best : ∃ fd, FunD K "is_best" "is_best" (defArgs s_is_best) (defBody s_is_best) (defScope s_is_best) [] [] (He.fAd K ("is_best", none)) fd
  d_Best_shows : ∃ fd, FunD K "shows" "Best.shows" (defArgs s_Best_shows) (defBody s_Best_shows) (defScope s_Best_shows) [] [] (He.fAd K ("Best", some "shows")) fd
  d__law_whole : ∃ fd, FunD K "_law_whole" "_law_whole" (defArgs s__law_whole) (defBody s__law_whole) (defScope s__law_whole) [] [] (He.fAd K ("_law_whole", none)) fd
  d__law_chosen : ∃ fd, FunD K "_law_chosen" "_law_chosen" (defArgs s__law_chosen) (defBody s__law_chosen) (defScope s__law_chosen) [] [] (He.fAd K ("_law_chosen", none)) fd
  d__law_worth : ∃ fd, FunD K "_law_worth" "_law_worth" (defArgs s__law_worth) (defBody s__law_worth) (defScope s__law_worth) [] [] (He.fAd K ("_law_worth", none)) fd
  d__law_there : ∃ fd, FunD K "_law_there" "_law_there" (defArgs s__law_there) (defBody s__law_there) (defScope s__law_there) [] [] (He.fAd K ("_law_there", none)) fd
  d__law_best : ∃ fd, FunD K "_law_best" "_law_best" (defArgs s__law_best) (defBody s__law_best) (defScope s__law_best) [] [] (He.fAd K ("_law_best", none)) fd
  d__law_best_right : ∃ fd, FunD K "_law_best_right" "_law_best_right" (defArgs s__law_best_right) (defBody s__law_best_right) (defScope s__law_best_right) [] [] (He.fAd K ("_law_best_right", none)) fd
  d_Lodged_shows : ∃ fd, FunD K "shows" "Lodged.shows" (defArgs s_Lodged_shows) (defBody s_Lodged_shows) (defScope s_Lodged_shows) [] [] (He.fAd K ("Lodged", some "shows")) fd
  d__law_lodged_right : ∃ fd, FunD K "_law_lodged_right" "_law_lodged_right" (defArgs s__law_lodged_right) (defBody s__law_lodged_right) (defScope s__law_lodged_right) [] [] (He.fAd K ("_law_lodged_right", none)) fd
  d_Crowd_shows : ∃ fd, FunD K "shows" "Crowd.shows" (defArgs s_Crowd_shows) (defBody s_Crowd_shows) (defScope s_Crowd_shows) [] [] (He.fAd K ("Crowd", some "shows")) fd
  d__law_crowd_right : ∃ fd, FunD K "_law_crowd_right" "_law_crowd_right" (defArgs s__law_crowd_right) (defBody s__law_crowd_right) (defScope s__law_crowd_right) [] [] (He.fAd K ("_law_crowd_right", none)) fd
  d__law_bent : ∃ fd, FunD K "_law_bent" "_law_bent" (defArgs s__law_bent) (defBody s__law_bent) (defScope s__law_bent) [] [] (He.fAd K ("_law_bent", none)) fd
  d__law_tolled : ∃ fd, FunD K "_law_tolled" "_law_tolled" (defArgs s__law_tolled) (defBody s__law_tolled) (defScope s__law_tolled) [] [] (He.fAd K ("_law_tolled", none)) fd
  d_Due_shows : ∃ fd, FunD K "shows" "Due.shows" (defArgs s_Due_shows) (defBody s_Due_shows) (defScope s_Due_shows) [] [] (He.fAd K ("Due", some "shows")) fd
  d__law_due_right : ∃ fd, FunD K "_law_due_right" "_law_due_right" (defArgs s__law_due_right) (defBody s__law_due_right) (defScope s__law_due_right) [] [] (He.fAd K ("_law_due_right", none)) fd
  d_law : ∃ fd, FunD K "law" "law" (defArgs s_law) (defBody s_law) (defScope s_law) [] [] (He.fAd K ("law", none)) fd
  c_Best : Cls K (He.ga K "Best")
  c_Crowd : Cls K (He.ga K "Crowd")
  c_Due : Cls K (He.ga K "Due")
  c_Lodged : Cls K (He.ga K "Lodged")
  c_Ways : Cls K (He.ga K "Ways")
  f_all : mg "all" = none
  f_any : mg "any" = none
  f_bool : mg "bool" = none
  f_enumerate : mg "enumerate" = none
  f_int : mg "int" = none
  f_isinstance : mg "isinstance" = none
  f_len : mg "len" = none
  f_list : mg "list" = none
  f_max : mg "max" = none
  f_min : mg "min" = none
  f_range : mg "range" = none
  f_set : mg "set" = none
  f_sorted : mg "sorted" = none
  f_sum : mg "sum" = none
  f_tuple : mg "tuple" = none
  g_Best : mg "Best" = some (.ref (He.ga K "Best"))
  g_Crowd : mg "Crowd" = some (.ref (He.ga K "Crowd"))
  g_Due : mg "Due" = some (.ref (He.ga K "Due"))
  g_Lodged : mg "Lodged" = some (.ref (He.ga K "Lodged"))
  g_Ways : mg "Ways" = some (.ref (He.ga K "Ways"))
  g__law_bent : mg "_law_bent" = some (.ref (He.ga K "_law_bent"))
  g__law_best : mg "_law_best" = some (.ref (He.ga K "_law_best"))
  g__law_best_right : mg "_law_best_right" = some (.ref (He.ga K "_law_best_right"))
  g__law_cell_at : mg "_law_cell_at" = some (.ref (He.ga K "_law_cell_at"))
  g__law_chosen : mg "_law_chosen" = some (.ref (He.ga K "_law_chosen"))
  g__law_crowd_right : mg "_law_crowd_right" = some (.ref (He.ga K "_law_crowd_right"))
  g__law_draw : mg "_law_draw" = some (.ref (He.ga K "_law_draw"))
  g__law_due_right : mg "_law_due_right" = some (.ref (He.ga K "_law_due_right"))
  g__law_lodged_right : mg "_law_lodged_right" = some (.ref (He.ga K "_law_lodged_right"))
  g__law_requests : mg "_law_requests" = some (.ref (He.ga K "_law_requests"))
  g__law_rooms : mg "_law_rooms" = some (.ref (He.ga K "_law_rooms"))
  g__law_says : mg "_law_says" = some (.ref (He.ga K "_law_says"))
  g__law_there : mg "_law_there" = some (.ref (He.ga K "_law_there"))
  g__law_tolled : mg "_law_tolled" = some (.ref (He.ga K "_law_tolled"))
  g__law_whole : mg "_law_whole" = some (.ref (He.ga K "_law_whole"))
  g__law_worth : mg "_law_worth" = some (.ref (He.ga K "_law_worth"))
  g_are_tolls : mg "are_tolls" = some (.ref (He.ga K "are_tolls"))
  g_best : mg "best" = some (.ref (He.ga K "best"))
  g_best_of : mg "best_of" = some (.ref (He.ga K "best_of"))
  g_bound_by : mg "bound_by" = some (.ref (He.ga K "bound_by"))
  g_check_requests : mg "check_requests" = some (.ref (He.ga K "check_requests"))
  g_check_rooms : mg "check_rooms" = some (.ref (He.ga K "check_rooms"))
  g_due : mg "due" = some (.ref (He.ga K "due"))
  g_fits : mg "fits" = some (.ref (He.ga K "fits"))
  g_for_day : mg "for_day" = some (.ref (He.ga K "for_day"))
  g_is_best : mg "is_best" = some (.ref (He.ga K "is_best"))
  g_is_choice : mg "is_choice" = some (.ref (He.ga K "is_choice"))
  g_is_request : mg "is_request" = some (.ref (He.ga K "is_request"))
  g_is_whole : mg "is_whole" = some (.ref (He.ga K "is_whole"))
  g_law : mg "law" = some (.ref (He.ga K "law"))
  g_lodged : mg "lodged" = some (.ref (He.ga K "lodged"))
  g_worth_of : mg "worth_of" = some (.ref (He.ga K "worth_of"))
  i_Crowd : IsaX K "Crowd"
  i_Lodged : IsaX K "Lodged"
  k_Best : Mk K (He.ga K "Best") (He.ma K (He.ga K "Best") "__init__")
  k_Crowd : Mk K (He.ga K "Crowd") (He.ma K (He.ga K "Crowd") "__init__")
  k_Due : Mk K (He.ga K "Due") (He.ma K (He.ga K "Due") "__init__")
  k_Lodged : Mk K (He.ga K "Lodged") (He.ma K (He.ga K "Lodged") "__init__")
  k_Ways : Mk K (He.ga K "Ways") (He.ma K (He.ga K "Ways") "__init__")
  kt_Crowd_Crowd_1 : Kit K "Crowd" "Crowd" true
  kt_Crowd_Lodged_0 : Kit K "Crowd" "Lodged" false
  kt_Lodged_Crowd_0 : Kit K "Lodged" "Crowd" false
  kt_Lodged_Lodged_1 : Kit K "Lodged" "Lodged" true
  m_Best_shows : Meth K (He.ga K "Best") "shows" (He.ma K (He.ga K "Best") "shows")
  m_Crowd_shows : Meth K (He.ga K "Crowd") "shows" (He.ma K (He.ga K "Crowd") "shows")
  m_Due_shows : Meth K (He.ga K "Due") "shows" (He.ma K (He.ga K "Due") "shows")
  m_Lodged_shows : Meth K (He.ga K "Lodged") "shows" (He.ma K (He.ga K "Lodged") "shows")
  m_Ways_amounts : Meth K (He.ga K "Ways") "amounts" (He.ma K (He.ga K "Ways") "amounts")
  m_Ways_choice : Meth K (He.ga K "Ways") "choice" (He.ma K (He.ga K "Ways") "choice")
  m_Ways_lead : Meth K (He.ga K "Ways") "lead" (He.ma K (He.ga K "Ways") "lead")
  m_Ways_most : Meth K (He.ga K "Ways") "most" (He.ma K (He.ga K "Ways") "most")
  m_Ways_steps : Meth K (He.ga K "Ways") "steps" (He.ma K (He.ga K "Ways") "steps")
  n_Best_taken : NoAttr K (He.ga K "Best") "taken"
  n_Best_tolls : NoAttr K (He.ga K "Best") "tolls"
  n_Crowd_asking : NoAttr K (He.ga K "Crowd") "asking"
  n_Crowd_day : NoAttr K (He.ga K "Crowd") "day"
  n_Due_other_tolls : NoAttr K (He.ga K "Due") "other_tolls"
  n_Due_others : NoAttr K (He.ga K "Due") "others"
  n_Due_price : NoAttr K (He.ga K "Due") "price"
  n_Due_taken : NoAttr K (He.ga K "Due") "taken"
  n_Due_tolls : NoAttr K (He.ga K "Due") "tolls"
  n_Lodged_rooms : NoAttr K (He.ga K "Lodged") "rooms"
  n_Ways_days : NoAttr K (He.ga K "Ways") "days"
  n_Ways_ends : NoAttr K (He.ga K "Ways") "ends"
  n_Ways_idle : NoAttr K (He.ga K "Ways") "idle"
  n_Ways_taken : NoAttr K (He.ga K "Ways") "taken"
  tb : LamX.TabB base mg (He.cT K ("lodged", none)).1 (He.cT K ("lodged", none)).2
section
variable {P : Program} {w : World} {K : PySem.W.Frag} {mg : Str → Option Value} {base : Heap}
theorem ok__law_draw (T : Txt K mg base) : FnB P w K mg base CX0 1 ("_law_draw", none) ["_law_cell", "_law_k", "_law_many"] (sp__law_draw K w) :=
  FnB.mk' T.d__law_draw sc__law_draw (fun _ _ _ _ _ _ us hl => match us, hl with | [_, _, _], _ => rfl) (fun vs H Q E h => by first | (obtain ⟨_, rfl, _⟩ := h; rfl) | (obtain ⟨_, _, rfl, _⟩ := h; rfl) | (obtain ⟨_, _, _, rfl, _⟩ := h; rfl) | (obtain ⟨_, _, _, _, rfl, _⟩ := h; rfl) | (obtain ⟨_, _, _, _, _, rfl, _⟩ := h; rfl) | (obtain ⟨_, _, _, _, _, _, rfl, _⟩ := h; rfl) | (obtain ⟨_, _, _, _, _, _, _, rfl, _⟩ := h; rfl) | (obtain ⟨_, _, _, _, _, _, _, _, rfl, _⟩ := h; rfl) | (obtain ⟨_, _, _, _, _, _, _, _, _, rfl, _⟩ := h; rfl) | (obtain ⟨_, _, _, _, _, _, _, _, _, _, rfl, _⟩ := h; rfl) | (obtain ⟨_, _, _, _, _, _, _, _, _, _, _, rfl, _⟩ := h; rfl) | (obtain ⟨_, _, _, _, _, _, _, _, _, _, _, _, rfl, _⟩ := h; rfl) | (obtain ⟨_, _, _, _, _, _, _, _, _, _, _, _, _, rfl, _⟩ := h; rfl) | (obtain ⟨_, _, _, _, _, _, _, _, _, _, _, _, _, _, rfl, _⟩ := h; rfl) | (obtain ⟨_, _, _, _, _, _, _, _, _, _, _, _, _, _, _, rfl, _⟩ := h; rfl) | (obtain ⟨_, _, _, _, _, _, _, _, _, _, _, _, _, _, _, _, rfl, _⟩ := h; rfl) | (obtain ⟨_, _, _, _, _, _, _, _, _, _, _, _, _, _, _, _, _, rfl, _⟩ := h; rfl) | (obtain ⟨_, _, _, _, _, _, _, _, _, _, _, _, _, _, _, _, _, _, rfl, _⟩ := h; rfl))
  (fun cdv A outer s H vs Q Q0 E hr h fin => ⟨t__law_draw K w, PSs.nox ((pss_cons (ps_set (i := 3) sc__law_draw.nd rfl (Or.inl rfl) (pe_tup (pa_cons pe_int (pa_cons pe_int (pa_cons pe_int (pa_cons pe_int (pa_cons pe_int (pa_cons pe_int (pa_cons pe_int (pa_cons pe_int (pa_cons pe_int (pa_cons pe_int (pa_cons pe_int (pa_cons pe_int (pa_cons pe_int (pa_cons pe_int (pa_cons pe_int (pa_cons pe_int pa_nil))))))))))))))))))
    (pss_one (ps_ret (pe_op op_mod (pe_op op_mod (pe_op op_add (pe_op op_mul (pv 0) pe_int) (pe_op op_mul (pv 1) pe_int)) (pe_ix ix_tup (pv 3) (pe_op op_mod (pv 1) pe_int) (fun _ _ => rfl))) (pv 2)))))), pure__law_draw  h fin⟩)
theorem ok__law_cell_at (T : Txt K mg base) : FnB P w K mg base CX0 1 ("_law_cell_at", none) ["_law_script", "_law_k"] (sp__law_cell_at K w) :=
  FnB.mk' T.d__law_cell_at sc__law_cell_at (fun _ _ _ _ _ _ us hl => match us, hl with | [_, _], _ => rfl) (fun vs H Q E h => by first | (obtain ⟨_, rfl, _⟩ := h; rfl) | (obtain ⟨_, _, rfl, _⟩ := h; rfl) | (obtain ⟨_, _, _, rfl, _⟩ := h; rfl) | (obtain ⟨_, _, _, _, rfl, _⟩ := h; rfl) | (obtain ⟨_, _, _, _, _, rfl, _⟩ := h; rfl) | (obtain ⟨_, _, _, _, _, _, rfl, _⟩ := h; rfl) | (obtain ⟨_, _, _, _, _, _, _, rfl, _⟩ := h; rfl) | (obtain ⟨_, _, _, _, _, _, _, _, rfl, _⟩ := h; rfl) | (obtain ⟨_, _, _, _, _, _, _, _, _, rfl, _⟩ := h; rfl) | (obtain ⟨_, _, _, _, _, _, _, _, _, _, rfl, _⟩ := h; rfl) | (obtain ⟨_, _, _, _, _, _, _, _, _, _, _, rfl, _⟩ := h; rfl) | (obtain ⟨_, _, _, _, _, _, _, _, _, _, _, _, rfl, _⟩ := h; rfl) | (obtain ⟨_, _, _, _, _, _, _, _, _, _, _, _, _, rfl, _⟩ := h; rfl) | (obtain ⟨_, _, _, _, _, _, _, _, _, _, _, _, _, _, rfl, _⟩ := h; rfl) | (obtain ⟨_, _, _, _, _, _, _, _, _, _, _, _, _, _, _, rfl, _⟩ := h; rfl) | (obtain ⟨_, _, _, _, _, _, _, _, _, _, _, _, _, _, _, _, rfl, _⟩ := h; rfl) | (obtain ⟨_, _, _, _, _, _, _, _, _, _, _, _, _, _, _, _, _, rfl, _⟩ := h; rfl) | (obtain ⟨_, _, _, _, _, _, _, _, _, _, _, _, _, _, _, _, _, _, rfl, _⟩ := h; rfl))
  (fun cdv A outer s H vs Q Q0 E hr h fin => ⟨t__law_cell_at K w, PSs.nox ((pss_cons (ps_if (pt_cmpR op_lt (pv 1) (pe_callB call_len_seq rfl T.f_len PySem.boot_len (pa_cons (pv 0) pa_nil)) (nomark _)) (pss_one (ps_ret (pe_ix ix_list (pv 0) (pv 1) (fun _ _ => rfl)))) pss_nil)
    (pss_one (ps_ret pe_int)))), pure__law_cell_at  h fin⟩)
theorem ok__law_requests (T : Txt K mg base) : FnB P w K mg base CX0 2 ("_law_requests", none) ["_law_script"] (sp__law_requests K w) :=
  FnB.mk' T.d__law_requests sc__law_requests (fun _ _ _ _ _ _ us hl => match us, hl with | [_], _ => rfl) (fun vs H Q E h => by first | (obtain ⟨_, rfl, _⟩ := h; rfl) | (obtain ⟨_, _, rfl, _⟩ := h; rfl) | (obtain ⟨_, _, _, rfl, _⟩ := h; rfl) | (obtain ⟨_, _, _, _, rfl, _⟩ := h; rfl) | (obtain ⟨_, _, _, _, _, rfl, _⟩ := h; rfl) | (obtain ⟨_, _, _, _, _, _, rfl, _⟩ := h; rfl) | (obtain ⟨_, _, _, _, _, _, _, rfl, _⟩ := h; rfl) | (obtain ⟨_, _, _, _, _, _, _, _, rfl, _⟩ := h; rfl) | (obtain ⟨_, _, _, _, _, _, _, _, _, rfl, _⟩ := h; rfl) | (obtain ⟨_, _, _, _, _, _, _, _, _, _, rfl, _⟩ := h; rfl) | (obtain ⟨_, _, _, _, _, _, _, _, _, _, _, rfl, _⟩ := h; rfl) | (obtain ⟨_, _, _, _, _, _, _, _, _, _, _, _, rfl, _⟩ := h; rfl) | (obtain ⟨_, _, _, _, _, _, _, _, _, _, _, _, _, rfl, _⟩ := h; rfl) | (obtain ⟨_, _, _, _, _, _, _, _, _, _, _, _, _, _, rfl, _⟩ := h; rfl) | (obtain ⟨_, _, _, _, _, _, _, _, _, _, _, _, _, _, _, rfl, _⟩ := h; rfl) | (obtain ⟨_, _, _, _, _, _, _, _, _, _, _, _, _, _, _, _, rfl, _⟩ := h; rfl) | (obtain ⟨_, _, _, _, _, _, _, _, _, _, _, _, _, _, _, _, _, rfl, _⟩ := h; rfl) | (obtain ⟨_, _, _, _, _, _, _, _, _, _, _, _, _, _, _, _, _, _, rfl, _⟩ := h; rfl))
  (fun cdv A outer s H vs Q Q0 E hr h fin => ⟨t__law_requests K w, PSs.nox ((pss_cons (ps_set (i := 1) sc__law_requests.nd rfl (Or.inl rfl) (pe_lst pa_nil))
    (pss_cons (ps_if (pt_cmpR op_eq (pe_op op_mod (pe_callB call_len_seq rfl T.f_len PySem.boot_len (pa_cons (pv 0) pa_nil)) pe_int) pe_int (nomark _)) (pss_cons (ps_for PassesOwn.never rfl (pi_range3 rfl T.f_range (pa_cons pe_int (pa_cons (pe_callB call_len_seq rfl T.f_len PySem.boot_len (pa_cons (pv 0) pa_nil)) (pa_cons pe_int pa_nil)))) (pg_name (i := 2) sc__law_requests.nd rfl (Or.inl rfl)) (pss_cons (ps_set (i := 3) sc__law_requests.nd rfl (Or.inl rfl) (pe_op op_mul (pe_op op_mod (pe_op op_fdiv (pe_ix ix_list (pv 0) (pv 2) (fun _ _ => rfl)) pe_int) (pe_op op_pow pe_int pe_int)) (pe_op op_sub pe_int (pe_op op_mul (pe_op op_mod (pe_ix ix_list (pv 0) (pv 2) (fun _ _ => rfl)) pe_int) pe_int))))
    (pss_one (ps_expr (pe_bm PySem.F.plainAttrs_list PySem.F.slot_list_append PySem.F.type_list_append mt_append (pv 1) (pa_cons (pe_tup (pa_cons (pv 3) (pa_cons (pe_op op_add (pv 3) (pe_op op_mod (pe_ix ix_list (pv 0) (pe_op op_add (pv 2) pe_int) (fun _ _ => rfl)) (pe_op op_pow pe_int pe_int))) (pa_cons (pe_op op_mod (pe_ix ix_list (pv 0) (pe_op op_add (pv 2) pe_int) (fun _ _ => rfl)) (pe_op op_pow pe_int pe_int)) pa_nil)))) pa_nil))))))
    (pss_one (ps_ret (pv 1)))) pss_nil)
    (pss_cons (ps_par (i := 4) (j := 5) rfl sc__law_requests.nd rfl rfl (by decide) rfl rfl (pa_cons (pe_callN (ok__law_draw T) T.g__law_draw (hr.mono (by decide)) pass0 (pa_cons (pe_callN (ok__law_cell_at T) T.g__law_cell_at (hr.mono (by decide)) pass0 (pa_cons (pv 0) (pa_cons pe_int pa_nil))) (pa_cons pe_int (pa_cons pe_int pa_nil)))) (pa_cons (pe_ix ix_tup (pe_tup (pa_cons pe_int (pa_cons pe_int (pa_cons (pe_op op_pow pe_int pe_int) (pa_cons pe_int pa_nil))))) (pe_callN (ok__law_draw T) T.g__law_draw (hr.mono (by decide)) pass0 (pa_cons (pe_callN (ok__law_cell_at T) T.g__law_cell_at (hr.mono (by decide)) pass0 (pa_cons (pv 0) (pa_cons pe_int pa_nil))) (pa_cons pe_int (pa_cons pe_int pa_nil)))) (fun _ _ => rfl)) pa_nil)) rfl)
    (pss_cons (ps_par (i := 6) (j := 7) rfl sc__law_requests.nd rfl rfl (by decide) rfl rfl (pa_cons (pe_ix ix_tup (pe_tup (pa_cons pe_int (pa_cons pe_int (pa_cons pe_int (pa_cons pe_int pa_nil))))) (pv 4) (fun _ _ => rfl)) (pa_cons (pe_ix ix_tup (pe_tup (pa_cons pe_int (pa_cons pe_int (pa_cons pe_int (pa_cons pe_int pa_nil))))) (pe_callN (ok__law_draw T) T.g__law_draw (hr.mono (by decide)) pass0 (pa_cons (pe_callN (ok__law_cell_at T) T.g__law_cell_at (hr.mono (by decide)) pass0 (pa_cons (pv 0) (pa_cons pe_int pa_nil))) (pa_cons pe_int (pa_cons pe_int pa_nil)))) (fun _ _ => rfl)) pa_nil)) rfl)
    (pss_cons (ps_set (i := 8) sc__law_requests.nd rfl (Or.inl rfl) (pe_ifExp (pt_cmpR op_eq (pe_callN (ok__law_draw T) T.g__law_draw (hr.mono (by decide)) pass0 (pa_cons (pe_callN (ok__law_cell_at T) T.g__law_cell_at (hr.mono (by decide)) pass0 (pa_cons (pv 0) (pa_cons pe_int pa_nil))) (pa_cons pe_int (pa_cons pe_int pa_nil)))) pe_int (nomark _)) pe_int pe_int))
    (pss_cons (ps_for PassesOwn.never rfl (pi_range1 rfl T.f_range (pa_cons (pe_op op_mul (pv 8) (pe_callB call_len_seq rfl T.f_len PySem.boot_len (pa_cons (pv 0) pa_nil))) pa_nil)) (pg_name (i := 2) sc__law_requests.nd rfl (Or.inl rfl)) (pss_cons (ps_set (i := 9) sc__law_requests.nd rfl (Or.inl rfl) (pe_op op_add (pe_ix ix_list (pv 0) (pe_op op_fdiv (pv 2) (pv 8)) (fun _ _ => rfl)) (pe_op op_mul pe_int (pe_op op_mod (pv 2) (pv 8)))))
    (pss_cons (ps_set (i := 3) sc__law_requests.nd rfl (Or.inl rfl) (pe_op op_sub (pe_callN (ok__law_draw T) T.g__law_draw (hr.mono (by decide)) pass0 (pa_cons (pv 9) (pa_cons (pe_op op_add (pe_op op_mod (pv 2) pe_int) pe_int) (pa_cons (pe_op op_add (pv 6) (pe_op op_mod (pv 2) pe_int)) pa_nil)))) (pe_op op_fdiv (pv 6) pe_int)))
    (pss_cons (ps_set (i := 10) sc__law_requests.nd rfl (Or.inl rfl) (pe_op op_add (pv 3) (pe_callN (ok__law_draw T) T.g__law_draw (hr.mono (by decide)) pass0 (pa_cons (pv 9) (pa_cons (pe_op op_add (pe_op op_mod (pv 2) pe_int) pe_int) (pa_cons (pe_ix ix_tup (pe_tup (pa_cons pe_int (pa_cons pe_int (pa_cons pe_int (pa_cons pe_int pa_nil))))) (pv 4) (fun _ _ => rfl)) pa_nil))))))
    (pss_one (ps_expr (pe_bm PySem.F.plainAttrs_list PySem.F.slot_list_append PySem.F.type_list_append mt_append (pv 1) (pa_cons (pe_tup (pa_cons (pe_op op_mul (pv 3) (pv 5)) (pa_cons (pe_op op_mul (pv 10) (pv 5)) (pa_cons (pe_callN (ok__law_draw T) T.g__law_draw (hr.mono (by decide)) pass0 (pa_cons (pv 9) (pa_cons (pe_op op_add (pe_op op_mod (pv 2) pe_int) pe_int) (pa_cons (pv 7) pa_nil)))) pa_nil)))) pa_nil))))))))
    (pss_one (ps_ret (pv 1)))))))))), pure__law_requests  h fin⟩)
theorem ok_is_whole (T : Txt K mg base) : FnB P w K mg base CX0 1 ("is_whole", none) ["thing"] (sp_is_whole K w) :=
  FnB.mk' T.d_is_whole sc_is_whole (fun _ _ _ _ _ _ us hl => match us, hl with | [_], _ => rfl) (fun vs H Q E h => by first | (obtain ⟨_, rfl, _⟩ := h; rfl) | (obtain ⟨_, _, rfl, _⟩ := h; rfl) | (obtain ⟨_, _, _, rfl, _⟩ := h; rfl) | (obtain ⟨_, _, _, _, rfl, _⟩ := h; rfl) | (obtain ⟨_, _, _, _, _, rfl, _⟩ := h; rfl) | (obtain ⟨_, _, _, _, _, _, rfl, _⟩ := h; rfl) | (obtain ⟨_, _, _, _, _, _, _, rfl, _⟩ := h; rfl) | (obtain ⟨_, _, _, _, _, _, _, _, rfl, _⟩ := h; rfl) | (obtain ⟨_, _, _, _, _, _, _, _, _, rfl, _⟩ := h; rfl) | (obtain ⟨_, _, _, _, _, _, _, _, _, _, rfl, _⟩ := h; rfl) | (obtain ⟨_, _, _, _, _, _, _, _, _, _, _, rfl, _⟩ := h; rfl) | (obtain ⟨_, _, _, _, _, _, _, _, _, _, _, _, rfl, _⟩ := h; rfl) | (obtain ⟨_, _, _, _, _, _, _, _, _, _, _, _, _, rfl, _⟩ := h; rfl) | (obtain ⟨_, _, _, _, _, _, _, _, _, _, _, _, _, _, rfl, _⟩ := h; rfl) | (obtain ⟨_, _, _, _, _, _, _, _, _, _, _, _, _, _, _, rfl, _⟩ := h; rfl) | (obtain ⟨_, _, _, _, _, _, _, _, _, _, _, _, _, _, _, _, rfl, _⟩ := h; rfl) | (obtain ⟨_, _, _, _, _, _, _, _, _, _, _, _, _, _, _, _, _, rfl, _⟩ := h; rfl) | (obtain ⟨_, _, _, _, _, _, _, _, _, _, _, _, _, _, _, _, _, _, rfl, _⟩ := h; rfl))
  (fun cdv A outer s H vs Q Q0 E hr h fin => ⟨t_is_whole K w, PSs.nox ((pss_one (ps_ret (pe_and (pe_callB call_isi rfl T.f_isinstance (by decide +kernel) (pa_cons (pv 0) (pa_cons (pe_bltn rfl T.f_int (by decide +kernel) rfl) pa_nil))) (pe_one (pe_not (pe_callB call_isi rfl T.f_isinstance (by decide +kernel) (pa_cons (pv 0) (pa_cons (pe_bltn rfl T.f_bool (by decide +kernel) rfl) pa_nil))))))))), pure_is_whole  h fin⟩)
theorem ok_is_request (T : Txt K mg base) : FnB P w K mg base CX0 2 ("is_request", none) ["thing"] (sp_is_request K w) :=
  FnB.mk' T.d_is_request sc_is_request (fun _ _ _ _ _ _ us hl => match us, hl with | [_], _ => rfl) (fun vs H Q E h => by first | (obtain ⟨_, rfl, _⟩ := h; rfl) | (obtain ⟨_, _, rfl, _⟩ := h; rfl) | (obtain ⟨_, _, _, rfl, _⟩ := h; rfl) | (obtain ⟨_, _, _, _, rfl, _⟩ := h; rfl) | (obtain ⟨_, _, _, _, _, rfl, _⟩ := h; rfl) | (obtain ⟨_, _, _, _, _, _, rfl, _⟩ := h; rfl) | (obtain ⟨_, _, _, _, _, _, _, rfl, _⟩ := h; rfl) | (obtain ⟨_, _, _, _, _, _, _, _, rfl, _⟩ := h; rfl) | (obtain ⟨_, _, _, _, _, _, _, _, _, rfl, _⟩ := h; rfl) | (obtain ⟨_, _, _, _, _, _, _, _, _, _, rfl, _⟩ := h; rfl) | (obtain ⟨_, _, _, _, _, _, _, _, _, _, _, rfl, _⟩ := h; rfl) | (obtain ⟨_, _, _, _, _, _, _, _, _, _, _, _, rfl, _⟩ := h; rfl) | (obtain ⟨_, _, _, _, _, _, _, _, _, _, _, _, _, rfl, _⟩ := h; rfl) | (obtain ⟨_, _, _, _, _, _, _, _, _, _, _, _, _, _, rfl, _⟩ := h; rfl) | (obtain ⟨_, _, _, _, _, _, _, _, _, _, _, _, _, _, _, rfl, _⟩ := h; rfl) | (obtain ⟨_, _, _, _, _, _, _, _, _, _, _, _, _, _, _, _, rfl, _⟩ := h; rfl) | (obtain ⟨_, _, _, _, _, _, _, _, _, _, _, _, _, _, _, _, _, rfl, _⟩ := h; rfl) | (obtain ⟨_, _, _, _, _, _, _, _, _, _, _, _, _, _, _, _, _, _, rfl, _⟩ := h; rfl))
  (fun cdv A outer s H vs Q Q0 E hr h fin => ⟨t_is_request K w, PSs.nox ((pss_cons (ps_if (PW.pt (pw_or (pt_not (pt_val (pe_callB call_isi rfl T.f_isinstance (by decide +kernel) (pa_cons (pv 0) (pa_cons (pe_bltn rfl T.f_tuple (by decide +kernel) rfl) pa_nil))))) (pw_or (pt_cmpR op_ne (pe_callB call_len_seq rfl T.f_len PySem.boot_len (pa_cons (pv 0) pa_nil)) pe_int (nomark _)) (pw_or1 (pt_not (pt_val (pe_callB (cr_all rfl) rfl T.f_all (by decide +kernel) (pa_cons (pe_lc (own := [("one", 1)]) (g := (gName 1)) (tt := tYes) rfl sc_is_request.nd (pi_tup (pv 0)) (blkOk_by (N := ["thing", "one"]) (sc := defScope s_is_request) (by decide +kernel)) (fun _ _ _ _ _ => (pg_name (i := 1) sc_is_request.nd rfl (Or.inl rfl))) (fun _ _ _ _ _ => pts_nil) (fun _ _ _ _ _ => (pe_callN (ok_is_whole T) T.g_is_whole (hr.mono (by decide)) pass0 (pa_cons (pv 1) pa_nil)))) pa_nil)))))))) (pss_one (ps_ret pe_bl)) pss_nil)
    (pss_one (ps_ret (pe_and (pe_cmpR op_le (pe_ix ix_tup (pv 0) pe_int (fun _ _ => rfl)) (pe_ix ix_tup (pv 0) pe_int (fun _ _ => rfl)) (nomark _)) (pe_one (pe_cmpR op_ge (pe_ix ix_tup (pv 0) pe_int (fun _ _ => rfl)) pe_int (nomark _)))))))), pure_is_request  h fin⟩)
theorem ok_check_requests (T : Txt K mg base) : FnB P w K mg base CX0 3 ("check_requests", none) ["requests"] (sp_check_requests K w) :=
  FnB.mk' T.d_check_requests sc_check_requests (fun _ _ _ _ _ _ us hl => match us, hl with | [_], _ => rfl) (fun vs H Q E h => by first | (obtain ⟨_, rfl, _⟩ := h; rfl) | (obtain ⟨_, _, rfl, _⟩ := h; rfl) | (obtain ⟨_, _, _, rfl, _⟩ := h; rfl) | (obtain ⟨_, _, _, _, rfl, _⟩ := h; rfl) | (obtain ⟨_, _, _, _, _, rfl, _⟩ := h; rfl) | (obtain ⟨_, _, _, _, _, _, rfl, _⟩ := h; rfl) | (obtain ⟨_, _, _, _, _, _, _, rfl, _⟩ := h; rfl) | (obtain ⟨_, _, _, _, _, _, _, _, rfl, _⟩ := h; rfl) | (obtain ⟨_, _, _, _, _, _, _, _, _, rfl, _⟩ := h; rfl) | (obtain ⟨_, _, _, _, _, _, _, _, _, _, rfl, _⟩ := h; rfl) | (obtain ⟨_, _, _, _, _, _, _, _, _, _, _, rfl, _⟩ := h; rfl) | (obtain ⟨_, _, _, _, _, _, _, _, _, _, _, _, rfl, _⟩ := h; rfl) | (obtain ⟨_, _, _, _, _, _, _, _, _, _, _, _, _, rfl, _⟩ := h; rfl) | (obtain ⟨_, _, _, _, _, _, _, _, _, _, _, _, _, _, rfl, _⟩ := h; rfl) | (obtain ⟨_, _, _, _, _, _, _, _, _, _, _, _, _, _, _, rfl, _⟩ := h; rfl) | (obtain ⟨_, _, _, _, _, _, _, _, _, _, _, _, _, _, _, _, rfl, _⟩ := h; rfl) | (obtain ⟨_, _, _, _, _, _, _, _, _, _, _, _, _, _, _, _, _, rfl, _⟩ := h; rfl) | (obtain ⟨_, _, _, _, _, _, _, _, _, _, _, _, _, _, _, _, _, _, rfl, _⟩ := h; rfl))
  (fun cdv A outer s H vs Q Q0 E hr h fin => ⟨t_check_requests K w, PSs.nox ((pss_one (ps_if (PW.pt (pw_or (pt_not (pt_val (pe_callB call_isi rfl T.f_isinstance (by decide +kernel) (pa_cons (pv 0) (pa_cons (pe_bltn rfl T.f_list (by decide +kernel) rfl) pa_nil))))) (pw_or1 (pt_not (pt_val (pe_callB (cr_all rfl) rfl T.f_all (by decide +kernel) (pa_cons (pe_lc (own := [("request", 1)]) (g := (gName 1)) (tt := tYes) rfl sc_check_requests.nd (pi_list (pv 0)) (blkOk_by (N := ["requests", "request"]) (sc := defScope s_check_requests) (by decide +kernel)) (fun _ _ _ _ _ => (pg_name (i := 1) sc_check_requests.nd rfl (Or.inl rfl))) (fun _ _ _ _ _ => pts_nil) (fun _ _ _ _ _ => (pe_callN (ok_is_request T) T.g_is_request (hr.mono (by decide)) pass0 (pa_cons (pv 1) pa_nil)))) pa_nil))))))) (pss_one ps_never) pss_nil))), pure_check_requests  h fin⟩)
theorem ok_check_rooms (T : Txt K mg base) : FnB P w K mg base CX0 2 ("check_rooms", none) ["rooms", "least"] (sp_check_rooms K w) :=
  FnB.mk' T.d_check_rooms sc_check_rooms (fun _ _ _ _ _ _ us hl => match us, hl with | [_, _], _ => rfl) (fun vs H Q E h => by first | (obtain ⟨_, rfl, _⟩ := h; rfl) | (obtain ⟨_, _, rfl, _⟩ := h; rfl) | (obtain ⟨_, _, _, rfl, _⟩ := h; rfl) | (obtain ⟨_, _, _, _, rfl, _⟩ := h; rfl) | (obtain ⟨_, _, _, _, _, rfl, _⟩ := h; rfl) | (obtain ⟨_, _, _, _, _, _, rfl, _⟩ := h; rfl) | (obtain ⟨_, _, _, _, _, _, _, rfl, _⟩ := h; rfl) | (obtain ⟨_, _, _, _, _, _, _, _, rfl, _⟩ := h; rfl) | (obtain ⟨_, _, _, _, _, _, _, _, _, rfl, _⟩ := h; rfl) | (obtain ⟨_, _, _, _, _, _, _, _, _, _, rfl, _⟩ := h; rfl) | (obtain ⟨_, _, _, _, _, _, _, _, _, _, _, rfl, _⟩ := h; rfl) | (obtain ⟨_, _, _, _, _, _, _, _, _, _, _, _, rfl, _⟩ := h; rfl) | (obtain ⟨_, _, _, _, _, _, _, _, _, _, _, _, _, rfl, _⟩ := h; rfl) | (obtain ⟨_, _, _, _, _, _, _, _, _, _, _, _, _, _, rfl, _⟩ := h; rfl) | (obtain ⟨_, _, _, _, _, _, _, _, _, _, _, _, _, _, _, rfl, _⟩ := h; rfl) | (obtain ⟨_, _, _, _, _, _, _, _, _, _, _, _, _, _, _, _, rfl, _⟩ := h; rfl) | (obtain ⟨_, _, _, _, _, _, _, _, _, _, _, _, _, _, _, _, _, rfl, _⟩ := h; rfl) | (obtain ⟨_, _, _, _, _, _, _, _, _, _, _, _, _, _, _, _, _, _, rfl, _⟩ := h; rfl))
  (fun cdv A outer s H vs Q Q0 E hr h fin => ⟨t_check_rooms K w, PSs.nox ((pss_one (ps_if (PW.pt (pw_or (pt_not (pt_val (pe_callN (ok_is_whole T) T.g_is_whole (hr.mono (by decide)) pass0 (pa_cons (pv 0) pa_nil)))) (pw_or1 (pt_cmpR op_lt (pv 0) (pv 1) (nomark _))))) (pss_one ps_never) pss_nil))), pure_check_rooms  h fin⟩)
theorem ok_Ways_steps (T : Txt K mg base) : FnB P w K mg base CX0 1 ("Ways", some "steps") ["self"] (sp_Ways_steps K w) :=
  FnB.mk' T.d_Ways_steps sc_Ways_steps (fun _ _ _ _ _ _ us hl => match us, hl with | [_], _ => rfl) (fun vs H Q E h => by first | (obtain ⟨_, rfl, _⟩ := h; rfl) | (obtain ⟨_, _, rfl, _⟩ := h; rfl) | (obtain ⟨_, _, _, rfl, _⟩ := h; rfl) | (obtain ⟨_, _, _, _, rfl, _⟩ := h; rfl) | (obtain ⟨_, _, _, _, _, rfl, _⟩ := h; rfl) | (obtain ⟨_, _, _, _, _, _, rfl, _⟩ := h; rfl) | (obtain ⟨_, _, _, _, _, _, _, rfl, _⟩ := h; rfl) | (obtain ⟨_, _, _, _, _, _, _, _, rfl, _⟩ := h; rfl) | (obtain ⟨_, _, _, _, _, _, _, _, _, rfl, _⟩ := h; rfl) | (obtain ⟨_, _, _, _, _, _, _, _, _, _, rfl, _⟩ := h; rfl) | (obtain ⟨_, _, _, _, _, _, _, _, _, _, _, rfl, _⟩ := h; rfl) | (obtain ⟨_, _, _, _, _, _, _, _, _, _, _, _, rfl, _⟩ := h; rfl) | (obtain ⟨_, _, _, _, _, _, _, _, _, _, _, _, _, rfl, _⟩ := h; rfl) | (obtain ⟨_, _, _, _, _, _, _, _, _, _, _, _, _, _, rfl, _⟩ := h; rfl) | (obtain ⟨_, _, _, _, _, _, _, _, _, _, _, _, _, _, _, rfl, _⟩ := h; rfl) | (obtain ⟨_, _, _, _, _, _, _, _, _, _, _, _, _, _, _, _, rfl, _⟩ := h; rfl) | (obtain ⟨_, _, _, _, _, _, _, _, _, _, _, _, _, _, _, _, _, rfl, _⟩ := h; rfl) | (obtain ⟨_, _, _, _, _, _, _, _, _, _, _, _, _, _, _, _, _, _, rfl, _⟩ := h; rfl))
  (fun cdv A outer s H vs Q Q0 E hr h fin => ⟨t_Ways_steps K w, PSs.nox ((pss_cons (ps_set (i := 1) sc_Ways_steps.nd rfl (Or.inl rfl) (pe_lst pa_nil))
    (pss_cons (ps_set (i := 2) sc_Ways_steps.nd rfl (Or.inl rfl) (pe_lst pa_nil))
    (pss_cons (ps_for PassesOwn.never rfl (pi_range1 rfl T.f_range (pa_cons (pe_callB call_len_seq rfl T.f_len PySem.boot_len (pa_cons (pe_fld (pv 0) rfl) pa_nil)) pa_nil)) (pg_name (i := 3) sc_Ways_steps.nd rfl (Or.inl rfl)) (pss_cons (ps_expr (pe_bm PySem.F.plainAttrs_list PySem.F.slot_list_append PySem.F.type_list_append mt_append (pv 1) (pa_cons (pe_tup (pa_cons (pv 3) (pa_cons (pe_op op_add (pv 3) pe_int) (pa_cons pe_int (pa_cons (pe_tup (pa_cons pe_int (pa_cons (pv 3) pa_nil))) pa_nil))))) pa_nil)))
    (pss_one (ps_if (pt_cmpR op_gt (pe_ix ix_list (pe_fld (pv 0) rfl) (pv 3) (fun _ _ => rfl)) pe_int (nomark _)) (pss_one (ps_expr (pe_bm PySem.F.plainAttrs_list PySem.F.slot_list_append PySem.F.type_list_append mt_append (pv 2) (pa_cons (pe_tup (pa_cons (pe_op op_add (pv 3) pe_int) (pa_cons (pv 3) (pa_cons pe_int (pa_cons (pe_tup (pa_cons pe_int (pa_cons (pv 3) pa_nil))) pa_nil))))) pa_nil)))) pss_nil))))
    (pss_cons (ps_for PassesOwn.never rfl (pi_enum rfl T.f_enumerate (pa_cons (pe_fld (pv 0) rfl) pa_nil)) (pg_tup rfl (pgs_cons (pg_name (i := 3) sc_Ways_steps.nd rfl (Or.inl rfl)) (pgs_cons (pg_name (i := 4) sc_Ways_steps.nd rfl (Or.inl rfl)) pgs_nil))) (pss_cons (ps_asg (pv 4) (pg_tup rfl (pgs_cons (pg_name (i := 5) sc_Ways_steps.nd rfl (Or.inl rfl)) (pgs_cons (pg_name (i := 6) sc_Ways_steps.nd rfl (Or.inl rfl)) (pgs_cons (pg_name (i := 7) sc_Ways_steps.nd rfl (Or.inl rfl)) pgs_nil)))))
    (pss_one (ps_if (pt_val (pe_ix ix_list (pe_fld (pv 0) rfl) (pv 3) (fun _ _ => rfl))) (pss_one (ps_expr (pe_bm PySem.F.plainAttrs_list PySem.F.slot_list_append PySem.F.type_list_append mt_append (pv 2) (pa_cons (pe_tup (pa_cons (pv 6) (pa_cons (pv 5) (pa_cons (pe_un un_neg (pv 7)) (pa_cons (pe_tup (pa_cons pe_int (pa_cons (pv 3) pa_nil))) pa_nil))))) pa_nil)))) (pss_one (ps_expr (pe_bm PySem.F.plainAttrs_list PySem.F.slot_list_append PySem.F.type_list_append mt_append (pv 1) (pa_cons (pe_tup (pa_cons (pv 5) (pa_cons (pv 6) (pa_cons (pv 7) (pa_cons (pe_tup (pa_cons pe_int (pa_cons (pv 3) pa_nil))) pa_nil))))) pa_nil))))))))
    (pss_one (ps_ret (pe_op op_cat (pe_callB (cr_sortedD hr.units) rfl T.f_sorted (by decide +kernel) (pa_cons (pv 1) pa_nil)) (pe_revL (pe_callB (cr_sortedD hr.units) rfl T.f_sorted (by decide +kernel) (pa_cons (pv 2) pa_nil))))))))))), pure_Ways_steps (⟨T.c_Ways, T.n_Ways_days, T.n_Ways_ends, T.n_Ways_taken, T.n_Ways_idle⟩ : WaysC K) h fin⟩)
theorem ok_Ways_most (T : Txt K mg base) : FnB P w K mg base CX0 2 ("Ways", some "most") ["self"] (sp_Ways_most K w) :=
  FnB.mk' T.d_Ways_most sc_Ways_most (fun _ _ _ _ _ _ us hl => match us, hl with | [_], _ => rfl) (fun vs H Q E h => by first | (obtain ⟨_, rfl, _⟩ := h; rfl) | (obtain ⟨_, _, rfl, _⟩ := h; rfl) | (obtain ⟨_, _, _, rfl, _⟩ := h; rfl) | (obtain ⟨_, _, _, _, rfl, _⟩ := h; rfl) | (obtain ⟨_, _, _, _, _, rfl, _⟩ := h; rfl) | (obtain ⟨_, _, _, _, _, _, rfl, _⟩ := h; rfl) | (obtain ⟨_, _, _, _, _, _, _, rfl, _⟩ := h; rfl) | (obtain ⟨_, _, _, _, _, _, _, _, rfl, _⟩ := h; rfl) | (obtain ⟨_, _, _, _, _, _, _, _, _, rfl, _⟩ := h; rfl) | (obtain ⟨_, _, _, _, _, _, _, _, _, _, rfl, _⟩ := h; rfl) | (obtain ⟨_, _, _, _, _, _, _, _, _, _, _, rfl, _⟩ := h; rfl) | (obtain ⟨_, _, _, _, _, _, _, _, _, _, _, _, rfl, _⟩ := h; rfl) | (obtain ⟨_, _, _, _, _, _, _, _, _, _, _, _, _, rfl, _⟩ := h; rfl) | (obtain ⟨_, _, _, _, _, _, _, _, _, _, _, _, _, _, rfl, _⟩ := h; rfl) | (obtain ⟨_, _, _, _, _, _, _, _, _, _, _, _, _, _, _, rfl, _⟩ := h; rfl) | (obtain ⟨_, _, _, _, _, _, _, _, _, _, _, _, _, _, _, _, rfl, _⟩ := h; rfl) | (obtain ⟨_, _, _, _, _, _, _, _, _, _, _, _, _, _, _, _, _, rfl, _⟩ := h; rfl) | (obtain ⟨_, _, _, _, _, _, _, _, _, _, _, _, _, _, _, _, _, _, rfl, _⟩ := h; rfl))
  (fun cdv A outer s H vs Q Q0 E hr h fin => ⟨t_Ways_most K w, PSs.nox ((pss_cons (ps_set (i := 1) sc_Ways_most.nd rfl (Or.inl rfl) (pe_methN0 (pv 0) T.c_Ways T.m_Ways_steps (ok_Ways_steps T) (hr.mono (by decide)) pass0))
    (pss_cons (ps_setLc (i := 2) (own := [("day", 10)]) (g := (gName 10)) (tt := tYes) rfl sc_Ways_most.nd rfl rfl (sw_true rfl rfl rfl (by decide +kernel)) (pi_list (pe_fld (pv 0) rfl)) (blkOk_by (N := ["self", "steps", "brought", "came", "moved", "step", "start", "end", "more", "which", "day"]) (sc := defScope s_Ways_most) (by decide +kernel)) (fun _ _ _ _ _ => (pg_name (i := 10) sc_Ways_most.nd rfl (Or.inl rfl))) (fun _ _ _ _ _ => pts_nil) (fun _ _ _ _ _ => pe_non))
    (pss_cons (ps_asg pe_int (pg_sub (pv 2) pe_int set_list))
    (pss_cons (ps_setLc (i := 3) (own := [("day", 10)]) (g := (gName 10)) (tt := tYes) rfl sc_Ways_most.nd rfl rfl (sw_true rfl rfl rfl (by decide +kernel)) (pi_list (pe_fld (pv 0) rfl)) (blkOk_by (N := ["self", "steps", "brought", "came", "moved", "step", "start", "end", "more", "which", "day"]) (sc := defScope s_Ways_most) (by decide +kernel)) (fun _ _ _ _ _ => (pg_name (i := 10) sc_Ways_most.nd rfl (Or.inl rfl))) (fun _ _ _ _ _ => pts_nil) (fun _ _ _ _ _ => pe_non))
    (pss_cons (ps_set (i := 4) sc_Ways_most.nd rfl (Or.inl rfl) pe_bl)
    (pss_cons (ps_while PassesOwn.never (pt_val (pv 4)) (pss_cons (ps_set (i := 4) sc_Ways_most.nd rfl (Or.inl rfl) pe_bl)
    (pss_one (ps_for PassesOwn.never rfl (pi_list (pv 1)) (pg_name (i := 5) sc_Ways_most.nd rfl (Or.inl rfl)) (pss_cons (ps_asg (pv 5) (pg_tup rfl (pgs_cons (pg_name (i := 6) sc_Ways_most.nd rfl (Or.inl rfl)) (pgs_cons (pg_name (i := 7) sc_Ways_most.nd rfl (Or.inl rfl)) (pgs_cons (pg_name (i := 8) sc_Ways_most.nd rfl (Or.inl rfl)) (pgs_cons (pg_name (i := 9) sc_Ways_most.nd rfl (Or.inl rfl)) pgs_nil))))))
    (pss_one (ps_if (PW.pt (pw_and (pt_cmp (pc_notN (pe_ix ix_list (pv 2) (pv 6) (fun _ _ => rfl)))) (pw_and1 (PW.pt (pw_or (pt_cmp (pc_isN (pe_ix ix_list (pv 2) (pv 7) (fun _ _ => rfl)))) (pw_or1 (pt_cmpR op_gt (pe_op op_add (pe_ix ix_list (pv 2) (pv 6) (fun _ _ => rfl)) (pv 8)) (pe_ix ix_list (pv 2) (pv 7) (fun _ _ => rfl)) (nomark _)))))))) (pss_cons (ps_asg (pe_op op_add (pe_ix ix_list (pv 2) (pv 6) (fun _ _ => rfl)) (pv 8)) (pg_sub (pv 2) (pv 7) set_list))
    (pss_cons (ps_asg (pv 5) (pg_sub (pv 3) (pv 7) set_list))
    (pss_one (ps_set (i := 4) sc_Ways_most.nd rfl (Or.inl rfl) pe_bl)))) pss_nil)))))))
    (pss_one (ps_ret (pe_tup (pa_cons (pv 2) (pa_cons (pv 3) pa_nil)))))))))))), pure_Ways_most (⟨T.c_Ways, T.n_Ways_days, T.n_Ways_ends, T.n_Ways_taken, T.n_Ways_idle⟩ : WaysC K) h fin⟩)
theorem ok_Ways_lead (T : Txt K mg base) : FnB P w K mg base CX0 3 ("Ways", some "lead") ["self"] (sp_Ways_lead K w) :=
  FnB.mk' T.d_Ways_lead sc_Ways_lead (fun _ _ _ _ _ _ us hl => match us, hl with | [_], _ => rfl) (fun vs H Q E h => by first | (obtain ⟨_, rfl, _⟩ := h; rfl) | (obtain ⟨_, _, rfl, _⟩ := h; rfl) | (obtain ⟨_, _, _, rfl, _⟩ := h; rfl) | (obtain ⟨_, _, _, _, rfl, _⟩ := h; rfl) | (obtain ⟨_, _, _, _, _, rfl, _⟩ := h; rfl) | (obtain ⟨_, _, _, _, _, _, rfl, _⟩ := h; rfl) | (obtain ⟨_, _, _, _, _, _, _, rfl, _⟩ := h; rfl) | (obtain ⟨_, _, _, _, _, _, _, _, rfl, _⟩ := h; rfl) | (obtain ⟨_, _, _, _, _, _, _, _, _, rfl, _⟩ := h; rfl) | (obtain ⟨_, _, _, _, _, _, _, _, _, _, rfl, _⟩ := h; rfl) | (obtain ⟨_, _, _, _, _, _, _, _, _, _, _, rfl, _⟩ := h; rfl) | (obtain ⟨_, _, _, _, _, _, _, _, _, _, _, _, rfl, _⟩ := h; rfl) | (obtain ⟨_, _, _, _, _, _, _, _, _, _, _, _, _, rfl, _⟩ := h; rfl) | (obtain ⟨_, _, _, _, _, _, _, _, _, _, _, _, _, _, rfl, _⟩ := h; rfl) | (obtain ⟨_, _, _, _, _, _, _, _, _, _, _, _, _, _, _, rfl, _⟩ := h; rfl) | (obtain ⟨_, _, _, _, _, _, _, _, _, _, _, _, _, _, _, _, rfl, _⟩ := h; rfl) | (obtain ⟨_, _, _, _, _, _, _, _, _, _, _, _, _, _, _, _, _, rfl, _⟩ := h; rfl) | (obtain ⟨_, _, _, _, _, _, _, _, _, _, _, _, _, _, _, _, _, _, rfl, _⟩ := h; rfl))
  (fun cdv A outer s H vs Q Q0 E hr h fin => ⟨t_Ways_lead K w, PSs.nox ((pss_cons (ps_asg (pe_methN0 (pv 0) T.c_Ways T.m_Ways_most (ok_Ways_most T) (hr.mono (by decide)) pass0) (pg_tup rfl (pgs_cons (pg_name (i := 1) sc_Ways_lead.nd rfl (Or.inl rfl)) (pgs_cons (pg_name (i := 2) sc_Ways_lead.nd rfl (Or.inl rfl)) pgs_nil))))
    (pss_cons (ps_set (i := 3) sc_Ways_lead.nd rfl (Or.inl rfl) (pe_op op_sub (pe_callB call_len_seq rfl T.f_len PySem.boot_len (pa_cons (pe_fld (pv 0) rfl) pa_nil)) pe_int))
    (pss_one (ps_while PassesOwn.never (pt_cmpR op_gt (pv 3) pe_int (nomark _)) (pss_cons (ps_asg (pe_ix ix_list (pv 2) (pv 3) (fun _ _ => rfl)) (pg_tup rfl (pgs_cons (pg_name (i := 4) sc_Ways_lead.nd rfl (Or.inl rfl)) (pgs_cons (pg_name (i := 5) sc_Ways_lead.nd rfl (Or.inl rfl)) (pgs_cons (pg_name (i := 6) sc_Ways_lead.nd rfl (Or.inl rfl)) (pgs_cons (pg_name (i := 7) sc_Ways_lead.nd rfl (Or.inl rfl)) pgs_nil))))))
    (pss_cons (ps_asg (pv 7) (pg_tup rfl (pgs_cons (pg_name (i := 8) sc_Ways_lead.nd rfl (Or.inl rfl)) (pgs_cons (pg_name (i := 9) sc_Ways_lead.nd rfl (Or.inl rfl)) pgs_nil))))
    (pss_cons (ps_if (pt_cmpR op_lt (pv 8) pe_int (nomark _)) (pss_one (ps_augS (pe_fld (pv 0) rfl) (pv 9) pget_list (pe_op op_sub pe_int (pe_op op_mul pe_int (pv 8))) ip_add set_list)) (pss_one (ps_asg (pe_cmpR op_eq (pv 8) pe_int (nomark _)) (pg_sub (pe_fld (pv 0) rfl) (pv 9) set_list))))
    (pss_one (ps_set (i := 3) sc_Ways_lead.nd rfl (Or.inl rfl) (pv 4))))))))))), pure_Ways_lead (⟨T.c_Ways, T.n_Ways_days, T.n_Ways_ends, T.n_Ways_taken, T.n_Ways_idle⟩ : WaysC K) h fin⟩)
theorem ok_Ways___init__ (T : Txt K mg base) : FnB P w K mg base CX0 4 ("Ways", some "__init__") ["self", "requests", "rooms"] (sp_Ways___init__ K w) :=
  FnB.mk' T.d_Ways___init__ sc_Ways___init__ (fun _ _ _ _ _ _ us hl => match us, hl with | [_, _, _], _ => rfl) (fun vs H Q E h => by first | (obtain ⟨_, rfl, _⟩ := h; rfl) | (obtain ⟨_, _, rfl, _⟩ := h; rfl) | (obtain ⟨_, _, _, rfl, _⟩ := h; rfl) | (obtain ⟨_, _, _, _, rfl, _⟩ := h; rfl) | (obtain ⟨_, _, _, _, _, rfl, _⟩ := h; rfl) | (obtain ⟨_, _, _, _, _, _, rfl, _⟩ := h; rfl) | (obtain ⟨_, _, _, _, _, _, _, rfl, _⟩ := h; rfl) | (obtain ⟨_, _, _, _, _, _, _, _, rfl, _⟩ := h; rfl) | (obtain ⟨_, _, _, _, _, _, _, _, _, rfl, _⟩ := h; rfl) | (obtain ⟨_, _, _, _, _, _, _, _, _, _, rfl, _⟩ := h; rfl) | (obtain ⟨_, _, _, _, _, _, _, _, _, _, _, rfl, _⟩ := h; rfl) | (obtain ⟨_, _, _, _, _, _, _, _, _, _, _, _, rfl, _⟩ := h; rfl) | (obtain ⟨_, _, _, _, _, _, _, _, _, _, _, _, _, rfl, _⟩ := h; rfl) | (obtain ⟨_, _, _, _, _, _, _, _, _, _, _, _, _, _, rfl, _⟩ := h; rfl) | (obtain ⟨_, _, _, _, _, _, _, _, _, _, _, _, _, _, _, rfl, _⟩ := h; rfl) | (obtain ⟨_, _, _, _, _, _, _, _, _, _, _, _, _, _, _, _, rfl, _⟩ := h; rfl) | (obtain ⟨_, _, _, _, _, _, _, _, _, _, _, _, _, _, _, _, _, rfl, _⟩ := h; rfl) | (obtain ⟨_, _, _, _, _, _, _, _, _, _, _, _, _, _, _, _, _, _, rfl, _⟩ := h; rfl))
  (fun cdv A outer s H vs Q Q0 E hr h fin => ⟨t_Ways___init__ K w, PSs.nox ((pss_cons (ps_set (i := 3) sc_Ways___init__.nd rfl (Or.inl rfl) (pe_op op_cat (pe_lc (own := [("request", 8)]) (g := (gName 8)) (tt := tYes) rfl sc_Ways___init__.nd (pi_list (pv 1)) (blkOk_by (N := ["self", "requests", "rooms", "marks", "room", "first", "last", "price", "request", "day", "more"]) (sc := defScope s_Ways___init__) (by decide +kernel)) (fun _ _ _ _ _ => (pg_name (i := 8) sc_Ways___init__.nd rfl (Or.inl rfl))) (fun _ _ _ _ _ => pts_nil) (fun _ _ _ _ _ => (pe_ix ix_tup (pv 8) pe_int (fun _ _ => rfl)))) (pe_lc (own := [("request", 8)]) (g := (gName 8)) (tt := tYes) rfl sc_Ways___init__.nd (pi_list (pv 1)) (blkOk_by (N := ["self", "requests", "rooms", "marks", "room", "first", "last", "price", "request", "day", "more"]) (sc := defScope s_Ways___init__) (by decide +kernel)) (fun _ _ _ _ _ => (pg_name (i := 8) sc_Ways___init__.nd rfl (Or.inl rfl))) (fun _ _ _ _ _ => pts_nil) (fun _ _ _ _ _ => (pe_op op_add (pe_ix ix_tup (pv 8) pe_int (fun _ _ => rfl)) pe_int)))))
    (pss_cons (ps_fld (pv 0) (pe_callB (cr_sortedSetI rfl) rfl T.f_sorted (by decide +kernel) (pa_cons (pe_callTy (cr_setL rfl) rfl T.f_set (by decide +kernel) (pa_cons (pv 3) pa_nil)) pa_nil)) rfl)
    (pss_cons (ps_fld (pv 0) (pe_lc (own := [("first", 5), ("last", 6), ("price", 7)]) (g := (gTup K 3 (gCons (gName 5) (gCons (gName 6) (gCons (gName 7) gNil))))) (tt := tYes) rfl sc_Ways___init__.nd (pi_list (pv 1)) (blkOk_by (N := ["self", "requests", "rooms", "marks", "room", "first", "last", "price", "request", "day", "more"]) (sc := defScope s_Ways___init__) (by decide +kernel)) (fun _ _ _ _ _ => (pg_tup rfl (pgs_cons (pg_name (i := 5) sc_Ways___init__.nd rfl (Or.inl rfl)) (pgs_cons (pg_name (i := 6) sc_Ways___init__.nd rfl (Or.inl rfl)) (pgs_cons (pg_name (i := 7) sc_Ways___init__.nd rfl (Or.inl rfl)) pgs_nil))))) (fun _ _ _ _ _ => pts_nil) (fun _ _ _ _ _ => (pe_tup (pa_cons (pe_bm PySem.F.plainAttrs_list PySem.F.slot_list_index PySem.F.type_list_index mt_index (pe_fld (pv 0) rfl) (pa_cons (pv 5) pa_nil)) (pa_cons (pe_bm PySem.F.plainAttrs_list PySem.F.slot_list_index PySem.F.type_list_index mt_index (pe_fld (pv 0) rfl) (pa_cons (pe_op op_add (pv 6) pe_int) pa_nil)) (pa_cons (pv 7) pa_nil)))))) rfl)
    (pss_cons (ps_fld (pv 0) (pe_lc (own := [("request", 8)]) (g := (gName 8)) (tt := tYes) rfl sc_Ways___init__.nd (pi_list (pv 1)) (blkOk_by (N := ["self", "requests", "rooms", "marks", "room", "first", "last", "price", "request", "day", "more"]) (sc := defScope s_Ways___init__) (by decide +kernel)) (fun _ _ _ _ _ => (pg_name (i := 8) sc_Ways___init__.nd rfl (Or.inl rfl))) (fun _ _ _ _ _ => pts_nil) (fun _ _ _ _ _ => pe_bl)) rfl)
    (pss_cons (ps_fld (pv 0) (pe_lc (own := [("day", 9)]) (g := (gName 9)) (tt := tYes) rfl sc_Ways___init__.nd (pi_list (pe_slice sl_list (pe_fld (pv 0) rfl) (po_some pe_int) po_none)) (blkOk_by (N := ["self", "requests", "rooms", "marks", "room", "first", "last", "price", "request", "day", "more"]) (sc := defScope s_Ways___init__) (by decide +kernel)) (fun _ _ _ _ _ => (pg_name (i := 9) sc_Ways___init__.nd rfl (Or.inl rfl))) (fun _ _ _ _ _ => pts_nil) (fun _ _ _ _ _ => pe_int)) rfl)
    (pss_cons (ps_for PassesOwn.never rfl (pi_range1 rfl T.f_range (pa_cons (pe_callB (call_min2 rfl) rfl T.f_min (by decide +kernel) (pa_cons (pv 2) (pa_cons (pe_callB call_len_seq rfl T.f_len PySem.boot_len (pa_cons (pv 1) pa_nil)) pa_nil))) pa_nil)) (pg_name (i := 4) sc_Ways___init__.nd rfl (Or.inl rfl)) (pss_one (ps_expr (pe_methN0 (pv 0) T.c_Ways T.m_Ways_lead (ok_Ways_lead T) (hr.mono (by decide)) pass0))))
    (pss_one (ps_if (pt_cmpR op_gt (pv 2) (pe_callB call_len_seq rfl T.f_len PySem.boot_len (pa_cons (pv 1) pa_nil)) (nomark _)) (pss_one (ps_fld (pv 0) (pe_lc (own := [("more", 10)]) (g := (gName 10)) (tt := tYes) rfl sc_Ways___init__.nd (pi_list (pe_fld (pv 0) rfl)) (blkOk_by (N := ["self", "requests", "rooms", "marks", "room", "first", "last", "price", "request", "day", "more"]) (sc := defScope s_Ways___init__) (by decide +kernel)) (fun _ _ _ _ _ => (pg_name (i := 10) sc_Ways___init__.nd rfl (Or.inl rfl))) (fun _ _ _ _ _ => pts_nil) (fun _ _ _ _ _ => (pe_op op_sub (pe_op op_add (pv 10) (pv 2)) (pe_callB call_len_seq rfl T.f_len PySem.boot_len (pa_cons (pv 1) pa_nil))))) rfl)) pss_nil))))))))), pure_Ways___init__ (⟨T.c_Ways, T.n_Ways_days, T.n_Ways_ends, T.n_Ways_taken, T.n_Ways_idle⟩ : WaysC K) h fin⟩)
theorem ok_Ways_choice (T : Txt K mg base) : FnB P w K mg base CX0 1 ("Ways", some "choice") ["self"] (sp_Ways_choice K w) :=
  FnB.mk' T.d_Ways_choice sc_Ways_choice (fun _ _ _ _ _ _ us hl => match us, hl with | [_], _ => rfl) (fun vs H Q E h => by first | (obtain ⟨_, rfl, _⟩ := h; rfl) | (obtain ⟨_, _, rfl, _⟩ := h; rfl) | (obtain ⟨_, _, _, rfl, _⟩ := h; rfl) | (obtain ⟨_, _, _, _, rfl, _⟩ := h; rfl) | (obtain ⟨_, _, _, _, _, rfl, _⟩ := h; rfl) | (obtain ⟨_, _, _, _, _, _, rfl, _⟩ := h; rfl) | (obtain ⟨_, _, _, _, _, _, _, rfl, _⟩ := h; rfl) | (obtain ⟨_, _, _, _, _, _, _, _, rfl, _⟩ := h; rfl) | (obtain ⟨_, _, _, _, _, _, _, _, _, rfl, _⟩ := h; rfl) | (obtain ⟨_, _, _, _, _, _, _, _, _, _, rfl, _⟩ := h; rfl) | (obtain ⟨_, _, _, _, _, _, _, _, _, _, _, rfl, _⟩ := h; rfl) | (obtain ⟨_, _, _, _, _, _, _, _, _, _, _, _, rfl, _⟩ := h; rfl) | (obtain ⟨_, _, _, _, _, _, _, _, _, _, _, _, _, rfl, _⟩ := h; rfl) | (obtain ⟨_, _, _, _, _, _, _, _, _, _, _, _, _, _, rfl, _⟩ := h; rfl) | (obtain ⟨_, _, _, _, _, _, _, _, _, _, _, _, _, _, _, rfl, _⟩ := h; rfl) | (obtain ⟨_, _, _, _, _, _, _, _, _, _, _, _, _, _, _, _, rfl, _⟩ := h; rfl) | (obtain ⟨_, _, _, _, _, _, _, _, _, _, _, _, _, _, _, _, _, rfl, _⟩ := h; rfl) | (obtain ⟨_, _, _, _, _, _, _, _, _, _, _, _, _, _, _, _, _, _, rfl, _⟩ := h; rfl))
  (fun cdv A outer s H vs Q Q0 E hr h fin => ⟨t_Ways_choice K w, PSs.nox ((pss_one (ps_ret (pe_lc (own := [("at", 1), ("mark", 2)]) (g := (gTup K 2 (gCons (gName 1) (gCons (gName 2) gNil)))) (tt := (tB (tVar 2))) rfl sc_Ways_choice.nd (pi_enum rfl T.f_enumerate (pa_cons (pe_fld (pv 0) rfl) pa_nil)) (blkOk_by (N := ["self", "at", "mark"]) (sc := defScope s_Ways_choice) (by decide +kernel)) (fun _ _ _ _ _ => (pg_tup rfl (pgs_cons (pg_name (i := 1) sc_Ways_choice.nd rfl (Or.inl rfl)) (pgs_cons (pg_name (i := 2) sc_Ways_choice.nd rfl (Or.inl rfl)) pgs_nil)))) (fun _ _ _ _ _ => (pts_one (pt_val (pv 2)))) (fun _ _ _ _ _ => (pv 1)))))), pure_Ways_choice (⟨T.c_Ways, T.n_Ways_days, T.n_Ways_ends, T.n_Ways_taken, T.n_Ways_idle⟩ : WaysC K) h fin⟩)
theorem ok_Ways_amounts (T : Txt K mg base) : FnB P w K mg base CX0 3 ("Ways", some "amounts") ["self"] (sp_Ways_amounts K w) :=
  FnB.mk' T.d_Ways_amounts sc_Ways_amounts (fun _ _ _ _ _ _ us hl => match us, hl with | [_], _ => rfl) (fun vs H Q E h => by first | (obtain ⟨_, rfl, _⟩ := h; rfl) | (obtain ⟨_, _, rfl, _⟩ := h; rfl) | (obtain ⟨_, _, _, rfl, _⟩ := h; rfl) | (obtain ⟨_, _, _, _, rfl, _⟩ := h; rfl) | (obtain ⟨_, _, _, _, _, rfl, _⟩ := h; rfl) | (obtain ⟨_, _, _, _, _, _, rfl, _⟩ := h; rfl) | (obtain ⟨_, _, _, _, _, _, _, rfl, _⟩ := h; rfl) | (obtain ⟨_, _, _, _, _, _, _, _, rfl, _⟩ := h; rfl) | (obtain ⟨_, _, _, _, _, _, _, _, _, rfl, _⟩ := h; rfl) | (obtain ⟨_, _, _, _, _, _, _, _, _, _, rfl, _⟩ := h; rfl) | (obtain ⟨_, _, _, _, _, _, _, _, _, _, _, rfl, _⟩ := h; rfl) | (obtain ⟨_, _, _, _, _, _, _, _, _, _, _, _, rfl, _⟩ := h; rfl) | (obtain ⟨_, _, _, _, _, _, _, _, _, _, _, _, _, rfl, _⟩ := h; rfl) | (obtain ⟨_, _, _, _, _, _, _, _, _, _, _, _, _, _, rfl, _⟩ := h; rfl) | (obtain ⟨_, _, _, _, _, _, _, _, _, _, _, _, _, _, _, rfl, _⟩ := h; rfl) | (obtain ⟨_, _, _, _, _, _, _, _, _, _, _, _, _, _, _, _, rfl, _⟩ := h; rfl) | (obtain ⟨_, _, _, _, _, _, _, _, _, _, _, _, _, _, _, _, _, rfl, _⟩ := h; rfl) | (obtain ⟨_, _, _, _, _, _, _, _, _, _, _, _, _, _, _, _, _, _, rfl, _⟩ := h; rfl))
  (fun cdv A outer s H vs Q Q0 E hr h fin => ⟨t_Ways_amounts K w, PSs.nox ((pss_cons (ps_asg (pe_methN0 (pv 0) T.c_Ways T.m_Ways_most (ok_Ways_most T) (hr.mono (by decide)) pass0) (pg_tup rfl (pgs_cons (pg_name (i := 1) sc_Ways_amounts.nd rfl (Or.inl rfl)) (pgs_cons (pg_name (i := 2) sc_Ways_amounts.nd rfl (Or.inl rfl)) pgs_nil))))
    (pss_cons (ps_set (i := 3) sc_Ways_amounts.nd rfl (Or.inl rfl) (pe_lst pa_nil))
    (pss_cons (ps_for PassesOwn.never rfl (pi_range1 rfl T.f_range (pa_cons (pe_callB call_len_seq rfl T.f_len PySem.boot_len (pa_cons (pe_fld (pv 0) rfl) pa_nil)) pa_nil)) (pg_name (i := 4) sc_Ways_amounts.nd rfl (Or.inl rfl)) (pss_one (ps_if (pt_cmpR op_gt (pe_ix ix_list (pv 1) (pe_op op_add (pv 4) pe_int) (fun _ _ => rfl)) (pe_ix ix_list (pv 1) (pv 4) (fun _ _ => rfl)) (nomark _)) (pss_one (ps_expr (pe_bm PySem.F.plainAttrs_list PySem.F.slot_list_append PySem.F.type_list_append mt_append (pv 3) (pa_cons (pe_tup (pa_cons (pe_ix ix_list (pe_fld (pv 0) rfl) (pv 4) (fun _ _ => rfl)) (pa_cons (pe_op op_sub (pe_ix ix_list (pv 1) (pe_op op_add (pv 4) pe_int) (fun _ _ => rfl)) (pe_ix ix_list (pv 1) (pv 4) (fun _ _ => rfl))) pa_nil))) pa_nil)))) pss_nil)))
    (pss_one (ps_ret (pv 3))))))), pure_Ways_amounts (⟨T.c_Ways, T.n_Ways_days, T.n_Ways_ends, T.n_Ways_taken, T.n_Ways_idle⟩ : WaysC K) h fin⟩)
theorem ok_best_of (T : Txt K mg base) : FnB P w K mg base CX0 6 ("best_of", none) ["requests", "rooms"] (sp_best_of K w) :=
  FnB.mk' T.d_best_of sc_best_of (fun _ _ _ _ _ _ us hl => match us, hl with | [_, _], _ => rfl) (fun vs H Q E h => by first | (obtain ⟨_, rfl, _⟩ := h; rfl) | (obtain ⟨_, _, rfl, _⟩ := h; rfl) | (obtain ⟨_, _, _, rfl, _⟩ := h; rfl) | (obtain ⟨_, _, _, _, rfl, _⟩ := h; rfl) | (obtain ⟨_, _, _, _, _, rfl, _⟩ := h; rfl) | (obtain ⟨_, _, _, _, _, _, rfl, _⟩ := h; rfl) | (obtain ⟨_, _, _, _, _, _, _, rfl, _⟩ := h; rfl) | (obtain ⟨_, _, _, _, _, _, _, _, rfl, _⟩ := h; rfl) | (obtain ⟨_, _, _, _, _, _, _, _, _, rfl, _⟩ := h; rfl) | (obtain ⟨_, _, _, _, _, _, _, _, _, _, rfl, _⟩ := h; rfl) | (obtain ⟨_, _, _, _, _, _, _, _, _, _, _, rfl, _⟩ := h; rfl) | (obtain ⟨_, _, _, _, _, _, _, _, _, _, _, _, rfl, _⟩ := h; rfl) | (obtain ⟨_, _, _, _, _, _, _, _, _, _, _, _, _, rfl, _⟩ := h; rfl) | (obtain ⟨_, _, _, _, _, _, _, _, _, _, _, _, _, _, rfl, _⟩ := h; rfl) | (obtain ⟨_, _, _, _, _, _, _, _, _, _, _, _, _, _, _, rfl, _⟩ := h; rfl) | (obtain ⟨_, _, _, _, _, _, _, _, _, _, _, _, _, _, _, _, rfl, _⟩ := h; rfl) | (obtain ⟨_, _, _, _, _, _, _, _, _, _, _, _, _, _, _, _, _, rfl, _⟩ := h; rfl) | (obtain ⟨_, _, _, _, _, _, _, _, _, _, _, _, _, _, _, _, _, _, rfl, _⟩ := h; rfl))
  (fun cdv A outer s H vs Q Q0 E hr h fin => ⟨t_best_of K w, PSs.nox ((pss_cons (ps_if (pt_cmpR op_eq (pe_callB call_len_seq rfl T.f_len PySem.boot_len (pa_cons (pv 0) pa_nil)) pe_int (nomark _)) (pss_one (ps_ret (pe_tup (pa_cons (pe_lst pa_nil) (pa_cons (pe_lst pa_nil) pa_nil))))) pss_nil)
    (pss_cons (ps_set (i := 2) sc_best_of.nd rfl (Or.inl rfl) (pe_makeN T.k_Ways (ok_Ways___init__ T) T.g_Ways (hr.mono (by decide)) pass0 (pa_cons (pv 0) (pa_cons (pv 1) pa_nil))))
    (pss_one (ps_ret (pe_tup (pa_cons (pe_methN0 (pv 2) T.c_Ways T.m_Ways_choice (ok_Ways_choice T) (hr.mono (by decide)) pass0) (pa_cons (pe_methN0 (pv 2) T.c_Ways T.m_Ways_amounts (ok_Ways_amounts T) (hr.mono (by decide)) pass0) pa_nil)))))))), pure_best_of (⟨T.c_Ways, T.n_Ways_days, T.n_Ways_ends, T.n_Ways_taken, T.n_Ways_idle⟩ : WaysC K) h fin⟩)
theorem ok_worth_of (T : Txt K mg base) : FnB P w K mg base CX0 1 ("worth_of", none) ["requests", "some"] (sp_worth_of K w) :=
  FnB.mk' T.d_worth_of sc_worth_of (fun _ _ _ _ _ _ us hl => match us, hl with | [_, _], _ => rfl) (fun vs H Q E h => by first | (obtain ⟨_, rfl, _⟩ := h; rfl) | (obtain ⟨_, _, rfl, _⟩ := h; rfl) | (obtain ⟨_, _, _, rfl, _⟩ := h; rfl) | (obtain ⟨_, _, _, _, rfl, _⟩ := h; rfl) | (obtain ⟨_, _, _, _, _, rfl, _⟩ := h; rfl) | (obtain ⟨_, _, _, _, _, _, rfl, _⟩ := h; rfl) | (obtain ⟨_, _, _, _, _, _, _, rfl, _⟩ := h; rfl) | (obtain ⟨_, _, _, _, _, _, _, _, rfl, _⟩ := h; rfl) | (obtain ⟨_, _, _, _, _, _, _, _, _, rfl, _⟩ := h; rfl) | (obtain ⟨_, _, _, _, _, _, _, _, _, _, rfl, _⟩ := h; rfl) | (obtain ⟨_, _, _, _, _, _, _, _, _, _, _, rfl, _⟩ := h; rfl) | (obtain ⟨_, _, _, _, _, _, _, _, _, _, _, _, rfl, _⟩ := h; rfl) | (obtain ⟨_, _, _, _, _, _, _, _, _, _, _, _, _, rfl, _⟩ := h; rfl) | (obtain ⟨_, _, _, _, _, _, _, _, _, _, _, _, _, _, rfl, _⟩ := h; rfl) | (obtain ⟨_, _, _, _, _, _, _, _, _, _, _, _, _, _, _, rfl, _⟩ := h; rfl) | (obtain ⟨_, _, _, _, _, _, _, _, _, _, _, _, _, _, _, _, rfl, _⟩ := h; rfl) | (obtain ⟨_, _, _, _, _, _, _, _, _, _, _, _, _, _, _, _, _, rfl, _⟩ := h; rfl) | (obtain ⟨_, _, _, _, _, _, _, _, _, _, _, _, _, _, _, _, _, _, rfl, _⟩ := h; rfl))
  (fun cdv A outer s H vs Q Q0 E hr h fin => ⟨t_worth_of K w, PSs.nox ((pss_one (ps_ret (pe_callB (cr_sum rfl) rfl T.f_sum (by decide +kernel) (pa_cons (pe_lc (own := [("at", 2)]) (g := (gName 2)) (tt := tYes) rfl sc_worth_of.nd (pi_list (pv 1)) (blkOk_by (N := ["requests", "some", "at"]) (sc := defScope s_worth_of) (by decide +kernel)) (fun _ _ _ _ _ => (pg_name (i := 2) sc_worth_of.nd rfl (Or.inl rfl))) (fun _ _ _ _ _ => pts_nil) (fun _ _ _ _ _ => (pe_ix ix_tup (pe_ix ix_list (pv 0) (pv 2) (fun _ _ => rfl)) pe_int (fun _ _ => rfl)))) pa_nil))))), pure_worth_of  h fin⟩)
theorem ok_Due___init__ (T : Txt K mg base) : FnB P w K mg base CX0 1 ("Due", some "__init__") ["self", "price", "taken", "tolls", "others", "other_tolls"] (sp_Due___init__ K w) :=
  FnB.mk' T.d_Due___init__ sc_Due___init__ (fun _ _ _ _ _ _ us hl => match us, hl with | [_, _, _, _, _, _], _ => rfl) (fun vs H Q E h => by first | (obtain ⟨_, rfl, _⟩ := h; rfl) | (obtain ⟨_, _, rfl, _⟩ := h; rfl) | (obtain ⟨_, _, _, rfl, _⟩ := h; rfl) | (obtain ⟨_, _, _, _, rfl, _⟩ := h; rfl) | (obtain ⟨_, _, _, _, _, rfl, _⟩ := h; rfl) | (obtain ⟨_, _, _, _, _, _, rfl, _⟩ := h; rfl) | (obtain ⟨_, _, _, _, _, _, _, rfl, _⟩ := h; rfl) | (obtain ⟨_, _, _, _, _, _, _, _, rfl, _⟩ := h; rfl) | (obtain ⟨_, _, _, _, _, _, _, _, _, rfl, _⟩ := h; rfl) | (obtain ⟨_, _, _, _, _, _, _, _, _, _, rfl, _⟩ := h; rfl) | (obtain ⟨_, _, _, _, _, _, _, _, _, _, _, rfl, _⟩ := h; rfl) | (obtain ⟨_, _, _, _, _, _, _, _, _, _, _, _, rfl, _⟩ := h; rfl) | (obtain ⟨_, _, _, _, _, _, _, _, _, _, _, _, _, rfl, _⟩ := h; rfl) | (obtain ⟨_, _, _, _, _, _, _, _, _, _, _, _, _, _, rfl, _⟩ := h; rfl) | (obtain ⟨_, _, _, _, _, _, _, _, _, _, _, _, _, _, _, rfl, _⟩ := h; rfl) | (obtain ⟨_, _, _, _, _, _, _, _, _, _, _, _, _, _, _, _, rfl, _⟩ := h; rfl) | (obtain ⟨_, _, _, _, _, _, _, _, _, _, _, _, _, _, _, _, _, rfl, _⟩ := h; rfl) | (obtain ⟨_, _, _, _, _, _, _, _, _, _, _, _, _, _, _, _, _, _, rfl, _⟩ := h; rfl))
  (fun cdv A outer s H vs Q Q0 E hr h fin => ⟨t_Due___init__ K w, PSs.nox ((pss_cons (ps_fld (pv 0) (pv 1) rfl)
    (pss_cons (ps_fld (pv 0) (pe_callTy call_list_of rfl T.f_list (by decide +kernel) (pa_cons (pv 2) pa_nil)) rfl)
    (pss_cons (ps_fld (pv 0) (pe_callTy call_list_of rfl T.f_list (by decide +kernel) (pa_cons (pv 3) pa_nil)) rfl)
    (pss_cons (ps_fld (pv 0) (pe_callTy call_list_of rfl T.f_list (by decide +kernel) (pa_cons (pv 4) pa_nil)) rfl)
    (pss_one (ps_fld (pv 0) (pe_callTy call_list_of rfl T.f_list (by decide +kernel) (pa_cons (pv 5) pa_nil)) rfl))))))), pure_Due___init__ (⟨T.c_Due, T.n_Due_price, T.n_Due_taken, T.n_Due_tolls, T.n_Due_others, T.n_Due_other_tolls⟩ : DueC K) h fin⟩)
theorem ok_due (T : Txt K mg base) : FnB P w K mg base CX0 7 ("due", none) ["requests", "rooms", "first", "last"] (sp_due K w) :=
  FnB.mk' T.d_due sc_due (fun _ _ _ _ _ _ us hl => match us, hl with | [_, _, _, _], _ => rfl) (fun vs H Q E h => by first | (obtain ⟨_, rfl, _⟩ := h; rfl) | (obtain ⟨_, _, rfl, _⟩ := h; rfl) | (obtain ⟨_, _, _, rfl, _⟩ := h; rfl) | (obtain ⟨_, _, _, _, rfl, _⟩ := h; rfl) | (obtain ⟨_, _, _, _, _, rfl, _⟩ := h; rfl) | (obtain ⟨_, _, _, _, _, _, rfl, _⟩ := h; rfl) | (obtain ⟨_, _, _, _, _, _, _, rfl, _⟩ := h; rfl) | (obtain ⟨_, _, _, _, _, _, _, _, rfl, _⟩ := h; rfl) | (obtain ⟨_, _, _, _, _, _, _, _, _, rfl, _⟩ := h; rfl) | (obtain ⟨_, _, _, _, _, _, _, _, _, _, rfl, _⟩ := h; rfl) | (obtain ⟨_, _, _, _, _, _, _, _, _, _, _, rfl, _⟩ := h; rfl) | (obtain ⟨_, _, _, _, _, _, _, _, _, _, _, _, rfl, _⟩ := h; rfl) | (obtain ⟨_, _, _, _, _, _, _, _, _, _, _, _, _, rfl, _⟩ := h; rfl) | (obtain ⟨_, _, _, _, _, _, _, _, _, _, _, _, _, _, rfl, _⟩ := h; rfl) | (obtain ⟨_, _, _, _, _, _, _, _, _, _, _, _, _, _, _, rfl, _⟩ := h; rfl) | (obtain ⟨_, _, _, _, _, _, _, _, _, _, _, _, _, _, _, _, rfl, _⟩ := h; rfl) | (obtain ⟨_, _, _, _, _, _, _, _, _, _, _, _, _, _, _, _, _, rfl, _⟩ := h; rfl) | (obtain ⟨_, _, _, _, _, _, _, _, _, _, _, _, _, _, _, _, _, _, rfl, _⟩ := h; rfl))
  (fun cdv A outer s H vs Q Q0 E hr h fin => ⟨t_due K w, PSs.nox ((pss_cons (ps_expr (pe_callN (ok_check_requests T) T.g_check_requests (hr.mono (by decide)) pass0 (pa_cons (pv 0) pa_nil)))
    (pss_cons (ps_expr (pe_callN (ok_check_rooms T) T.g_check_rooms (hr.mono (by decide)) pass0 (pa_cons (pv 1) (pa_cons pe_int pa_nil))))
    (pss_cons (ps_if (PW.pt (pw_or (pt_not (pt_val (pe_callN (ok_is_whole T) T.g_is_whole (hr.mono (by decide)) pass0 (pa_cons (pv 2) pa_nil)))) (pw_or (pt_not (pt_val (pe_callN (ok_is_whole T) T.g_is_whole (hr.mono (by decide)) pass0 (pa_cons (pv 3) pa_nil)))) (pw_or1 (pt_cmpR op_gt (pv 2) (pv 3) (nomark _)))))) (pss_one ps_never) pss_nil)
    (pss_cons (ps_asg (pe_callN (ok_best_of T) T.g_best_of (hr.mono (by decide)) pass0 (pa_cons (pv 0) (pa_cons (pv 1) pa_nil))) (pg_tup rfl (pgs_cons (pg_name (i := 4) sc_due.nd rfl (Or.inl rfl)) (pgs_cons (pg_name (i := 5) sc_due.nd rfl (Or.inl rfl)) pgs_nil))))
    (pss_cons (ps_set (i := 6) sc_due.nd rfl (Or.inl rfl) (pe_op op_add (pe_callB (cr_sum rfl) rfl T.f_sum (by decide +kernel) (pa_cons (pe_lc (own := [("request", 12)]) (g := (gName 12)) (tt := tYes) rfl sc_due.nd (pi_list (pv 0)) (blkOk_by (N := ["requests", "rooms", "first", "last", "others", "other_tolls", "great", "taken", "beside", "price", "tolls", "at", "request"]) (sc := defScope s_due) (by decide +kernel)) (fun _ _ _ _ _ => (pg_name (i := 12) sc_due.nd rfl (Or.inl rfl))) (fun _ _ _ _ _ => pts_nil) (fun _ _ _ _ _ => (pe_ix ix_tup (pv 12) pe_int (fun _ _ => rfl)))) pa_nil)) pe_int))
    (pss_cons (ps_set (i := 7) sc_due.nd rfl (Or.inl rfl) (pe_ix ix_tup (pe_callN (ok_best_of T) T.g_best_of (hr.mono (by decide)) pass0 (pa_cons (pe_op op_cat (pv 0) (pe_lst (pa_cons (pe_tup (pa_cons (pv 2) (pa_cons (pv 3) (pa_cons (pv 6) pa_nil)))) pa_nil))) (pa_cons (pv 1) pa_nil))) pe_int (fun _ _ => rfl)))
    (pss_cons (ps_set (i := 8) sc_due.nd rfl (Or.inl rfl) (pe_callN (ok_worth_of T) T.g_worth_of (hr.mono (by decide)) pass0 (pa_cons (pv 0) (pa_cons (pe_lc (own := [("at", 11)]) (g := (gName 11)) (tt := (tTest (tOp qLt (tVar 11) (tCB (qLen K) (tCons (tVar 0) tNil))))) rfl sc_due.nd (pi_list (pv 7)) (blkOk_by (N := ["requests", "rooms", "first", "last", "others", "other_tolls", "great", "taken", "beside", "price", "tolls", "at", "request"]) (sc := defScope s_due) (by decide +kernel)) (fun _ _ _ _ _ => (pg_name (i := 11) sc_due.nd rfl (Or.inl rfl))) (fun _ _ _ _ _ => (pts_one (pt_cmpR op_lt (pv 11) (pe_callB call_len_seq rfl T.f_len PySem.boot_len (pa_cons (pv 0) pa_nil)) (nomark _)))) (fun _ _ _ _ _ => (pv 11))) pa_nil))))
    (pss_cons (ps_set (i := 9) sc_due.nd rfl (Or.inl rfl) (pe_op op_sub (pe_callN (ok_worth_of T) T.g_worth_of (hr.mono (by decide)) pass0 (pa_cons (pv 0) (pa_cons (pv 4) pa_nil))) (pv 8)))
    (pss_cons (ps_set (i := 10) sc_due.nd rfl (Or.inl rfl) (pe_ix ix_tup (pe_callN (ok_best_of T) T.g_best_of (hr.mono (by decide)) pass0 (pa_cons (pe_op op_cat (pv 0) (pe_lst (pa_cons (pe_tup (pa_cons (pv 2) (pa_cons (pv 3) (pa_cons (pv 9) pa_nil)))) pa_nil))) (pa_cons (pv 1) pa_nil))) pe_int (fun _ _ => rfl)))
    (pss_one (ps_ret (pe_makeN T.k_Due (ok_Due___init__ T) T.g_Due (hr.mono (by decide)) pass0 (pa_cons (pv 9) (pa_cons (pv 7) (pa_cons (pv 10) (pa_cons (pv 4) (pa_cons (pv 5) pa_nil)))))))))))))))))), pure_due  h fin⟩)
theorem ok__law_rooms (T : Txt K mg base) : FnB P w K mg base CX0 2 ("_law_rooms", none) ["_law_script", "_law_many"] (sp__law_rooms K w) :=
  FnB.mk' T.d__law_rooms sc__law_rooms (fun _ _ _ _ _ _ us hl => match us, hl with | [_, _], _ => rfl) (fun vs H Q E h => by first | (obtain ⟨_, rfl, _⟩ := h; rfl) | (obtain ⟨_, _, rfl, _⟩ := h; rfl) | (obtain ⟨_, _, _, rfl, _⟩ := h; rfl) | (obtain ⟨_, _, _, _, rfl, _⟩ := h; rfl) | (obtain ⟨_, _, _, _, _, rfl, _⟩ := h; rfl) | (obtain ⟨_, _, _, _, _, _, rfl, _⟩ := h; rfl) | (obtain ⟨_, _, _, _, _, _, _, rfl, _⟩ := h; rfl) | (obtain ⟨_, _, _, _, _, _, _, _, rfl, _⟩ := h; rfl) | (obtain ⟨_, _, _, _, _, _, _, _, _, rfl, _⟩ := h; rfl) | (obtain ⟨_, _, _, _, _, _, _, _, _, _, rfl, _⟩ := h; rfl) | (obtain ⟨_, _, _, _, _, _, _, _, _, _, _, rfl, _⟩ := h; rfl) | (obtain ⟨_, _, _, _, _, _, _, _, _, _, _, _, rfl, _⟩ := h; rfl) | (obtain ⟨_, _, _, _, _, _, _, _, _, _, _, _, _, rfl, _⟩ := h; rfl) | (obtain ⟨_, _, _, _, _, _, _, _, _, _, _, _, _, _, rfl, _⟩ := h; rfl) | (obtain ⟨_, _, _, _, _, _, _, _, _, _, _, _, _, _, _, rfl, _⟩ := h; rfl) | (obtain ⟨_, _, _, _, _, _, _, _, _, _, _, _, _, _, _, _, rfl, _⟩ := h; rfl) | (obtain ⟨_, _, _, _, _, _, _, _, _, _, _, _, _, _, _, _, _, rfl, _⟩ := h; rfl) | (obtain ⟨_, _, _, _, _, _, _, _, _, _, _, _, _, _, _, _, _, _, rfl, _⟩ := h; rfl))
  (fun cdv A outer s H vs Q Q0 E hr h fin => ⟨t__law_rooms K w, PSs.nox ((pss_cons (ps_if (pt_cmpR op_eq (pe_callN (ok__law_draw T) T.g__law_draw (hr.mono (by decide)) pass0 (pa_cons (pe_callN (ok__law_cell_at T) T.g__law_cell_at (hr.mono (by decide)) pass0 (pa_cons (pv 0) (pa_cons pe_int pa_nil))) (pa_cons pe_int (pa_cons pe_int pa_nil)))) pe_int (nomark _)) (pss_one (ps_ret (pe_callN (ok__law_draw T) T.g__law_draw (hr.mono (by decide)) pass0 (pa_cons (pe_callN (ok__law_cell_at T) T.g__law_cell_at (hr.mono (by decide)) pass0 (pa_cons (pv 0) (pa_cons pe_int pa_nil))) (pa_cons pe_int (pa_cons (pe_op op_add (pv 1) pe_int) pa_nil)))))) pss_nil)
    (pss_one (ps_ret (pe_callN (ok__law_draw T) T.g__law_draw (hr.mono (by decide)) pass0 (pa_cons (pe_callN (ok__law_cell_at T) T.g__law_cell_at (hr.mono (by decide)) pass0 (pa_cons (pv 0) (pa_cons pe_int pa_nil))) (pa_cons pe_int (pa_cons pe_int pa_nil)))))))), pure__law_rooms  h fin⟩)
theorem ok_Best___init__ (T : Txt K mg base) : FnB P w K mg base CX0 1 ("Best", some "__init__") ["self", "taken", "tolls"] (sp_Best___init__ K w) :=
  FnB.mk' T.d_Best___init__ sc_Best___init__ (fun _ _ _ _ _ _ us hl => match us, hl with | [_, _, _], _ => rfl) (fun vs H Q E h => by first | (obtain ⟨_, rfl, _⟩ := h; rfl) | (obtain ⟨_, _, rfl, _⟩ := h; rfl) | (obtain ⟨_, _, _, rfl, _⟩ := h; rfl) | (obtain ⟨_, _, _, _, rfl, _⟩ := h; rfl) | (obtain ⟨_, _, _, _, _, rfl, _⟩ := h; rfl) | (obtain ⟨_, _, _, _, _, _, rfl, _⟩ := h; rfl) | (obtain ⟨_, _, _, _, _, _, _, rfl, _⟩ := h; rfl) | (obtain ⟨_, _, _, _, _, _, _, _, rfl, _⟩ := h; rfl) | (obtain ⟨_, _, _, _, _, _, _, _, _, rfl, _⟩ := h; rfl) | (obtain ⟨_, _, _, _, _, _, _, _, _, _, rfl, _⟩ := h; rfl) | (obtain ⟨_, _, _, _, _, _, _, _, _, _, _, rfl, _⟩ := h; rfl) | (obtain ⟨_, _, _, _, _, _, _, _, _, _, _, _, rfl, _⟩ := h; rfl) | (obtain ⟨_, _, _, _, _, _, _, _, _, _, _, _, _, rfl, _⟩ := h; rfl) | (obtain ⟨_, _, _, _, _, _, _, _, _, _, _, _, _, _, rfl, _⟩ := h; rfl) | (obtain ⟨_, _, _, _, _, _, _, _, _, _, _, _, _, _, _, rfl, _⟩ := h; rfl) | (obtain ⟨_, _, _, _, _, _, _, _, _, _, _, _, _, _, _, _, rfl, _⟩ := h; rfl) | (obtain ⟨_, _, _, _, _, _, _, _, _, _, _, _, _, _, _, _, _, rfl, _⟩ := h; rfl) | (obtain ⟨_, _, _, _, _, _, _, _, _, _, _, _, _, _, _, _, _, _, rfl, _⟩ := h; rfl))
  (fun cdv A outer s H vs Q Q0 E hr h fin => ⟨t_Best___init__ K w, PSs.nox ((pss_cons (ps_fld (pv 0) (pe_callTy call_list_of rfl T.f_list (by decide +kernel) (pa_cons (pv 1) pa_nil)) rfl)
    (pss_one (ps_fld (pv 0) (pe_callTy call_list_of rfl T.f_list (by decide +kernel) (pa_cons (pv 2) pa_nil)) rfl)))), pure_Best___init__ T.c_Best T.n_Best_taken T.n_Best_tolls h fin⟩)
theorem ok_best (T : Txt K mg base) : FnB P w K mg base CX0 7 ("best", none) ["requests", "rooms"] (sp_best K w) :=
  FnB.mk' T.d_best sc_best (fun _ _ _ _ _ _ us hl => match us, hl with | [_, _], _ => rfl) (fun vs H Q E h => by first | (obtain ⟨_, rfl, _⟩ := h; rfl) | (obtain ⟨_, _, rfl, _⟩ := h; rfl) | (obtain ⟨_, _, _, rfl, _⟩ := h; rfl) | (obtain ⟨_, _, _, _, rfl, _⟩ := h; rfl) | (obtain ⟨_, _, _, _, _, rfl, _⟩ := h; rfl) | (obtain ⟨_, _, _, _, _, _, rfl, _⟩ := h; rfl) | (obtain ⟨_, _, _, _, _, _, _, rfl, _⟩ := h; rfl) | (obtain ⟨_, _, _, _, _, _, _, _, rfl, _⟩ := h; rfl) | (obtain ⟨_, _, _, _, _, _, _, _, _, rfl, _⟩ := h; rfl) | (obtain ⟨_, _, _, _, _, _, _, _, _, _, rfl, _⟩ := h; rfl) | (obtain ⟨_, _, _, _, _, _, _, _, _, _, _, rfl, _⟩ := h; rfl) | (obtain ⟨_, _, _, _, _, _, _, _, _, _, _, _, rfl, _⟩ := h; rfl) | (obtain ⟨_, _, _, _, _, _, _, _, _, _, _, _, _, rfl, _⟩ := h; rfl) | (obtain ⟨_, _, _, _, _, _, _, _, _, _, _, _, _, _, rfl, _⟩ := h; rfl) | (obtain ⟨_, _, _, _, _, _, _, _, _, _, _, _, _, _, _, rfl, _⟩ := h; rfl) | (obtain ⟨_, _, _, _, _, _, _, _, _, _, _, _, _, _, _, _, rfl, _⟩ := h; rfl) | (obtain ⟨_, _, _, _, _, _, _, _, _, _, _, _, _, _, _, _, _, rfl, _⟩ := h; rfl) | (obtain ⟨_, _, _, _, _, _, _, _, _, _, _, _, _, _, _, _, _, _, rfl, _⟩ := h; rfl))
  (fun cdv A outer s H vs Q Q0 E hr h fin => ⟨t_best K w, PSs.nox ((pss_cons (ps_expr (pe_callN (ok_check_requests T) T.g_check_requests (hr.mono (by decide)) pass0 (pa_cons (pv 0) pa_nil)))
    (pss_cons (ps_expr (pe_callN (ok_check_rooms T) T.g_check_rooms (hr.mono (by decide)) pass0 (pa_cons (pv 1) (pa_cons pe_int pa_nil))))
    (pss_cons (ps_asg (pe_callN (ok_best_of T) T.g_best_of (hr.mono (by decide)) pass0 (pa_cons (pv 0) (pa_cons (pv 1) pa_nil))) (pg_tup rfl (pgs_cons (pg_name (i := 2) sc_best.nd rfl (Or.inl rfl)) (pgs_cons (pg_name (i := 3) sc_best.nd rfl (Or.inl rfl)) pgs_nil))))
    (pss_one (ps_ret (pe_makeN T.k_Best (ok_Best___init__ T) T.g_Best (hr.mono (by decide)) pass0 (pa_cons (pv 2) (pa_cons (pv 3) pa_nil))))))))), pure_best  h fin⟩)
theorem ok_Lodged___init__ (T : Txt K mg base) : FnB P w K mg base CX0 1 ("Lodged", some "__init__") ["self", "rooms"] (sp_Lodged___init__ K w) :=
  FnB.mk' T.d_Lodged___init__ sc_Lodged___init__ (fun _ _ _ _ _ _ us hl => match us, hl with | [_, _], _ => rfl) (fun vs H Q E h => by first | (obtain ⟨_, rfl, _⟩ := h; rfl) | (obtain ⟨_, _, rfl, _⟩ := h; rfl) | (obtain ⟨_, _, _, rfl, _⟩ := h; rfl) | (obtain ⟨_, _, _, _, rfl, _⟩ := h; rfl) | (obtain ⟨_, _, _, _, _, rfl, _⟩ := h; rfl) | (obtain ⟨_, _, _, _, _, _, rfl, _⟩ := h; rfl) | (obtain ⟨_, _, _, _, _, _, _, rfl, _⟩ := h; rfl) | (obtain ⟨_, _, _, _, _, _, _, _, rfl, _⟩ := h; rfl) | (obtain ⟨_, _, _, _, _, _, _, _, _, rfl, _⟩ := h; rfl) | (obtain ⟨_, _, _, _, _, _, _, _, _, _, rfl, _⟩ := h; rfl) | (obtain ⟨_, _, _, _, _, _, _, _, _, _, _, rfl, _⟩ := h; rfl) | (obtain ⟨_, _, _, _, _, _, _, _, _, _, _, _, rfl, _⟩ := h; rfl) | (obtain ⟨_, _, _, _, _, _, _, _, _, _, _, _, _, rfl, _⟩ := h; rfl) | (obtain ⟨_, _, _, _, _, _, _, _, _, _, _, _, _, _, rfl, _⟩ := h; rfl) | (obtain ⟨_, _, _, _, _, _, _, _, _, _, _, _, _, _, _, rfl, _⟩ := h; rfl) | (obtain ⟨_, _, _, _, _, _, _, _, _, _, _, _, _, _, _, _, rfl, _⟩ := h; rfl) | (obtain ⟨_, _, _, _, _, _, _, _, _, _, _, _, _, _, _, _, _, rfl, _⟩ := h; rfl) | (obtain ⟨_, _, _, _, _, _, _, _, _, _, _, _, _, _, _, _, _, _, rfl, _⟩ := h; rfl))
  (fun cdv A outer s H vs Q Q0 E hr h fin => ⟨t_Lodged___init__ K w, PSs.nox ((pss_one (ps_fld (pv 0) (pe_callTy call_list_of rfl T.f_list (by decide +kernel) (pa_cons (pv 1) pa_nil)) rfl))), pure_Lodged___init__ (⟨T.c_Lodged, T.n_Lodged_rooms⟩ : LodC K) h fin⟩)
theorem ok_for_day (T : Txt K mg base) : FnB P w K mg base CX0 1 ("for_day", none) ["requests", "some", "day"] (sp_for_day K w) :=
  FnB.mk' T.d_for_day sc_for_day (fun _ _ _ _ _ _ us hl => match us, hl with | [_, _, _], _ => rfl) (fun vs H Q E h => by first | (obtain ⟨_, rfl, _⟩ := h; rfl) | (obtain ⟨_, _, rfl, _⟩ := h; rfl) | (obtain ⟨_, _, _, rfl, _⟩ := h; rfl) | (obtain ⟨_, _, _, _, rfl, _⟩ := h; rfl) | (obtain ⟨_, _, _, _, _, rfl, _⟩ := h; rfl) | (obtain ⟨_, _, _, _, _, _, rfl, _⟩ := h; rfl) | (obtain ⟨_, _, _, _, _, _, _, rfl, _⟩ := h; rfl) | (obtain ⟨_, _, _, _, _, _, _, _, rfl, _⟩ := h; rfl) | (obtain ⟨_, _, _, _, _, _, _, _, _, rfl, _⟩ := h; rfl) | (obtain ⟨_, _, _, _, _, _, _, _, _, _, rfl, _⟩ := h; rfl) | (obtain ⟨_, _, _, _, _, _, _, _, _, _, _, rfl, _⟩ := h; rfl) | (obtain ⟨_, _, _, _, _, _, _, _, _, _, _, _, rfl, _⟩ := h; rfl) | (obtain ⟨_, _, _, _, _, _, _, _, _, _, _, _, _, rfl, _⟩ := h; rfl) | (obtain ⟨_, _, _, _, _, _, _, _, _, _, _, _, _, _, rfl, _⟩ := h; rfl) | (obtain ⟨_, _, _, _, _, _, _, _, _, _, _, _, _, _, _, rfl, _⟩ := h; rfl) | (obtain ⟨_, _, _, _, _, _, _, _, _, _, _, _, _, _, _, _, rfl, _⟩ := h; rfl) | (obtain ⟨_, _, _, _, _, _, _, _, _, _, _, _, _, _, _, _, _, rfl, _⟩ := h; rfl) | (obtain ⟨_, _, _, _, _, _, _, _, _, _, _, _, _, _, _, _, _, _, rfl, _⟩ := h; rfl))
  (fun cdv A outer s H vs Q Q0 E hr h fin => ⟨t_for_day K w, PSs.nox ((pss_one (ps_ret (pe_lc (own := [("at", 3)]) (g := (gName 3)) (tt := (tTest (tChain qLe qLe (tOp (rIxT K) (tOp (rIxL K) (tVar 0) (tVar 3)) (tC (.int 0))) (tVar 2) (tOp (rIxT K) (tOp (rIxL K) (tVar 0) (tVar 3)) (tC (.int 1)))))) rfl sc_for_day.nd (pi_list (pv 1)) (blkOk_by (N := ["requests", "some", "day", "at"]) (sc := defScope s_for_day) (by decide +kernel)) (fun _ _ _ _ _ => (pg_name (i := 3) sc_for_day.nd rfl (Or.inl rfl))) (fun _ _ _ _ _ => (pts_one (pt_chain op_le op_le (pe_ix ix_tup (pe_ix ix_list (pv 0) (pv 3) (fun _ _ => rfl)) pe_int (fun _ _ => rfl)) (pv 2) (pe_ix ix_tup (pe_ix ix_list (pv 0) (pv 3) (fun _ _ => rfl)) pe_int (fun _ _ => rfl))))) (fun _ _ _ _ _ => (pv 3)))))), pure_for_day  h fin⟩)
theorem ok_Crowd___init__ (T : Txt K mg base) : FnB P w K mg base CX0 1 ("Crowd", some "__init__") ["self", "day", "asking"] (sp_Crowd___init__ K w) :=
  FnB.mk' T.d_Crowd___init__ sc_Crowd___init__ (fun _ _ _ _ _ _ us hl => match us, hl with | [_, _, _], _ => rfl) (fun vs H Q E h => by first | (obtain ⟨_, rfl, _⟩ := h; rfl) | (obtain ⟨_, _, rfl, _⟩ := h; rfl) | (obtain ⟨_, _, _, rfl, _⟩ := h; rfl) | (obtain ⟨_, _, _, _, rfl, _⟩ := h; rfl) | (obtain ⟨_, _, _, _, _, rfl, _⟩ := h; rfl) | (obtain ⟨_, _, _, _, _, _, rfl, _⟩ := h; rfl) | (obtain ⟨_, _, _, _, _, _, _, rfl, _⟩ := h; rfl) | (obtain ⟨_, _, _, _, _, _, _, _, rfl, _⟩ := h; rfl) | (obtain ⟨_, _, _, _, _, _, _, _, _, rfl, _⟩ := h; rfl) | (obtain ⟨_, _, _, _, _, _, _, _, _, _, rfl, _⟩ := h; rfl) | (obtain ⟨_, _, _, _, _, _, _, _, _, _, _, rfl, _⟩ := h; rfl) | (obtain ⟨_, _, _, _, _, _, _, _, _, _, _, _, rfl, _⟩ := h; rfl) | (obtain ⟨_, _, _, _, _, _, _, _, _, _, _, _, _, rfl, _⟩ := h; rfl) | (obtain ⟨_, _, _, _, _, _, _, _, _, _, _, _, _, _, rfl, _⟩ := h; rfl) | (obtain ⟨_, _, _, _, _, _, _, _, _, _, _, _, _, _, _, rfl, _⟩ := h; rfl) | (obtain ⟨_, _, _, _, _, _, _, _, _, _, _, _, _, _, _, _, rfl, _⟩ := h; rfl) | (obtain ⟨_, _, _, _, _, _, _, _, _, _, _, _, _, _, _, _, _, rfl, _⟩ := h; rfl) | (obtain ⟨_, _, _, _, _, _, _, _, _, _, _, _, _, _, _, _, _, _, rfl, _⟩ := h; rfl))
  (fun cdv A outer s H vs Q Q0 E hr h fin => ⟨t_Crowd___init__ K w, PSs.nox ((pss_cons (ps_fld (pv 0) (pv 1) rfl)
    (pss_one (ps_fld (pv 0) (pe_callTy call_list_of rfl T.f_list (by decide +kernel) (pa_cons (pv 2) pa_nil)) rfl)))), pure_Crowd___init__ (⟨T.c_Crowd, T.n_Crowd_day, T.n_Crowd_asking⟩ : CrowdC K) h fin⟩)
theorem ok_lodged (T : Txt K mg base) : FnB P w K mg base CX0 4 ("lodged", none) ["requests", "rooms"] (sp_lodged K w) :=
  FnB.mkC T.d_lodged sc_lodged (fun _ _ _ _ _ _ us hl => match us, hl with | [_, _], _ => rfl) (fun vs H Q E h => by first | (obtain ⟨_, rfl, _⟩ := h; rfl) | (obtain ⟨_, _, rfl, _⟩ := h; rfl) | (obtain ⟨_, _, _, rfl, _⟩ := h; rfl) | (obtain ⟨_, _, _, _, rfl, _⟩ := h; rfl) | (obtain ⟨_, _, _, _, _, rfl, _⟩ := h; rfl) | (obtain ⟨_, _, _, _, _, _, rfl, _⟩ := h; rfl) | (obtain ⟨_, _, _, _, _, _, _, rfl, _⟩ := h; rfl) | (obtain ⟨_, _, _, _, _, _, _, _, rfl, _⟩ := h; rfl) | (obtain ⟨_, _, _, _, _, _, _, _, _, rfl, _⟩ := h; rfl) | (obtain ⟨_, _, _, _, _, _, _, _, _, _, rfl, _⟩ := h; rfl) | (obtain ⟨_, _, _, _, _, _, _, _, _, _, _, rfl, _⟩ := h; rfl) | (obtain ⟨_, _, _, _, _, _, _, _, _, _, _, _, rfl, _⟩ := h; rfl) | (obtain ⟨_, _, _, _, _, _, _, _, _, _, _, _, _, rfl, _⟩ := h; rfl) | (obtain ⟨_, _, _, _, _, _, _, _, _, _, _, _, _, _, rfl, _⟩ := h; rfl) | (obtain ⟨_, _, _, _, _, _, _, _, _, _, _, _, _, _, _, rfl, _⟩ := h; rfl) | (obtain ⟨_, _, _, _, _, _, _, _, _, _, _, _, _, _, _, _, rfl, _⟩ := h; rfl) | (obtain ⟨_, _, _, _, _, _, _, _, _, _, _, _, _, _, _, _, _, rfl, _⟩ := h; rfl) | (obtain ⟨_, _, _, _, _, _, _, _, _, _, _, _, _, _, _, _, _, _, rfl, _⟩ := h; rfl))
  (fun cdv A outer s H vs Q Q0 E hcd hr h fin => ⟨t_lodged K w, PSs.nox ((pss_cons (ps_expr (pe_callN (ok_check_requests T) T.g_check_requests (hr.mono (by decide)) pass0 (pa_cons (pv 0) pa_nil)))
    (pss_cons (ps_expr (pe_callN (ok_check_rooms T) T.g_check_rooms (hr.mono (by decide)) pass0 (pa_cons (pv 1) (pa_cons pe_int pa_nil))))
    (pss_cons (ps_set (i := 2) sc_lodged.nd rfl (Or.inr rfl) (pe_lc (own := [("request", 9)]) (g := (gName 9)) (tt := tYes) rfl sc_lodged.nd (pi_list (pv 0)) (blkOk_by (N := ["requests", "rooms", "found", "met", "at", "day", "there", "used", "room", "request", "one"]) (sc := defScope s_lodged) (by decide +kernel)) (fun _ _ _ _ _ => (pg_name (i := 9) sc_lodged.nd rfl (Or.inl rfl))) (fun _ _ _ _ _ => pts_nil) (fun _ _ _ _ _ => (pe_un un_neg pe_int))))
    (pss_cons (ps_set (i := 3) sc_lodged.nd rfl (Or.inl rfl) (pe_lst pa_nil))
    (pss_cons (ps_for PassesOwn.never rfl (pi_list (pe_sortLam (T := TT K) (c := (He.cT K ("lodged", none)).1) (P := (He.cT K ("lodged", none)).2) (rq := "requests") (one := "one") rfl ⟨by decide +kernel, by decide +kernel, by decide +kernel, by decide +kernel, by decide +kernel, by decide +kernel, by decide +kernel⟩ hr (hu_lodged hr) rfl T.f_sorted (pe_rgV rfl T.f_range (pe_callB call_len_seq rfl T.f_len PySem.boot_len (pa_cons (pv 0) pa_nil))) rfl (by rfl) T.tb hcd (List.mem_singleton.mpr rfl) (fun p hp _ => congrArg Prod.snd (List.mem_singleton.mp hp)) rfl (fun _ _ _ _ _ _ => rfl) (by decide +kernel) (by decide +kernel) (by decide +kernel))) (pg_name (i := 4) sc_lodged.nd rfl (Or.inl rfl)) (pss_cons (ps_set (i := 5) sc_lodged.nd rfl (Or.inl rfl) (pe_ix ix_tup (pe_ix ix_list (pv 0) (pv 4) (fun _ _ => rfl)) pe_int (fun _ _ => rfl)))
    (pss_cons (ps_expr (pe_bm PySem.F.plainAttrs_list PySem.F.slot_list_append PySem.F.type_list_append mt_append (pv 3) (pa_cons (pv 4) pa_nil)))
    (pss_cons (ps_set (i := 6) sc_lodged.nd rfl (Or.inl rfl) (pe_callN (ok_for_day T) T.g_for_day (hr.mono (by decide)) pass0 (pa_cons (pv 0) (pa_cons (pv 3) (pa_cons (pv 5) pa_nil)))))
    (pss_cons (ps_if (pt_cmpR op_gt (pe_callB call_len_seq rfl T.f_len PySem.boot_len (pa_cons (pv 6) pa_nil)) (pv 1) (nomark _)) (pss_one (ps_ret (pe_makeN T.k_Crowd (ok_Crowd___init__ T) T.g_Crowd (hr.mono (by decide)) pass0 (pa_cons (pv 5) (pa_cons (pe_callB cr_sortedI rfl T.f_sorted (by decide +kernel) (pa_cons (pv 6) pa_nil)) pa_nil))))) pss_nil)
    (pss_cons (ps_setLc (i := 7) (own := [("one", 10)]) (g := (gName 10)) (tt := tYes) rfl sc_lodged.nd rfl rfl (sw_true rfl rfl rfl (by decide +kernel)) (pi_list (pv 6)) (blkOk_by (N := ["requests", "rooms", "found", "met", "at", "day", "there", "used", "room", "request", "one"]) (sc := defScope s_lodged) (by decide +kernel)) (fun _ _ _ _ _ => (pg_name (i := 10) sc_lodged.nd rfl (Or.inl rfl))) (fun _ _ _ _ _ => pts_nil) (fun _ _ _ _ _ => (pe_ix ix_list (pv 2) (pv 10) (fun _ _ => rfl))))
    (pss_cons (ps_set (i := 8) sc_lodged.nd rfl (Or.inl rfl) pe_int)
    (pss_cons (ps_while PassesOwn.never (pt_cmpR op_in_seq (pv 8) (pv 7) (by with_unfolding_all rfl)) (pss_one (ps_aug (i := 8) sc_lodged.nd rfl (Or.inl rfl) pe_int ip_add)))
    (pss_one (ps_asg (pv 8) (pg_sub (pv 2) (pv 4) set_list)))))))))))
    (pss_one (ps_ret (pe_makeN T.k_Lodged (ok_Lodged___init__ T) T.g_Lodged (hr.mono (by decide)) pass0 (pa_cons (pv 2) pa_nil)))))))))), pure_lodged  h fin⟩)
theorem ok__law_says (T : Txt K mg base) : FnB P w K mg base CX0 1 ("_law_says", none) ["_law_said", "_law_wanted"] (sp__law_says K w) :=
  FnB.mk' T.d__law_says sc__law_says (fun _ _ _ _ _ _ us hl => match us, hl with | [_, _], _ => rfl) (fun vs H Q E h => by first | (obtain ⟨_, rfl, _⟩ := h; rfl) | (obtain ⟨_, _, rfl, _⟩ := h; rfl) | (obtain ⟨_, _, _, rfl, _⟩ := h; rfl) | (obtain ⟨_, _, _, _, rfl, _⟩ := h; rfl) | (obtain ⟨_, _, _, _, _, rfl, _⟩ := h; rfl) | (obtain ⟨_, _, _, _, _, _, rfl, _⟩ := h; rfl) | (obtain ⟨_, _, _, _, _, _, _, rfl, _⟩ := h; rfl) | (obtain ⟨_, _, _, _, _, _, _, _, rfl, _⟩ := h; rfl) | (obtain ⟨_, _, _, _, _, _, _, _, _, rfl, _⟩ := h; rfl) | (obtain ⟨_, _, _, _, _, _, _, _, _, _, rfl, _⟩ := h; rfl) | (obtain ⟨_, _, _, _, _, _, _, _, _, _, _, rfl, _⟩ := h; rfl) | (obtain ⟨_, _, _, _, _, _, _, _, _, _, _, _, rfl, _⟩ := h; rfl) | (obtain ⟨_, _, _, _, _, _, _, _, _, _, _, _, _, rfl, _⟩ := h; rfl) | (obtain ⟨_, _, _, _, _, _, _, _, _, _, _, _, _, _, rfl, _⟩ := h; rfl) | (obtain ⟨_, _, _, _, _, _, _, _, _, _, _, _, _, _, _, rfl, _⟩ := h; rfl) | (obtain ⟨_, _, _, _, _, _, _, _, _, _, _, _, _, _, _, _, rfl, _⟩ := h; rfl) | (obtain ⟨_, _, _, _, _, _, _, _, _, _, _, _, _, _, _, _, _, rfl, _⟩ := h; rfl) | (obtain ⟨_, _, _, _, _, _, _, _, _, _, _, _, _, _, _, _, _, _, rfl, _⟩ := h; rfl))
  (fun cdv A outer s H vs Q Q0 E hr h fin => ⟨t__law_says K w, PSs.nox ((pss_one (ps_ret (pe_and (pe_callB call_isi rfl T.f_isinstance (by decide +kernel) (pa_cons (pv 0) (pa_cons (pe_bltn rfl T.f_bool (by decide +kernel) rfl) pa_nil))) (pe_one (pe_cmpR op_eq (pv 0) (pv 1) (nomark _))))))), pure__law_says  h fin⟩)
theorem ok_bound_by (T : Txt K mg base) : FnB P w K mg base CX0 1 ("bound_by", none) ["requests", "rooms", "tolls"] (sp_bound_by K w) :=
  FnB.mk' T.d_bound_by sc_bound_by (fun _ _ _ _ _ _ us hl => match us, hl with | [_, _, _], _ => rfl) (fun vs H Q E h => by first | (obtain ⟨_, rfl, _⟩ := h; rfl) | (obtain ⟨_, _, rfl, _⟩ := h; rfl) | (obtain ⟨_, _, _, rfl, _⟩ := h; rfl) | (obtain ⟨_, _, _, _, rfl, _⟩ := h; rfl) | (obtain ⟨_, _, _, _, _, rfl, _⟩ := h; rfl) | (obtain ⟨_, _, _, _, _, _, rfl, _⟩ := h; rfl) | (obtain ⟨_, _, _, _, _, _, _, rfl, _⟩ := h; rfl) | (obtain ⟨_, _, _, _, _, _, _, _, rfl, _⟩ := h; rfl) | (obtain ⟨_, _, _, _, _, _, _, _, _, rfl, _⟩ := h; rfl) | (obtain ⟨_, _, _, _, _, _, _, _, _, _, rfl, _⟩ := h; rfl) | (obtain ⟨_, _, _, _, _, _, _, _, _, _, _, rfl, _⟩ := h; rfl) | (obtain ⟨_, _, _, _, _, _, _, _, _, _, _, _, rfl, _⟩ := h; rfl) | (obtain ⟨_, _, _, _, _, _, _, _, _, _, _, _, _, rfl, _⟩ := h; rfl) | (obtain ⟨_, _, _, _, _, _, _, _, _, _, _, _, _, _, rfl, _⟩ := h; rfl) | (obtain ⟨_, _, _, _, _, _, _, _, _, _, _, _, _, _, _, rfl, _⟩ := h; rfl) | (obtain ⟨_, _, _, _, _, _, _, _, _, _, _, _, _, _, _, _, rfl, _⟩ := h; rfl) | (obtain ⟨_, _, _, _, _, _, _, _, _, _, _, _, _, _, _, _, _, rfl, _⟩ := h; rfl) | (obtain ⟨_, _, _, _, _, _, _, _, _, _, _, _, _, _, _, _, _, _, rfl, _⟩ := h; rfl))
  (fun cdv A outer s H vs Q Q0 E hr h fin => ⟨t_bound_by K w, PSs.nox ((pss_cons (ps_set (i := 3) sc_bound_by.nd rfl (Or.inl rfl) (pe_op op_mul (pv 1) (pe_callB (cr_sum rfl) rfl T.f_sum (by decide +kernel) (pa_cons (pe_lc (own := [("day", 8), ("amount", 9)]) (g := (gTup K 2 (gCons (gName 8) (gCons (gName 9) gNil)))) (tt := tYes) rfl sc_bound_by.nd (pi_list (pv 2)) (blkOk_by (N := ["requests", "rooms", "tolls", "total", "first", "last", "price", "toll", "day", "amount"]) (sc := defScope s_bound_by) (by decide +kernel)) (fun _ _ _ _ _ => (pg_tup rfl (pgs_cons (pg_name (i := 8) sc_bound_by.nd rfl (Or.inl rfl)) (pgs_cons (pg_name (i := 9) sc_bound_by.nd rfl (Or.inl rfl)) pgs_nil)))) (fun _ _ _ _ _ => pts_nil) (fun _ _ _ _ _ => (pv 9))) pa_nil))))
    (pss_cons (ps_for PassesOwn.never rfl (pi_list (pv 0)) (pg_tup rfl (pgs_cons (pg_name (i := 4) sc_bound_by.nd rfl (Or.inr rfl)) (pgs_cons (pg_name (i := 5) sc_bound_by.nd rfl (Or.inr rfl)) (pgs_cons (pg_name (i := 6) sc_bound_by.nd rfl (Or.inl rfl)) pgs_nil)))) (pss_cons (ps_set (i := 7) sc_bound_by.nd rfl (Or.inl rfl) (pe_callB (cr_sum rfl) rfl T.f_sum (by decide +kernel) (pa_cons (pe_lc (own := [("day", 8), ("amount", 9)]) (g := (gTup K 2 (gCons (gName 8) (gCons (gName 9) gNil)))) (tt := (tTest (tChain qLe qLe (tVar 4) (tVar 8) (tVar 5)))) rfl sc_bound_by.nd (pi_list (pv 2)) (blkOk_by (N := ["requests", "rooms", "tolls", "total", "first", "last", "price", "toll", "day", "amount"]) (sc := defScope s_bound_by) (by decide +kernel)) (fun _ _ _ _ _ => (pg_tup rfl (pgs_cons (pg_name (i := 8) sc_bound_by.nd rfl (Or.inl rfl)) (pgs_cons (pg_name (i := 9) sc_bound_by.nd rfl (Or.inl rfl)) pgs_nil)))) (fun _ _ _ _ _ => (pts_one (pt_chain op_le op_le (pv 4) (pv 8) (pv 5)))) (fun _ _ _ _ _ => (pv 9))) pa_nil)))
    (pss_one (ps_aug (i := 3) sc_bound_by.nd rfl (Or.inl rfl) (pe_callB (call_max2 rfl) rfl T.f_max (by decide +kernel) (pa_cons pe_int (pa_cons (pe_op op_sub (pv 6) (pv 7)) pa_nil))) ip_add))))
    (pss_one (ps_ret (pv 3)))))), pure_bound_by  h fin⟩)
theorem ok_is_choice (T : Txt K mg base) : FnB P w K mg base CX0 2 ("is_choice", none) ["requests", "some"] (sp_is_choice K w) :=
  FnB.mk' T.d_is_choice sc_is_choice (fun _ _ _ _ _ _ us hl => match us, hl with | [_, _], _ => rfl) (fun vs H Q E h => by first | (obtain ⟨_, rfl, _⟩ := h; rfl) | (obtain ⟨_, _, rfl, _⟩ := h; rfl) | (obtain ⟨_, _, _, rfl, _⟩ := h; rfl) | (obtain ⟨_, _, _, _, rfl, _⟩ := h; rfl) | (obtain ⟨_, _, _, _, _, rfl, _⟩ := h; rfl) | (obtain ⟨_, _, _, _, _, _, rfl, _⟩ := h; rfl) | (obtain ⟨_, _, _, _, _, _, _, rfl, _⟩ := h; rfl) | (obtain ⟨_, _, _, _, _, _, _, _, rfl, _⟩ := h; rfl) | (obtain ⟨_, _, _, _, _, _, _, _, _, rfl, _⟩ := h; rfl) | (obtain ⟨_, _, _, _, _, _, _, _, _, _, rfl, _⟩ := h; rfl) | (obtain ⟨_, _, _, _, _, _, _, _, _, _, _, rfl, _⟩ := h; rfl) | (obtain ⟨_, _, _, _, _, _, _, _, _, _, _, _, rfl, _⟩ := h; rfl) | (obtain ⟨_, _, _, _, _, _, _, _, _, _, _, _, _, rfl, _⟩ := h; rfl) | (obtain ⟨_, _, _, _, _, _, _, _, _, _, _, _, _, _, rfl, _⟩ := h; rfl) | (obtain ⟨_, _, _, _, _, _, _, _, _, _, _, _, _, _, _, rfl, _⟩ := h; rfl) | (obtain ⟨_, _, _, _, _, _, _, _, _, _, _, _, _, _, _, _, rfl, _⟩ := h; rfl) | (obtain ⟨_, _, _, _, _, _, _, _, _, _, _, _, _, _, _, _, _, rfl, _⟩ := h; rfl) | (obtain ⟨_, _, _, _, _, _, _, _, _, _, _, _, _, _, _, _, _, _, rfl, _⟩ := h; rfl))
  (fun cdv A outer s H vs Q Q0 E hr h fin => ⟨t_is_choice K w, PSs.nox ((pss_cons (ps_set (i := 2) sc_is_choice.nd rfl (Or.inl rfl) (pe_un un_neg pe_int))
    (pss_cons (ps_for PassesOwn.never rfl (pi_list (pv 1)) (pg_name (i := 3) sc_is_choice.nd rfl (Or.inl rfl)) (pss_cons (ps_if (PW.pt (pw_or (pt_not (pt_val (pe_callN (ok_is_whole T) T.g_is_whole (hr.mono (by decide)) pass0 (pa_cons (pv 3) pa_nil)))) (pw_or1 (pt_not (pt_chain op_lt op_lt (pv 2) (pv 3) (pe_callB call_len_seq rfl T.f_len PySem.boot_len (pa_cons (pv 0) pa_nil))))))) (pss_one (ps_ret pe_bl)) pss_nil)
    (pss_one (ps_set (i := 2) sc_is_choice.nd rfl (Or.inl rfl) (pv 3)))))
    (pss_one (ps_ret pe_bl))))), pure_is_choice  h fin⟩)
theorem ok_fits (T : Txt K mg base) : FnB P w K mg base CX0 2 ("fits", none) ["requests", "rooms", "some"] (sp_fits K w) :=
  FnB.mk' T.d_fits sc_fits (fun _ _ _ _ _ _ us hl => match us, hl with | [_, _, _], _ => rfl) (fun vs H Q E h => by first | (obtain ⟨_, rfl, _⟩ := h; rfl) | (obtain ⟨_, _, rfl, _⟩ := h; rfl) | (obtain ⟨_, _, _, rfl, _⟩ := h; rfl) | (obtain ⟨_, _, _, _, rfl, _⟩ := h; rfl) | (obtain ⟨_, _, _, _, _, rfl, _⟩ := h; rfl) | (obtain ⟨_, _, _, _, _, _, rfl, _⟩ := h; rfl) | (obtain ⟨_, _, _, _, _, _, _, rfl, _⟩ := h; rfl) | (obtain ⟨_, _, _, _, _, _, _, _, rfl, _⟩ := h; rfl) | (obtain ⟨_, _, _, _, _, _, _, _, _, rfl, _⟩ := h; rfl) | (obtain ⟨_, _, _, _, _, _, _, _, _, _, rfl, _⟩ := h; rfl) | (obtain ⟨_, _, _, _, _, _, _, _, _, _, _, rfl, _⟩ := h; rfl) | (obtain ⟨_, _, _, _, _, _, _, _, _, _, _, _, rfl, _⟩ := h; rfl) | (obtain ⟨_, _, _, _, _, _, _, _, _, _, _, _, _, rfl, _⟩ := h; rfl) | (obtain ⟨_, _, _, _, _, _, _, _, _, _, _, _, _, _, rfl, _⟩ := h; rfl) | (obtain ⟨_, _, _, _, _, _, _, _, _, _, _, _, _, _, _, rfl, _⟩ := h; rfl) | (obtain ⟨_, _, _, _, _, _, _, _, _, _, _, _, _, _, _, _, rfl, _⟩ := h; rfl) | (obtain ⟨_, _, _, _, _, _, _, _, _, _, _, _, _, _, _, _, _, rfl, _⟩ := h; rfl) | (obtain ⟨_, _, _, _, _, _, _, _, _, _, _, _, _, _, _, _, _, _, rfl, _⟩ := h; rfl))
  (fun cdv A outer s H vs Q Q0 E hr h fin => ⟨t_fits K w, PSs.nox ((pss_one (ps_ret (pe_callB (cr_all rfl) rfl T.f_all (by decide +kernel) (pa_cons (pe_lc (own := [("at", 3)]) (g := (gName 3)) (tt := tYes) rfl sc_fits.nd (pi_list (pv 2)) (blkOk_by (N := ["requests", "rooms", "some", "at"]) (sc := defScope s_fits) (by decide +kernel)) (fun _ _ _ _ _ => (pg_name (i := 3) sc_fits.nd rfl (Or.inl rfl))) (fun _ _ _ _ _ => pts_nil) (fun _ _ _ _ _ => (pe_shr (pe_cmpR op_le (pe_callB call_len_seq rfl T.f_len PySem.boot_len (pa_cons (pe_callN (ok_for_day T) T.g_for_day (hr.mono (by decide)) pass0 (pa_cons (pv 0) (pa_cons (pv 2) (pa_cons (pe_ix ix_tup (pe_ix ix_list (pv 0) (pv 3) (fun _ _ => rfl)) pe_int (fun _ _ => rfl)) pa_nil)))) pa_nil)) (pv 1) (nomark _))))) pa_nil))))), pure_fits  h fin⟩)
theorem ok_are_tolls (T : Txt K mg base) : FnB P w K mg base CX0 2 ("are_tolls", none) ["tolls"] (sp_are_tolls K w) :=
  FnB.mk' T.d_are_tolls sc_are_tolls (fun _ _ _ _ _ _ us hl => match us, hl with | [_], _ => rfl) (fun vs H Q E h => by first | (obtain ⟨_, rfl, _⟩ := h; rfl) | (obtain ⟨_, _, rfl, _⟩ := h; rfl) | (obtain ⟨_, _, _, rfl, _⟩ := h; rfl) | (obtain ⟨_, _, _, _, rfl, _⟩ := h; rfl) | (obtain ⟨_, _, _, _, _, rfl, _⟩ := h; rfl) | (obtain ⟨_, _, _, _, _, _, rfl, _⟩ := h; rfl) | (obtain ⟨_, _, _, _, _, _, _, rfl, _⟩ := h; rfl) | (obtain ⟨_, _, _, _, _, _, _, _, rfl, _⟩ := h; rfl) | (obtain ⟨_, _, _, _, _, _, _, _, _, rfl, _⟩ := h; rfl) | (obtain ⟨_, _, _, _, _, _, _, _, _, _, rfl, _⟩ := h; rfl) | (obtain ⟨_, _, _, _, _, _, _, _, _, _, _, rfl, _⟩ := h; rfl) | (obtain ⟨_, _, _, _, _, _, _, _, _, _, _, _, rfl, _⟩ := h; rfl) | (obtain ⟨_, _, _, _, _, _, _, _, _, _, _, _, _, rfl, _⟩ := h; rfl) | (obtain ⟨_, _, _, _, _, _, _, _, _, _, _, _, _, _, rfl, _⟩ := h; rfl) | (obtain ⟨_, _, _, _, _, _, _, _, _, _, _, _, _, _, _, rfl, _⟩ := h; rfl) | (obtain ⟨_, _, _, _, _, _, _, _, _, _, _, _, _, _, _, _, rfl, _⟩ := h; rfl) | (obtain ⟨_, _, _, _, _, _, _, _, _, _, _, _, _, _, _, _, _, rfl, _⟩ := h; rfl) | (obtain ⟨_, _, _, _, _, _, _, _, _, _, _, _, _, _, _, _, _, _, rfl, _⟩ := h; rfl))
  (fun cdv A outer s H vs Q Q0 E hr h fin => ⟨t_are_tolls K w, PSs.nox ((pss_cons (ps_if (pt_not (pt_val (pe_callB (cr_all rfl) rfl T.f_all (by decide +kernel) (pa_cons (pe_lc (own := [("day", 2), ("amount", 3)]) (g := (gTup K 2 (gCons (gName 2) (gCons (gName 3) gNil)))) (tt := tYes) rfl sc_are_tolls.nd (pi_list (pv 0)) (blkOk_by (N := ["tolls", "k", "day", "amount"]) (sc := defScope s_are_tolls) (by decide +kernel)) (fun _ _ _ _ _ => (pg_tup rfl (pgs_cons (pg_name (i := 2) sc_are_tolls.nd rfl (Or.inl rfl)) (pgs_cons (pg_name (i := 3) sc_are_tolls.nd rfl (Or.inl rfl)) pgs_nil)))) (fun _ _ _ _ _ => pts_nil) (fun _ _ _ _ _ => (pe_and (pe_callN (ok_is_whole T) T.g_is_whole (hr.mono (by decide)) pass0 (pa_cons (pv 2) pa_nil)) (pe_and (pe_callN (ok_is_whole T) T.g_is_whole (hr.mono (by decide)) pass0 (pa_cons (pv 3) pa_nil)) (pe_one (pe_cmpR op_ge (pv 3) pe_int (nomark _))))))) pa_nil)))) (pss_one (ps_ret pe_bl)) pss_nil)
    (pss_one (ps_ret (pe_callB (cr_all rfl) rfl T.f_all (by decide +kernel) (pa_cons (pe_lc (own := [("k", 1)]) (g := (gName 1)) (tt := tYes) rfl sc_are_tolls.nd (pi_range2 rfl T.f_range (pa_cons pe_int (pa_cons (pe_callB call_len_seq rfl T.f_len PySem.boot_len (pa_cons (pv 0) pa_nil)) pa_nil))) (blkOk_by (N := ["tolls", "k", "day", "amount"]) (sc := defScope s_are_tolls) (by decide +kernel)) (fun _ _ _ _ _ => (pg_name (i := 1) sc_are_tolls.nd rfl (Or.inl rfl))) (fun _ _ _ _ _ => pts_nil) (fun _ _ _ _ _ => (pe_cmpR op_lt (pe_ix ix_tup (pe_ix ix_list (pv 0) (pe_op op_sub (pv 1) pe_int) (fun _ _ => rfl)) pe_int (fun _ _ => rfl)) (pe_ix ix_tup (pe_ix ix_list (pv 0) (pv 1) (fun _ _ => rfl)) pe_int (fun _ _ => rfl)) (nomark _)))) pa_nil)))))), pure_are_tolls  h fin⟩)
theorem ok_is_best (T : Txt K mg base) : FnB P w K mg base CX0 3 ("is_best", none) ["requests", "rooms", "some", "tolls"] (sp_is_best K w) :=
  FnB.mk' T.d_is_best sc_is_best (fun _ _ _ _ _ _ us hl => match us, hl with | [_, _, _, _], _ => rfl) (fun vs H Q E h => by first | (obtain ⟨_, rfl, _⟩ := h; rfl) | (obtain ⟨_, _, rfl, _⟩ := h; rfl) | (obtain ⟨_, _, _, rfl, _⟩ := h; rfl) | (obtain ⟨_, _, _, _, rfl, _⟩ := h; rfl) | (obtain ⟨_, _, _, _, _, rfl, _⟩ := h; rfl) | (obtain ⟨_, _, _, _, _, _, rfl, _⟩ := h; rfl) | (obtain ⟨_, _, _, _, _, _, _, rfl, _⟩ := h; rfl) | (obtain ⟨_, _, _, _, _, _, _, _, rfl, _⟩ := h; rfl) | (obtain ⟨_, _, _, _, _, _, _, _, _, rfl, _⟩ := h; rfl) | (obtain ⟨_, _, _, _, _, _, _, _, _, _, rfl, _⟩ := h; rfl) | (obtain ⟨_, _, _, _, _, _, _, _, _, _, _, rfl, _⟩ := h; rfl) | (obtain ⟨_, _, _, _, _, _, _, _, _, _, _, _, rfl, _⟩ := h; rfl) | (obtain ⟨_, _, _, _, _, _, _, _, _, _, _, _, _, rfl, _⟩ := h; rfl) | (obtain ⟨_, _, _, _, _, _, _, _, _, _, _, _, _, _, rfl, _⟩ := h; rfl) | (obtain ⟨_, _, _, _, _, _, _, _, _, _, _, _, _, _, _, rfl, _⟩ := h; rfl) | (obtain ⟨_, _, _, _, _, _, _, _, _, _, _, _, _, _, _, _, rfl, _⟩ := h; rfl) | (obtain ⟨_, _, _, _, _, _, _, _, _, _, _, _, _, _, _, _, _, rfl, _⟩ := h; rfl) | (obtain ⟨_, _, _, _, _, _, _, _, _, _, _, _, _, _, _, _, _, _, rfl, _⟩ := h; rfl))
  (fun cdv A outer s H vs Q Q0 E hr h fin => ⟨t_is_best K w, PSs.nox ((pss_cons (ps_if (PW.pt (pw_or (pt_not (pt_val (pe_callN (ok_is_choice T) T.g_is_choice (hr.mono (by decide)) pass0 (pa_cons (pv 0) (pa_cons (pv 2) pa_nil))))) (pw_or (pt_not (pt_val (pe_callN (ok_fits T) T.g_fits (hr.mono (by decide)) pass0 (pa_cons (pv 0) (pa_cons (pv 1) (pa_cons (pv 2) pa_nil)))))) (pw_or1 (pt_not (pt_val (pe_callN (ok_are_tolls T) T.g_are_tolls (hr.mono (by decide)) pass0 (pa_cons (pv 3) pa_nil)))))))) (pss_one (ps_ret pe_bl)) pss_nil)
    (pss_one (ps_ret (pe_cmpR op_eq (pe_callN (ok_worth_of T) T.g_worth_of (hr.mono (by decide)) pass0 (pa_cons (pv 0) (pa_cons (pv 2) pa_nil))) (pe_callN (ok_bound_by T) T.g_bound_by (hr.mono (by decide)) pass0 (pa_cons (pv 0) (pa_cons (pv 1) (pa_cons (pv 3) pa_nil)))) (nomark _)))))), pure_is_best  h fin⟩)
theorem ok_Best_shows (T : Txt K mg base) : FnB P w K mg base CX0 4 ("Best", some "shows") ["self", "requests", "rooms"] (sp_Best_shows K w) :=
  FnB.mk' T.d_Best_shows sc_Best_shows (fun _ _ _ _ _ _ us hl => match us, hl with | [_, _, _], _ => rfl) (fun vs H Q E h => by first | (obtain ⟨_, rfl, _⟩ := h; rfl) | (obtain ⟨_, _, rfl, _⟩ := h; rfl) | (obtain ⟨_, _, _, rfl, _⟩ := h; rfl) | (obtain ⟨_, _, _, _, rfl, _⟩ := h; rfl) | (obtain ⟨_, _, _, _, _, rfl, _⟩ := h; rfl) | (obtain ⟨_, _, _, _, _, _, rfl, _⟩ := h; rfl) | (obtain ⟨_, _, _, _, _, _, _, rfl, _⟩ := h; rfl) | (obtain ⟨_, _, _, _, _, _, _, _, rfl, _⟩ := h; rfl) | (obtain ⟨_, _, _, _, _, _, _, _, _, rfl, _⟩ := h; rfl) | (obtain ⟨_, _, _, _, _, _, _, _, _, _, rfl, _⟩ := h; rfl) | (obtain ⟨_, _, _, _, _, _, _, _, _, _, _, rfl, _⟩ := h; rfl) | (obtain ⟨_, _, _, _, _, _, _, _, _, _, _, _, rfl, _⟩ := h; rfl) | (obtain ⟨_, _, _, _, _, _, _, _, _, _, _, _, _, rfl, _⟩ := h; rfl) | (obtain ⟨_, _, _, _, _, _, _, _, _, _, _, _, _, _, rfl, _⟩ := h; rfl) | (obtain ⟨_, _, _, _, _, _, _, _, _, _, _, _, _, _, _, rfl, _⟩ := h; rfl) | (obtain ⟨_, _, _, _, _, _, _, _, _, _, _, _, _, _, _, _, rfl, _⟩ := h; rfl) | (obtain ⟨_, _, _, _, _, _, _, _, _, _, _, _, _, _, _, _, _, rfl, _⟩ := h; rfl) | (obtain ⟨_, _, _, _, _, _, _, _, _, _, _, _, _, _, _, _, _, _, rfl, _⟩ := h; rfl))
  (fun cdv A outer s H vs Q Q0 E hr h fin => ⟨t_Best_shows K w, PSs.nox ((pss_one (ps_ret (pe_callN (ok_is_best T) T.g_is_best (hr.mono (by decide)) pass0 (pa_cons (pv 1) (pa_cons (pv 2) (pa_cons (pe_fld (pv 0) rfl) (pa_cons (pe_fld (pv 0) rfl) pa_nil)))))))), pure_Best_shows T.c_Best T.n_Best_taken T.n_Best_tolls h fin⟩)
theorem ok__law_whole (T : Txt K mg base) : FnB P w K mg base CX0 1 ("_law_whole", none) ["_law_number"] (sp__law_whole K w) :=
  FnB.mk' T.d__law_whole sc__law_whole (fun _ _ _ _ _ _ us hl => match us, hl with | [_], _ => rfl) (fun vs H Q E h => by first | (obtain ⟨_, rfl, _⟩ := h; rfl) | (obtain ⟨_, _, rfl, _⟩ := h; rfl) | (obtain ⟨_, _, _, rfl, _⟩ := h; rfl) | (obtain ⟨_, _, _, _, rfl, _⟩ := h; rfl) | (obtain ⟨_, _, _, _, _, rfl, _⟩ := h; rfl) | (obtain ⟨_, _, _, _, _, _, rfl, _⟩ := h; rfl) | (obtain ⟨_, _, _, _, _, _, _, rfl, _⟩ := h; rfl) | (obtain ⟨_, _, _, _, _, _, _, _, rfl, _⟩ := h; rfl) | (obtain ⟨_, _, _, _, _, _, _, _, _, rfl, _⟩ := h; rfl) | (obtain ⟨_, _, _, _, _, _, _, _, _, _, rfl, _⟩ := h; rfl) | (obtain ⟨_, _, _, _, _, _, _, _, _, _, _, rfl, _⟩ := h; rfl) | (obtain ⟨_, _, _, _, _, _, _, _, _, _, _, _, rfl, _⟩ := h; rfl) | (obtain ⟨_, _, _, _, _, _, _, _, _, _, _, _, _, rfl, _⟩ := h; rfl) | (obtain ⟨_, _, _, _, _, _, _, _, _, _, _, _, _, _, rfl, _⟩ := h; rfl) | (obtain ⟨_, _, _, _, _, _, _, _, _, _, _, _, _, _, _, rfl, _⟩ := h; rfl) | (obtain ⟨_, _, _, _, _, _, _, _, _, _, _, _, _, _, _, _, rfl, _⟩ := h; rfl) | (obtain ⟨_, _, _, _, _, _, _, _, _, _, _, _, _, _, _, _, _, rfl, _⟩ := h; rfl) | (obtain ⟨_, _, _, _, _, _, _, _, _, _, _, _, _, _, _, _, _, _, rfl, _⟩ := h; rfl))
  (fun cdv A outer s H vs Q Q0 E hr h fin => ⟨t__law_whole K w, PSs.nox ((pss_one (ps_ret (pe_and (pe_callB call_isi rfl T.f_isinstance (by decide +kernel) (pa_cons (pv 0) (pa_cons (pe_bltn rfl T.f_int (by decide +kernel) rfl) pa_nil))) (pe_one (pe_not (pe_callB call_isi rfl T.f_isinstance (by decide +kernel) (pa_cons (pv 0) (pa_cons (pe_bltn rfl T.f_bool (by decide +kernel) rfl) pa_nil))))))))), pure__law_whole  h fin⟩)
theorem ok__law_chosen (T : Txt K mg base) : FnB P w K mg base CX0 2 ("_law_chosen", none) ["_law_requests_here", "_law_some"] (sp__law_chosen K w) :=
  FnB.mk' T.d__law_chosen sc__law_chosen (fun _ _ _ _ _ _ us hl => match us, hl with | [_, _], _ => rfl) (fun vs H Q E h => by first | (obtain ⟨_, rfl, _⟩ := h; rfl) | (obtain ⟨_, _, rfl, _⟩ := h; rfl) | (obtain ⟨_, _, _, rfl, _⟩ := h; rfl) | (obtain ⟨_, _, _, _, rfl, _⟩ := h; rfl) | (obtain ⟨_, _, _, _, _, rfl, _⟩ := h; rfl) | (obtain ⟨_, _, _, _, _, _, rfl, _⟩ := h; rfl) | (obtain ⟨_, _, _, _, _, _, _, rfl, _⟩ := h; rfl) | (obtain ⟨_, _, _, _, _, _, _, _, rfl, _⟩ := h; rfl) | (obtain ⟨_, _, _, _, _, _, _, _, _, rfl, _⟩ := h; rfl) | (obtain ⟨_, _, _, _, _, _, _, _, _, _, rfl, _⟩ := h; rfl) | (obtain ⟨_, _, _, _, _, _, _, _, _, _, _, rfl, _⟩ := h; rfl) | (obtain ⟨_, _, _, _, _, _, _, _, _, _, _, _, rfl, _⟩ := h; rfl) | (obtain ⟨_, _, _, _, _, _, _, _, _, _, _, _, _, rfl, _⟩ := h; rfl) | (obtain ⟨_, _, _, _, _, _, _, _, _, _, _, _, _, _, rfl, _⟩ := h; rfl) | (obtain ⟨_, _, _, _, _, _, _, _, _, _, _, _, _, _, _, rfl, _⟩ := h; rfl) | (obtain ⟨_, _, _, _, _, _, _, _, _, _, _, _, _, _, _, _, rfl, _⟩ := h; rfl) | (obtain ⟨_, _, _, _, _, _, _, _, _, _, _, _, _, _, _, _, _, rfl, _⟩ := h; rfl) | (obtain ⟨_, _, _, _, _, _, _, _, _, _, _, _, _, _, _, _, _, _, rfl, _⟩ := h; rfl))
  (fun cdv A outer s H vs Q Q0 E hr h fin => ⟨t__law_chosen K w, PSs.nox ((pss_cons (ps_if (pt_not (pt_val (pe_callB (cr_all rfl) rfl T.f_all (by decide +kernel) (pa_cons (pe_lc (own := [("_law_at", 2)]) (g := (gName 2)) (tt := tYes) rfl sc__law_chosen.nd (pi_list (pv 1)) (blkOk_by (N := ["_law_requests_here", "_law_some", "_law_at"]) (sc := defScope s__law_chosen) (by decide +kernel)) (fun _ _ _ _ _ => (pg_name (i := 2) sc__law_chosen.nd rfl (Or.inl rfl))) (fun _ _ _ _ _ => pts_nil) (fun _ _ _ _ _ => (pe_and (pe_callN (ok__law_whole T) T.g__law_whole (hr.mono (by decide)) pass0 (pa_cons (pv 2) pa_nil)) (pe_one (pe_chain op_le op_lt pe_int (pv 2) (pe_callB call_len_seq rfl T.f_len PySem.boot_len (pa_cons (pv 0) pa_nil))))))) pa_nil)))) (pss_one (ps_ret pe_bl)) pss_nil)
    (pss_one (ps_ret (pe_cmpR (op_eqD hr.units) (pv 1) (pe_callB (cr_sortedSetI rfl) rfl T.f_sorted (by decide +kernel) (pa_cons (pe_callTy (cr_setL rfl) rfl T.f_set (by decide +kernel) (pa_cons (pv 1) pa_nil)) pa_nil)) (nomark _)))))), pure__law_chosen  h fin⟩)
theorem ok__law_worth (T : Txt K mg base) : FnB P w K mg base CX0 1 ("_law_worth", none) ["_law_requests_here", "_law_some"] (sp__law_worth K w) :=
  FnB.mk' T.d__law_worth sc__law_worth (fun _ _ _ _ _ _ us hl => match us, hl with | [_, _], _ => rfl) (fun vs H Q E h => by first | (obtain ⟨_, rfl, _⟩ := h; rfl) | (obtain ⟨_, _, rfl, _⟩ := h; rfl) | (obtain ⟨_, _, _, rfl, _⟩ := h; rfl) | (obtain ⟨_, _, _, _, rfl, _⟩ := h; rfl) | (obtain ⟨_, _, _, _, _, rfl, _⟩ := h; rfl) | (obtain ⟨_, _, _, _, _, _, rfl, _⟩ := h; rfl) | (obtain ⟨_, _, _, _, _, _, _, rfl, _⟩ := h; rfl) | (obtain ⟨_, _, _, _, _, _, _, _, rfl, _⟩ := h; rfl) | (obtain ⟨_, _, _, _, _, _, _, _, _, rfl, _⟩ := h; rfl) | (obtain ⟨_, _, _, _, _, _, _, _, _, _, rfl, _⟩ := h; rfl) | (obtain ⟨_, _, _, _, _, _, _, _, _, _, _, rfl, _⟩ := h; rfl) | (obtain ⟨_, _, _, _, _, _, _, _, _, _, _, _, rfl, _⟩ := h; rfl) | (obtain ⟨_, _, _, _, _, _, _, _, _, _, _, _, _, rfl, _⟩ := h; rfl) | (obtain ⟨_, _, _, _, _, _, _, _, _, _, _, _, _, _, rfl, _⟩ := h; rfl) | (obtain ⟨_, _, _, _, _, _, _, _, _, _, _, _, _, _, _, rfl, _⟩ := h; rfl) | (obtain ⟨_, _, _, _, _, _, _, _, _, _, _, _, _, _, _, _, rfl, _⟩ := h; rfl) | (obtain ⟨_, _, _, _, _, _, _, _, _, _, _, _, _, _, _, _, _, rfl, _⟩ := h; rfl) | (obtain ⟨_, _, _, _, _, _, _, _, _, _, _, _, _, _, _, _, _, _, rfl, _⟩ := h; rfl))
  (fun cdv A outer s H vs Q Q0 E hr h fin => ⟨t__law_worth K w, PSs.nox ((pss_one (ps_ret (pe_callB (cr_sum rfl) rfl T.f_sum (by decide +kernel) (pa_cons (pe_lc (own := [("_law_at", 2)]) (g := (gName 2)) (tt := tYes) rfl sc__law_worth.nd (pi_list (pv 1)) (blkOk_by (N := ["_law_requests_here", "_law_some", "_law_at"]) (sc := defScope s__law_worth) (by decide +kernel)) (fun _ _ _ _ _ => (pg_name (i := 2) sc__law_worth.nd rfl (Or.inl rfl))) (fun _ _ _ _ _ => pts_nil) (fun _ _ _ _ _ => (pe_ix ix_tup (pe_ix ix_list (pv 0) (pv 2) (fun _ _ => rfl)) pe_int (fun _ _ => rfl)))) pa_nil))))), pure__law_worth  h fin⟩)
theorem ok__law_there (T : Txt K mg base) : FnB P w K mg base CX0 1 ("_law_there", none) ["_law_requests_here", "_law_some", "_law_day"] (sp__law_there K w) :=
  FnB.mk' T.d__law_there sc__law_there (fun _ _ _ _ _ _ us hl => match us, hl with | [_, _, _], _ => rfl) (fun vs H Q E h => by first | (obtain ⟨_, rfl, _⟩ := h; rfl) | (obtain ⟨_, _, rfl, _⟩ := h; rfl) | (obtain ⟨_, _, _, rfl, _⟩ := h; rfl) | (obtain ⟨_, _, _, _, rfl, _⟩ := h; rfl) | (obtain ⟨_, _, _, _, _, rfl, _⟩ := h; rfl) | (obtain ⟨_, _, _, _, _, _, rfl, _⟩ := h; rfl) | (obtain ⟨_, _, _, _, _, _, _, rfl, _⟩ := h; rfl) | (obtain ⟨_, _, _, _, _, _, _, _, rfl, _⟩ := h; rfl) | (obtain ⟨_, _, _, _, _, _, _, _, _, rfl, _⟩ := h; rfl) | (obtain ⟨_, _, _, _, _, _, _, _, _, _, rfl, _⟩ := h; rfl) | (obtain ⟨_, _, _, _, _, _, _, _, _, _, _, rfl, _⟩ := h; rfl) | (obtain ⟨_, _, _, _, _, _, _, _, _, _, _, _, rfl, _⟩ := h; rfl) | (obtain ⟨_, _, _, _, _, _, _, _, _, _, _, _, _, rfl, _⟩ := h; rfl) | (obtain ⟨_, _, _, _, _, _, _, _, _, _, _, _, _, _, rfl, _⟩ := h; rfl) | (obtain ⟨_, _, _, _, _, _, _, _, _, _, _, _, _, _, _, rfl, _⟩ := h; rfl) | (obtain ⟨_, _, _, _, _, _, _, _, _, _, _, _, _, _, _, _, rfl, _⟩ := h; rfl) | (obtain ⟨_, _, _, _, _, _, _, _, _, _, _, _, _, _, _, _, _, rfl, _⟩ := h; rfl) | (obtain ⟨_, _, _, _, _, _, _, _, _, _, _, _, _, _, _, _, _, _, rfl, _⟩ := h; rfl))
  (fun cdv A outer s H vs Q Q0 E hr h fin => ⟨t__law_there K w, PSs.nox ((pss_one (ps_ret (pe_lc (own := [("_law_at", 3)]) (g := (gName 3)) (tt := (tTest (tChain qLe qLe (tOp (rIxT K) (tOp (rIxL K) (tVar 0) (tVar 3)) (tC (.int 0))) (tVar 2) (tOp (rIxT K) (tOp (rIxL K) (tVar 0) (tVar 3)) (tC (.int 1)))))) rfl sc__law_there.nd (pi_list (pv 1)) (blkOk_by (N := ["_law_requests_here", "_law_some", "_law_day", "_law_at"]) (sc := defScope s__law_there) (by decide +kernel)) (fun _ _ _ _ _ => (pg_name (i := 3) sc__law_there.nd rfl (Or.inl rfl))) (fun _ _ _ _ _ => (pts_one (pt_chain op_le op_le (pe_ix ix_tup (pe_ix ix_list (pv 0) (pv 3) (fun _ _ => rfl)) pe_int (fun _ _ => rfl)) (pv 2) (pe_ix ix_tup (pe_ix ix_list (pv 0) (pv 3) (fun _ _ => rfl)) pe_int (fun _ _ => rfl))))) (fun _ _ _ _ _ => (pv 3)))))), pure__law_there  h fin⟩)
theorem ok__law_best (T : Txt K mg base) : FnB P w K mg base CX0 3 ("_law_best", none) ["_law_requests_here", "_law_rooms_here", "_law_some", "_law_tolls"] (sp__law_best K w) :=
  FnB.mk' T.d__law_best sc__law_best (fun _ _ _ _ _ _ us hl => match us, hl with | [_, _, _, _], _ => rfl) (fun vs H Q E h => by first | (obtain ⟨_, rfl, _⟩ := h; rfl) | (obtain ⟨_, _, rfl, _⟩ := h; rfl) | (obtain ⟨_, _, _, rfl, _⟩ := h; rfl) | (obtain ⟨_, _, _, _, rfl, _⟩ := h; rfl) | (obtain ⟨_, _, _, _, _, rfl, _⟩ := h; rfl) | (obtain ⟨_, _, _, _, _, _, rfl, _⟩ := h; rfl) | (obtain ⟨_, _, _, _, _, _, _, rfl, _⟩ := h; rfl) | (obtain ⟨_, _, _, _, _, _, _, _, rfl, _⟩ := h; rfl) | (obtain ⟨_, _, _, _, _, _, _, _, _, rfl, _⟩ := h; rfl) | (obtain ⟨_, _, _, _, _, _, _, _, _, _, rfl, _⟩ := h; rfl) | (obtain ⟨_, _, _, _, _, _, _, _, _, _, _, rfl, _⟩ := h; rfl) | (obtain ⟨_, _, _, _, _, _, _, _, _, _, _, _, rfl, _⟩ := h; rfl) | (obtain ⟨_, _, _, _, _, _, _, _, _, _, _, _, _, rfl, _⟩ := h; rfl) | (obtain ⟨_, _, _, _, _, _, _, _, _, _, _, _, _, _, rfl, _⟩ := h; rfl) | (obtain ⟨_, _, _, _, _, _, _, _, _, _, _, _, _, _, _, rfl, _⟩ := h; rfl) | (obtain ⟨_, _, _, _, _, _, _, _, _, _, _, _, _, _, _, _, rfl, _⟩ := h; rfl) | (obtain ⟨_, _, _, _, _, _, _, _, _, _, _, _, _, _, _, _, _, rfl, _⟩ := h; rfl) | (obtain ⟨_, _, _, _, _, _, _, _, _, _, _, _, _, _, _, _, _, _, rfl, _⟩ := h; rfl))
  (fun cdv A outer s H vs Q Q0 E hr h fin => ⟨t__law_best K w, PSs.nox ((pss_cons (ps_if (pt_not (pt_val (pe_callN (ok__law_chosen T) T.g__law_chosen (hr.mono (by decide)) pass0 (pa_cons (pv 0) (pa_cons (pv 2) pa_nil))))) (pss_one (ps_ret pe_bl)) pss_nil)
    (pss_cons (ps_if (pt_val (pe_callB (cr_any rfl) rfl T.f_any (by decide +kernel) (pa_cons (pe_lc (own := [("_law_at", 8)]) (g := (gName 8)) (tt := tYes) rfl sc__law_best.nd (pi_list (pv 2)) (blkOk_by (N := ["_law_requests_here", "_law_rooms_here", "_law_some", "_law_tolls", "_law_whole_here", "_law_first", "_law_last", "_law_price", "_law_at", "_law_k", "_law_day", "_law_much"]) (sc := defScope s__law_best) (by decide +kernel)) (fun _ _ _ _ _ => (pg_name (i := 8) sc__law_best.nd rfl (Or.inl rfl))) (fun _ _ _ _ _ => pts_nil) (fun _ _ _ _ _ => (pe_shr (pe_cmpR op_gt (pe_callB call_len_seq rfl T.f_len PySem.boot_len (pa_cons (pe_callN (ok__law_there T) T.g__law_there (hr.mono (by decide)) pass0 (pa_cons (pv 0) (pa_cons (pv 2) (pa_cons (pe_ix ix_tup (pe_ix ix_list (pv 0) (pv 8) (fun _ _ => rfl)) pe_int (fun _ _ => rfl)) pa_nil)))) pa_nil)) (pv 1) (nomark _))))) pa_nil))) (pss_one (ps_ret pe_bl)) pss_nil)
    (pss_cons (ps_if (pt_not (pt_val (pe_callB (cr_all rfl) rfl T.f_all (by decide +kernel) (pa_cons (pe_lc (own := [("_law_day", 10), ("_law_much", 11)]) (g := (gTup K 2 (gCons (gName 10) (gCons (gName 11) gNil)))) (tt := tYes) rfl sc__law_best.nd (pi_list (pv 3)) (blkOk_by (N := ["_law_requests_here", "_law_rooms_here", "_law_some", "_law_tolls", "_law_whole_here", "_law_first", "_law_last", "_law_price", "_law_at", "_law_k", "_law_day", "_law_much"]) (sc := defScope s__law_best) (by decide +kernel)) (fun _ _ _ _ _ => (pg_tup rfl (pgs_cons (pg_name (i := 10) sc__law_best.nd rfl (Or.inl rfl)) (pgs_cons (pg_name (i := 11) sc__law_best.nd rfl (Or.inl rfl)) pgs_nil)))) (fun _ _ _ _ _ => pts_nil) (fun _ _ _ _ _ => (pe_and (pe_callN (ok__law_whole T) T.g__law_whole (hr.mono (by decide)) pass0 (pa_cons (pv 10) pa_nil)) (pe_and (pe_callN (ok__law_whole T) T.g__law_whole (hr.mono (by decide)) pass0 (pa_cons (pv 11) pa_nil)) (pe_one (pe_cmpR op_ge (pv 11) pe_int (nomark _))))))) pa_nil)))) (pss_one (ps_ret pe_bl)) pss_nil)
    (pss_cons (ps_if (pt_val (pe_callB (cr_any rfl) rfl T.f_any (by decide +kernel) (pa_cons (pe_lc (own := [("_law_k", 9)]) (g := (gName 9)) (tt := tYes) rfl sc__law_best.nd (pi_range1 rfl T.f_range (pa_cons (pe_op op_sub (pe_callB call_len_seq rfl T.f_len PySem.boot_len (pa_cons (pv 3) pa_nil)) pe_int) pa_nil)) (blkOk_by (N := ["_law_requests_here", "_law_rooms_here", "_law_some", "_law_tolls", "_law_whole_here", "_law_first", "_law_last", "_law_price", "_law_at", "_law_k", "_law_day", "_law_much"]) (sc := defScope s__law_best) (by decide +kernel)) (fun _ _ _ _ _ => (pg_name (i := 9) sc__law_best.nd rfl (Or.inl rfl))) (fun _ _ _ _ _ => pts_nil) (fun _ _ _ _ _ => (pe_cmpR op_ge (pe_ix ix_tup (pe_ix ix_list (pv 3) (pv 9) (fun _ _ => rfl)) pe_int (fun _ _ => rfl)) (pe_ix ix_tup (pe_ix ix_list (pv 3) (pe_op op_add (pv 9) pe_int) (fun _ _ => rfl)) pe_int (fun _ _ => rfl)) (nomark _)))) pa_nil))) (pss_one (ps_ret pe_bl)) pss_nil)
    (pss_cons (ps_set (i := 4) sc__law_best.nd rfl (Or.inl rfl) (pe_op op_mul (pv 1) (pe_callB (cr_sum rfl) rfl T.f_sum (by decide +kernel) (pa_cons (pe_lc (own := [("_law_day", 10), ("_law_much", 11)]) (g := (gTup K 2 (gCons (gName 10) (gCons (gName 11) gNil)))) (tt := tYes) rfl sc__law_best.nd (pi_list (pv 3)) (blkOk_by (N := ["_law_requests_here", "_law_rooms_here", "_law_some", "_law_tolls", "_law_whole_here", "_law_first", "_law_last", "_law_price", "_law_at", "_law_k", "_law_day", "_law_much"]) (sc := defScope s__law_best) (by decide +kernel)) (fun _ _ _ _ _ => (pg_tup rfl (pgs_cons (pg_name (i := 10) sc__law_best.nd rfl (Or.inl rfl)) (pgs_cons (pg_name (i := 11) sc__law_best.nd rfl (Or.inl rfl)) pgs_nil)))) (fun _ _ _ _ _ => pts_nil) (fun _ _ _ _ _ => (pv 11))) pa_nil))))
    (pss_cons (ps_for PassesOwn.never rfl (pi_list (pv 0)) (pg_tup rfl (pgs_cons (pg_name (i := 5) sc__law_best.nd rfl (Or.inr rfl)) (pgs_cons (pg_name (i := 6) sc__law_best.nd rfl (Or.inr rfl)) (pgs_cons (pg_name (i := 7) sc__law_best.nd rfl (Or.inl rfl)) pgs_nil)))) (pss_one (ps_set (i := 4) sc__law_best.nd rfl (Or.inl rfl) (pe_op op_add (pv 4) (pe_callB (call_max2 rfl) rfl T.f_max (by decide +kernel) (pa_cons pe_int (pa_cons (pe_op op_sub (pv 7) (pe_callB (cr_sum rfl) rfl T.f_sum (by decide +kernel) (pa_cons (pe_lc (own := [("_law_day", 10), ("_law_much", 11)]) (g := (gTup K 2 (gCons (gName 10) (gCons (gName 11) gNil)))) (tt := (tTest (tChain qLe qLe (tVar 5) (tVar 10) (tVar 6)))) rfl sc__law_best.nd (pi_list (pv 3)) (blkOk_by (N := ["_law_requests_here", "_law_rooms_here", "_law_some", "_law_tolls", "_law_whole_here", "_law_first", "_law_last", "_law_price", "_law_at", "_law_k", "_law_day", "_law_much"]) (sc := defScope s__law_best) (by decide +kernel)) (fun _ _ _ _ _ => (pg_tup rfl (pgs_cons (pg_name (i := 10) sc__law_best.nd rfl (Or.inl rfl)) (pgs_cons (pg_name (i := 11) sc__law_best.nd rfl (Or.inl rfl)) pgs_nil)))) (fun _ _ _ _ _ => (pts_one (pt_chain op_le op_le (pv 5) (pv 10) (pv 6)))) (fun _ _ _ _ _ => (pv 11))) pa_nil))) pa_nil)))))))
    (pss_one (ps_ret (pe_cmpR op_eq (pe_callN (ok__law_worth T) T.g__law_worth (hr.mono (by decide)) pass0 (pa_cons (pv 0) (pa_cons (pv 2) pa_nil))) (pv 4) (nomark _))))))))))), pure__law_best  h fin⟩)
theorem ok__law_best_right (T : Txt K mg base) : FnB P w K mg base CX0 5 ("_law_best_right", none) ["_law_requests_here", "_law_rooms_here", "_law_taken", "_law_tolls"] (sp__law_best_right K w) :=
  FnB.mk' T.d__law_best_right sc__law_best_right (fun _ _ _ _ _ _ us hl => match us, hl with | [_, _, _, _], _ => rfl) (fun vs H Q E h => by first | (obtain ⟨_, rfl, _⟩ := h; rfl) | (obtain ⟨_, _, rfl, _⟩ := h; rfl) | (obtain ⟨_, _, _, rfl, _⟩ := h; rfl) | (obtain ⟨_, _, _, _, rfl, _⟩ := h; rfl) | (obtain ⟨_, _, _, _, _, rfl, _⟩ := h; rfl) | (obtain ⟨_, _, _, _, _, _, rfl, _⟩ := h; rfl) | (obtain ⟨_, _, _, _, _, _, _, rfl, _⟩ := h; rfl) | (obtain ⟨_, _, _, _, _, _, _, _, rfl, _⟩ := h; rfl) | (obtain ⟨_, _, _, _, _, _, _, _, _, rfl, _⟩ := h; rfl) | (obtain ⟨_, _, _, _, _, _, _, _, _, _, rfl, _⟩ := h; rfl) | (obtain ⟨_, _, _, _, _, _, _, _, _, _, _, rfl, _⟩ := h; rfl) | (obtain ⟨_, _, _, _, _, _, _, _, _, _, _, _, rfl, _⟩ := h; rfl) | (obtain ⟨_, _, _, _, _, _, _, _, _, _, _, _, _, rfl, _⟩ := h; rfl) | (obtain ⟨_, _, _, _, _, _, _, _, _, _, _, _, _, _, rfl, _⟩ := h; rfl) | (obtain ⟨_, _, _, _, _, _, _, _, _, _, _, _, _, _, _, rfl, _⟩ := h; rfl) | (obtain ⟨_, _, _, _, _, _, _, _, _, _, _, _, _, _, _, _, rfl, _⟩ := h; rfl) | (obtain ⟨_, _, _, _, _, _, _, _, _, _, _, _, _, _, _, _, _, rfl, _⟩ := h; rfl) | (obtain ⟨_, _, _, _, _, _, _, _, _, _, _, _, _, _, _, _, _, _, rfl, _⟩ := h; rfl))
  (fun cdv A outer s H vs Q Q0 E hr h fin => ⟨t__law_best_right K w, PSs.nox ((pss_cons (ps_set (i := 4) sc__law_best_right.nd rfl (Or.inl rfl) (pe_lst (pa_cons (pe_callTy call_list_of rfl T.f_list (by decide +kernel) (pa_cons (pv 2) pa_nil)) (pa_cons (pe_callTy call_list_of rfl T.f_list (by decide +kernel) (pa_cons (pv 3) pa_nil)) pa_nil))))
    (pss_cons (ps_set (i := 5) sc__law_best_right.nd rfl (Or.inl rfl) (pe_makeN T.k_Best (ok_Best___init__ T) T.g_Best (hr.mono (by decide)) pass0 (pa_cons (pe_ix ix_list (pv 4) pe_int (fun _ _ => rfl)) (pa_cons (pe_ix ix_list (pv 4) pe_int (fun _ _ => rfl)) pa_nil))))
    (pss_cons (ps_expr (pe_bm PySem.F.plainAttrs_list PySem.F.slot_list_append PySem.F.type_list_append mt_append (pe_ix ix_list (pv 4) pe_int (fun _ _ => rfl)) (pa_cons pe_int pa_nil)))
    (pss_cons (ps_expr (pe_bm PySem.F.plainAttrs_list PySem.F.slot_list_append PySem.F.type_list_append mt_append (pe_ix ix_list (pv 4) pe_int (fun _ _ => rfl)) (pa_cons (pe_tup (pa_cons pe_int (pa_cons pe_int pa_nil))) pa_nil)))
    (pss_cons (ps_if (PW.pt (pw_or (pt_cmpR (op_neD hr.units) (pe_fld (pv 5) rfl) (pv 2) (nomark _)) (pw_or1 (pt_cmpR (op_neD hr.units) (pe_fld (pv 5) rfl) (pv 3) (nomark _))))) (pss_one (ps_ret pe_bl)) pss_nil)
    (pss_one (ps_ret (pe_callN (ok__law_says T) T.g__law_says (hr.mono (by decide)) pass0 (pa_cons (pe_methN (pv 5) T.c_Best T.m_Best_shows (ok_Best_shows T) (hr.mono (by decide)) pass0 (pa_cons (pv 0) (pa_cons (pv 1) pa_nil))) (pa_cons (pe_callN (ok__law_best T) T.g__law_best (hr.mono (by decide)) pass0 (pa_cons (pv 0) (pa_cons (pv 1) (pa_cons (pv 2) (pa_cons (pv 3) pa_nil))))) pa_nil))))))))))), pure__law_best_right (⟨T.c_Best, T.n_Best_taken, T.n_Best_tolls⟩ : BestC K) h fin⟩)
theorem ok_Lodged_shows (T : Txt K mg base) : FnB P w K mg base CX0 2 ("Lodged", some "shows") ["self", "requests", "rooms"] (sp_Lodged_shows K w) :=
  FnB.mk' T.d_Lodged_shows sc_Lodged_shows (fun _ _ _ _ _ _ us hl => match us, hl with | [_, _, _], _ => rfl) (fun vs H Q E h => by first | (obtain ⟨_, rfl, _⟩ := h; rfl) | (obtain ⟨_, _, rfl, _⟩ := h; rfl) | (obtain ⟨_, _, _, rfl, _⟩ := h; rfl) | (obtain ⟨_, _, _, _, rfl, _⟩ := h; rfl) | (obtain ⟨_, _, _, _, _, rfl, _⟩ := h; rfl) | (obtain ⟨_, _, _, _, _, _, rfl, _⟩ := h; rfl) | (obtain ⟨_, _, _, _, _, _, _, rfl, _⟩ := h; rfl) | (obtain ⟨_, _, _, _, _, _, _, _, rfl, _⟩ := h; rfl) | (obtain ⟨_, _, _, _, _, _, _, _, _, rfl, _⟩ := h; rfl) | (obtain ⟨_, _, _, _, _, _, _, _, _, _, rfl, _⟩ := h; rfl) | (obtain ⟨_, _, _, _, _, _, _, _, _, _, _, rfl, _⟩ := h; rfl) | (obtain ⟨_, _, _, _, _, _, _, _, _, _, _, _, rfl, _⟩ := h; rfl) | (obtain ⟨_, _, _, _, _, _, _, _, _, _, _, _, _, rfl, _⟩ := h; rfl) | (obtain ⟨_, _, _, _, _, _, _, _, _, _, _, _, _, _, rfl, _⟩ := h; rfl) | (obtain ⟨_, _, _, _, _, _, _, _, _, _, _, _, _, _, _, rfl, _⟩ := h; rfl) | (obtain ⟨_, _, _, _, _, _, _, _, _, _, _, _, _, _, _, _, rfl, _⟩ := h; rfl) | (obtain ⟨_, _, _, _, _, _, _, _, _, _, _, _, _, _, _, _, _, rfl, _⟩ := h; rfl) | (obtain ⟨_, _, _, _, _, _, _, _, _, _, _, _, _, _, _, _, _, _, rfl, _⟩ := h; rfl))
  (fun cdv A outer s H vs Q Q0 E hr h fin => ⟨t_Lodged_shows K w, PSs.nox ((pss_cons (ps_if (PW.pt (pw_or (pt_cmpR op_ne (pe_callB call_len_seq rfl T.f_len PySem.boot_len (pa_cons (pe_fld (pv 0) rfl) pa_nil)) (pe_callB call_len_seq rfl T.f_len PySem.boot_len (pa_cons (pv 1) pa_nil)) (nomark _)) (pw_or1 (pt_not (pt_val (pe_callB (cr_all rfl) rfl T.f_all (by decide +kernel) (pa_cons (pe_lc (own := [("room", 6)]) (g := (gName 6)) (tt := tYes) rfl sc_Lodged_shows.nd (pi_list (pe_fld (pv 0) rfl)) (blkOk_by (N := ["self", "requests", "rooms", "at", "request", "beside", "room", "one"]) (sc := defScope s_Lodged_shows) (by decide +kernel)) (fun _ _ _ _ _ => (pg_name (i := 6) sc_Lodged_shows.nd rfl (Or.inl rfl))) (fun _ _ _ _ _ => pts_nil) (fun _ _ _ _ _ => (pe_and (pe_callN (ok_is_whole T) T.g_is_whole (hr.mono (by decide)) pass0 (pa_cons (pv 6) pa_nil)) (pe_one (pe_chain op_le op_lt pe_int (pv 6) (pv 2)))))) pa_nil))))))) (pss_one (ps_ret pe_bl)) pss_nil)
    (pss_cons (ps_for PassesOwn.never rfl (pi_enum rfl T.f_enumerate (pa_cons (pv 1) pa_nil)) (pg_tup rfl (pgs_cons (pg_name (i := 3) sc_Lodged_shows.nd rfl (Or.inr rfl)) (pgs_cons (pg_name (i := 4) sc_Lodged_shows.nd rfl (Or.inl rfl)) pgs_nil))) (pss_cons (ps_set (i := 5) sc_Lodged_shows.nd rfl (Or.inl rfl) (pe_callN (ok_for_day T) T.g_for_day (hr.mono (by decide)) pass0 (pa_cons (pv 1) (pa_cons (pe_listRg rfl rfl T.f_list (prg_1 rfl T.f_range (pe_callB call_len_seq rfl T.f_len PySem.boot_len (pa_cons (pv 1) pa_nil)))) (pa_cons (pe_ix ix_tup (pv 4) pe_int (fun _ _ => rfl)) pa_nil)))))
    (pss_one (ps_if (pt_cmpR op_gt (pe_callB call_len_seq rfl T.f_len PySem.boot_len (pa_cons (pe_lc (own := [("one", 7)]) (g := (gName 7)) (tt := (tTest (tOp rEq (tOp (rIxL K) (tFld K (tVar 0) "rooms") (tVar 7)) (tOp (rIxL K) (tFld K (tVar 0) "rooms") (tVar 3))))) rfl sc_Lodged_shows.nd (pi_list (pv 5)) (blkOk_by (N := ["self", "requests", "rooms", "at", "request", "beside", "room", "one"]) (sc := defScope s_Lodged_shows) (by decide +kernel)) (fun _ _ _ _ _ => (pg_name (i := 7) sc_Lodged_shows.nd rfl (Or.inl rfl))) (fun _ _ _ _ _ => (pts_one (pt_cmpR op_eq (pe_ix ix_list (pe_fld (pv 0) rfl) (pv 7) (fun _ _ => rfl)) (pe_ix ix_list (pe_fld (pv 0) rfl) (pv 3) (fun _ _ => rfl)) (nomark _)))) (fun _ _ _ _ _ => (pv 7))) pa_nil)) pe_int (nomark _)) (pss_one (ps_ret pe_bl)) pss_nil))))
    (pss_one (ps_ret pe_bl))))), pure_Lodged_shows (⟨T.c_Lodged, T.n_Lodged_rooms⟩ : LodC K) h fin⟩)
theorem ok__law_lodged_right (T : Txt K mg base) : FnB P w K mg base CX0 3 ("_law_lodged_right", none) ["_law_requests_here", "_law_rooms_here", "_law_some"] (sp__law_lodged_right K w) :=
  FnB.mk' T.d__law_lodged_right sc__law_lodged_right (fun _ _ _ _ _ _ us hl => match us, hl with | [_, _, _], _ => rfl) (fun vs H Q E h => by first | (obtain ⟨_, rfl, _⟩ := h; rfl) | (obtain ⟨_, _, rfl, _⟩ := h; rfl) | (obtain ⟨_, _, _, rfl, _⟩ := h; rfl) | (obtain ⟨_, _, _, _, rfl, _⟩ := h; rfl) | (obtain ⟨_, _, _, _, _, rfl, _⟩ := h; rfl) | (obtain ⟨_, _, _, _, _, _, rfl, _⟩ := h; rfl) | (obtain ⟨_, _, _, _, _, _, _, rfl, _⟩ := h; rfl) | (obtain ⟨_, _, _, _, _, _, _, _, rfl, _⟩ := h; rfl) | (obtain ⟨_, _, _, _, _, _, _, _, _, rfl, _⟩ := h; rfl) | (obtain ⟨_, _, _, _, _, _, _, _, _, _, rfl, _⟩ := h; rfl) | (obtain ⟨_, _, _, _, _, _, _, _, _, _, _, rfl, _⟩ := h; rfl) | (obtain ⟨_, _, _, _, _, _, _, _, _, _, _, _, rfl, _⟩ := h; rfl) | (obtain ⟨_, _, _, _, _, _, _, _, _, _, _, _, _, rfl, _⟩ := h; rfl) | (obtain ⟨_, _, _, _, _, _, _, _, _, _, _, _, _, _, rfl, _⟩ := h; rfl) | (obtain ⟨_, _, _, _, _, _, _, _, _, _, _, _, _, _, _, rfl, _⟩ := h; rfl) | (obtain ⟨_, _, _, _, _, _, _, _, _, _, _, _, _, _, _, _, rfl, _⟩ := h; rfl) | (obtain ⟨_, _, _, _, _, _, _, _, _, _, _, _, _, _, _, _, _, rfl, _⟩ := h; rfl) | (obtain ⟨_, _, _, _, _, _, _, _, _, _, _, _, _, _, _, _, _, _, rfl, _⟩ := h; rfl))
  (fun cdv A outer s H vs Q Q0 E hr h fin => ⟨t__law_lodged_right K w, PSs.nox ((pss_cons (ps_set (i := 3) sc__law_lodged_right.nd rfl (Or.inl rfl) (pe_listRg rfl rfl T.f_list (prg_1 rfl T.f_range (pe_callB call_len_seq rfl T.f_len PySem.boot_len (pa_cons (pv 0) pa_nil)))))
    (pss_cons (ps_set (i := 4) sc__law_lodged_right.nd rfl (Or.inl rfl) (pe_and (pe_cmpR op_eq (pe_callB call_len_seq rfl T.f_len PySem.boot_len (pa_cons (pv 2) pa_nil)) (pe_callB call_len_seq rfl T.f_len PySem.boot_len (pa_cons (pv 0) pa_nil)) (nomark _)) (pe_one (pe_callB (cr_all rfl) rfl T.f_all (by decide +kernel) (pa_cons (pe_lc (own := [("_law_room", 9)]) (g := (gName 9)) (tt := tYes) rfl sc__law_lodged_right.nd (pi_list (pv 2)) (blkOk_by (N := ["_law_requests_here", "_law_rooms_here", "_law_some", "_law_every", "_law_wanted", "_law_at", "_law_beside", "_law_handed", "_law_answer", "_law_room", "_law_one"]) (sc := defScope s__law_lodged_right) (by decide +kernel)) (fun _ _ _ _ _ => (pg_name (i := 9) sc__law_lodged_right.nd rfl (Or.inl rfl))) (fun _ _ _ _ _ => pts_nil) (fun _ _ _ _ _ => (pe_chain op_le op_lt pe_int (pv 9) (pv 1)))) pa_nil)))))
    (pss_cons (ps_for PassesOwn.never rfl (pi_list (pe_ifExp (pt_val (pv 4)) (pv 3) (pe_lst pa_nil))) (pg_name (i := 5) sc__law_lodged_right.nd rfl (Or.inr rfl)) (pss_cons (ps_set (i := 6) sc__law_lodged_right.nd rfl (Or.inl rfl) (pe_callN (ok__law_there T) T.g__law_there (hr.mono (by decide)) pass0 (pa_cons (pv 0) (pa_cons (pv 3) (pa_cons (pe_ix ix_tup (pe_ix ix_list (pv 0) (pv 5) (fun _ _ => rfl)) pe_int (fun _ _ => rfl)) pa_nil)))))
    (pss_one (ps_set (i := 4) sc__law_lodged_right.nd rfl (Or.inl rfl) (pe_and (pv 4) (pe_one (pe_cmpR (op_eqD hr.units) (pe_lc (own := [("_law_one", 10)]) (g := (gName 10)) (tt := (tTest (tOp rEq (tOp (rIxL K) (tVar 2) (tVar 10)) (tOp (rIxL K) (tVar 2) (tVar 5))))) rfl sc__law_lodged_right.nd (pi_list (pv 6)) (blkOk_by (N := ["_law_requests_here", "_law_rooms_here", "_law_some", "_law_every", "_law_wanted", "_law_at", "_law_beside", "_law_handed", "_law_answer", "_law_room", "_law_one"]) (sc := defScope s__law_lodged_right) (by decide +kernel)) (fun _ _ _ _ _ => (pg_name (i := 10) sc__law_lodged_right.nd rfl (Or.inl rfl))) (fun _ _ _ _ _ => (pts_one (pt_cmpR op_eq (pe_ix ix_list (pv 2) (pv 10) (fun _ _ => rfl)) (pe_ix ix_list (pv 2) (pv 5) (fun _ _ => rfl)) (nomark _)))) (fun _ _ _ _ _ => (pv 10))) (pe_lst (pa_cons (pv 5) pa_nil)) (nomark _))))))))
    (pss_cons (ps_set (i := 7) sc__law_lodged_right.nd rfl (Or.inl rfl) (pe_callTy call_list_of rfl T.f_list (by decide +kernel) (pa_cons (pv 2) pa_nil)))
    (pss_cons (ps_set (i := 8) sc__law_lodged_right.nd rfl (Or.inl rfl) (pe_makeN T.k_Lodged (ok_Lodged___init__ T) T.g_Lodged (hr.mono (by decide)) pass0 (pa_cons (pv 7) pa_nil)))
    (pss_cons (ps_expr (pe_bm PySem.F.plainAttrs_list PySem.F.slot_list_append PySem.F.type_list_append mt_append (pv 7) (pa_cons pe_int pa_nil)))
    (pss_one (ps_ret (pe_and (pe_cmpR (op_eqD hr.units) (pe_fld (pv 8) rfl) (pv 2) (nomark _)) (pe_one (pe_callN (ok__law_says T) T.g__law_says (hr.mono (by decide)) pass0 (pa_cons (pe_methN (pv 8) T.c_Lodged T.m_Lodged_shows (ok_Lodged_shows T) (hr.mono (by decide)) pass0 (pa_cons (pv 0) (pa_cons (pv 1) pa_nil))) (pa_cons (pv 4) pa_nil)))))))))))))), pure__law_lodged_right (⟨T.c_Lodged, T.n_Lodged_rooms⟩ : LodC K) h fin⟩)
theorem ok_Crowd_shows (T : Txt K mg base) : FnB P w K mg base CX0 3 ("Crowd", some "shows") ["self", "requests", "rooms"] (sp_Crowd_shows K w) :=
  FnB.mk' T.d_Crowd_shows sc_Crowd_shows (fun _ _ _ _ _ _ us hl => match us, hl with | [_, _, _], _ => rfl) (fun vs H Q E h => by first | (obtain ⟨_, rfl, _⟩ := h; rfl) | (obtain ⟨_, _, rfl, _⟩ := h; rfl) | (obtain ⟨_, _, _, rfl, _⟩ := h; rfl) | (obtain ⟨_, _, _, _, rfl, _⟩ := h; rfl) | (obtain ⟨_, _, _, _, _, rfl, _⟩ := h; rfl) | (obtain ⟨_, _, _, _, _, _, rfl, _⟩ := h; rfl) | (obtain ⟨_, _, _, _, _, _, _, rfl, _⟩ := h; rfl) | (obtain ⟨_, _, _, _, _, _, _, _, rfl, _⟩ := h; rfl) | (obtain ⟨_, _, _, _, _, _, _, _, _, rfl, _⟩ := h; rfl) | (obtain ⟨_, _, _, _, _, _, _, _, _, _, rfl, _⟩ := h; rfl) | (obtain ⟨_, _, _, _, _, _, _, _, _, _, _, rfl, _⟩ := h; rfl) | (obtain ⟨_, _, _, _, _, _, _, _, _, _, _, _, rfl, _⟩ := h; rfl) | (obtain ⟨_, _, _, _, _, _, _, _, _, _, _, _, _, rfl, _⟩ := h; rfl) | (obtain ⟨_, _, _, _, _, _, _, _, _, _, _, _, _, _, rfl, _⟩ := h; rfl) | (obtain ⟨_, _, _, _, _, _, _, _, _, _, _, _, _, _, _, rfl, _⟩ := h; rfl) | (obtain ⟨_, _, _, _, _, _, _, _, _, _, _, _, _, _, _, _, rfl, _⟩ := h; rfl) | (obtain ⟨_, _, _, _, _, _, _, _, _, _, _, _, _, _, _, _, _, rfl, _⟩ := h; rfl) | (obtain ⟨_, _, _, _, _, _, _, _, _, _, _, _, _, _, _, _, _, _, rfl, _⟩ := h; rfl))
  (fun cdv A outer s H vs Q Q0 E hr h fin => ⟨t_Crowd_shows K w, PSs.nox ((pss_cons (ps_if (PW.pt (pw_or (pt_not (pt_val (pe_callN (ok_is_whole T) T.g_is_whole (hr.mono (by decide)) pass0 (pa_cons (pe_fld (pv 0) rfl) pa_nil)))) (pw_or (pt_not (pt_val (pe_callN (ok_is_choice T) T.g_is_choice (hr.mono (by decide)) pass0 (pa_cons (pv 1) (pa_cons (pe_fld (pv 0) rfl) pa_nil))))) (pw_or1 (pt_cmpR op_le (pe_callB call_len_seq rfl T.f_len PySem.boot_len (pa_cons (pe_fld (pv 0) rfl) pa_nil)) (pv 2) (nomark _)))))) (pss_one (ps_ret pe_bl)) pss_nil)
    (pss_one (ps_ret (pe_cmpR (op_eqD hr.units) (pe_callN (ok_for_day T) T.g_for_day (hr.mono (by decide)) pass0 (pa_cons (pv 1) (pa_cons (pe_fld (pv 0) rfl) (pa_cons (pe_fld (pv 0) rfl) pa_nil)))) (pe_fld (pv 0) rfl) (nomark _)))))), pure_Crowd_shows (⟨T.c_Crowd, T.n_Crowd_day, T.n_Crowd_asking⟩ : CrowdC K) h fin⟩)
theorem ok__law_crowd_right (T : Txt K mg base) : FnB P w K mg base CX0 4 ("_law_crowd_right", none) ["_law_requests_here", "_law_rooms_here", "_law_day", "_law_some"] (sp__law_crowd_right K w) :=
  FnB.mk' T.d__law_crowd_right sc__law_crowd_right (fun _ _ _ _ _ _ us hl => match us, hl with | [_, _, _, _], _ => rfl) (fun vs H Q E h => by first | (obtain ⟨_, rfl, _⟩ := h; rfl) | (obtain ⟨_, _, rfl, _⟩ := h; rfl) | (obtain ⟨_, _, _, rfl, _⟩ := h; rfl) | (obtain ⟨_, _, _, _, rfl, _⟩ := h; rfl) | (obtain ⟨_, _, _, _, _, rfl, _⟩ := h; rfl) | (obtain ⟨_, _, _, _, _, _, rfl, _⟩ := h; rfl) | (obtain ⟨_, _, _, _, _, _, _, rfl, _⟩ := h; rfl) | (obtain ⟨_, _, _, _, _, _, _, _, rfl, _⟩ := h; rfl) | (obtain ⟨_, _, _, _, _, _, _, _, _, rfl, _⟩ := h; rfl) | (obtain ⟨_, _, _, _, _, _, _, _, _, _, rfl, _⟩ := h; rfl) | (obtain ⟨_, _, _, _, _, _, _, _, _, _, _, rfl, _⟩ := h; rfl) | (obtain ⟨_, _, _, _, _, _, _, _, _, _, _, _, rfl, _⟩ := h; rfl) | (obtain ⟨_, _, _, _, _, _, _, _, _, _, _, _, _, rfl, _⟩ := h; rfl) | (obtain ⟨_, _, _, _, _, _, _, _, _, _, _, _, _, _, rfl, _⟩ := h; rfl) | (obtain ⟨_, _, _, _, _, _, _, _, _, _, _, _, _, _, _, rfl, _⟩ := h; rfl) | (obtain ⟨_, _, _, _, _, _, _, _, _, _, _, _, _, _, _, _, rfl, _⟩ := h; rfl) | (obtain ⟨_, _, _, _, _, _, _, _, _, _, _, _, _, _, _, _, _, rfl, _⟩ := h; rfl) | (obtain ⟨_, _, _, _, _, _, _, _, _, _, _, _, _, _, _, _, _, _, rfl, _⟩ := h; rfl))
  (fun cdv A outer s H vs Q Q0 E hr h fin => ⟨t__law_crowd_right K w, PSs.nox ((pss_cons (ps_set (i := 4) sc__law_crowd_right.nd rfl (Or.inl rfl) (pe_and (pe_callN (ok__law_chosen T) T.g__law_chosen (hr.mono (by decide)) pass0 (pa_cons (pv 0) (pa_cons (pv 3) pa_nil))) (pe_one (pe_cmpR op_gt (pe_callB call_len_seq rfl T.f_len PySem.boot_len (pa_cons (pv 3) pa_nil)) (pv 1) (nomark _)))))
    (pss_cons (ps_set (i := 4) sc__law_crowd_right.nd rfl (Or.inl rfl) (pe_and (pv 4) (pe_one (pe_cmpR (op_eqD hr.units) (pe_callN (ok__law_there T) T.g__law_there (hr.mono (by decide)) pass0 (pa_cons (pv 0) (pa_cons (pv 3) (pa_cons (pv 2) pa_nil)))) (pv 3) (nomark _)))))
    (pss_cons (ps_set (i := 5) sc__law_crowd_right.nd rfl (Or.inl rfl) (pe_callTy call_list_of rfl T.f_list (by decide +kernel) (pa_cons (pv 3) pa_nil)))
    (pss_cons (ps_set (i := 6) sc__law_crowd_right.nd rfl (Or.inl rfl) (pe_makeN T.k_Crowd (ok_Crowd___init__ T) T.g_Crowd (hr.mono (by decide)) pass0 (pa_cons (pv 2) (pa_cons (pv 5) pa_nil))))
    (pss_cons (ps_expr (pe_bm PySem.F.plainAttrs_list PySem.F.slot_list_append PySem.F.type_list_append mt_append (pv 5) (pa_cons pe_int pa_nil)))
    (pss_one (ps_ret (pe_and (pe_cmpR op_eq (pe_fld (pv 6) rfl) (pv 2) (nomark _)) (pe_and (pe_cmpR (op_eqD hr.units) (pe_fld (pv 6) rfl) (pv 3) (nomark _)) (pe_one (pe_callN (ok__law_says T) T.g__law_says (hr.mono (by decide)) pass0 (pa_cons (pe_methN (pv 6) T.c_Crowd T.m_Crowd_shows (ok_Crowd_shows T) (hr.mono (by decide)) pass0 (pa_cons (pv 0) (pa_cons (pv 1) pa_nil))) (pa_cons (pv 4) pa_nil)))))))))))))), pure__law_crowd_right (⟨T.c_Crowd, T.n_Crowd_day, T.n_Crowd_asking⟩ : CrowdC K) h fin⟩)
theorem ok__law_bent (T : Txt K mg base) : FnB P w K mg base CX0 2 ("_law_bent", none) ["_law_some", "_law_cell", "_law_more"] (sp__law_bent K w) :=
  FnB.mk' T.d__law_bent sc__law_bent (fun _ _ _ _ _ _ us hl => match us, hl with | [_, _, _], _ => rfl) (fun vs H Q E h => by first | (obtain ⟨_, rfl, _⟩ := h; rfl) | (obtain ⟨_, _, rfl, _⟩ := h; rfl) | (obtain ⟨_, _, _, rfl, _⟩ := h; rfl) | (obtain ⟨_, _, _, _, rfl, _⟩ := h; rfl) | (obtain ⟨_, _, _, _, _, rfl, _⟩ := h; rfl) | (obtain ⟨_, _, _, _, _, _, rfl, _⟩ := h; rfl) | (obtain ⟨_, _, _, _, _, _, _, rfl, _⟩ := h; rfl) | (obtain ⟨_, _, _, _, _, _, _, _, rfl, _⟩ := h; rfl) | (obtain ⟨_, _, _, _, _, _, _, _, _, rfl, _⟩ := h; rfl) | (obtain ⟨_, _, _, _, _, _, _, _, _, _, rfl, _⟩ := h; rfl) | (obtain ⟨_, _, _, _, _, _, _, _, _, _, _, rfl, _⟩ := h; rfl) | (obtain ⟨_, _, _, _, _, _, _, _, _, _, _, _, rfl, _⟩ := h; rfl) | (obtain ⟨_, _, _, _, _, _, _, _, _, _, _, _, _, rfl, _⟩ := h; rfl) | (obtain ⟨_, _, _, _, _, _, _, _, _, _, _, _, _, _, rfl, _⟩ := h; rfl) | (obtain ⟨_, _, _, _, _, _, _, _, _, _, _, _, _, _, _, rfl, _⟩ := h; rfl) | (obtain ⟨_, _, _, _, _, _, _, _, _, _, _, _, _, _, _, _, rfl, _⟩ := h; rfl) | (obtain ⟨_, _, _, _, _, _, _, _, _, _, _, _, _, _, _, _, _, rfl, _⟩ := h; rfl) | (obtain ⟨_, _, _, _, _, _, _, _, _, _, _, _, _, _, _, _, _, _, rfl, _⟩ := h; rfl))
  (fun cdv A outer s H vs Q Q0 E hr h fin => ⟨t__law_bent K w, PSs.nox ((pss_cons (ps_par (i := 3) (j := 4) rfl sc__law_bent.nd rfl rfl (by decide) rfl rfl (pa_cons (pe_callN (ok__law_draw T) T.g__law_draw (hr.mono (by decide)) pass0 (pa_cons (pv 1) (pa_cons pe_int (pa_cons pe_int pa_nil)))) (pa_cons (pe_callB call_len_seq rfl T.f_len PySem.boot_len (pa_cons (pv 0) pa_nil)) pa_nil)) rfl)
    (pss_cons (ps_if (pt_cmpR op_eq (pv 4) pe_int (nomark _)) (pss_one (ps_ret (pe_ifExp (pt_cmpR op_eq (pv 3) pe_int (nomark _)) (pe_lst (pa_cons (pv 2) pa_nil)) (pe_lst pa_nil)))) pss_nil)
    (pss_cons (ps_par (i := 5) (j := 6) rfl sc__law_bent.nd rfl rfl (by decide) rfl rfl (pa_cons (pe_callN (ok__law_draw T) T.g__law_draw (hr.mono (by decide)) pass0 (pa_cons (pv 1) (pa_cons pe_int (pa_cons (pv 4) pa_nil)))) (pa_cons (pe_callTy call_list_of rfl T.f_list (by decide +kernel) (pa_cons (pv 0) pa_nil)) pa_nil)) rfl)
    (pss_cons (ps_if (pt_cmpR op_eq (pv 3) pe_int (nomark _)) (pss_one (ps_ret (pe_op op_cat (pe_op op_cat (pe_slice sl_list (pv 0) po_none (po_some (pv 5))) (pe_lst (pa_cons (pv 2) pa_nil))) (pe_slice sl_list (pv 0) (po_some (pv 5)) po_none)))) pss_nil)
    (pss_cons (ps_if (pt_cmpR op_eq (pv 3) pe_int (nomark _)) (pss_one (ps_expr (pe_bm PySem.F.plainAttrs_list PySem.F.slot_list_pop PySem.F.type_list_pop mt_popAt (pv 6) (pa_cons (pv 5) pa_nil)))) pss_nil)
    (pss_cons (ps_if (pt_cmpR op_eq (pv 3) pe_int (nomark _)) (pss_one (ps_ret (pe_op op_cat (pe_op op_cat (pe_slice sl_list (pv 0) po_none (po_some (pv 5))) (pe_slice sl_list (pv 0) (po_some (pv 5)) (po_some (pe_op op_add (pv 5) pe_int)))) (pe_slice sl_list (pv 0) (po_some (pv 5)) po_none)))) pss_nil)
    (pss_cons (ps_if (pt_cmpR op_eq (pv 3) pe_int (nomark _)) (pss_one (ps_asg (pv 2) (pg_sub (pv 6) (pv 5) set_list))) pss_nil)
    (pss_cons (ps_if (pt_cmpR op_eq (pv 3) pe_int (nomark _)) (pss_one (ps_ret (pe_revL (pv 0)))) pss_nil)
    (pss_one (ps_ret (pv 6)))))))))))), pure__law_bent  h fin⟩)
theorem ok__law_tolled (T : Txt K mg base) : FnB P w K mg base CX0 3 ("_law_tolled", none) ["_law_tolls", "_law_cell"] (sp__law_tolled K w) :=
  FnB.mk' T.d__law_tolled sc__law_tolled (fun _ _ _ _ _ _ us hl => match us, hl with | [_, _], _ => rfl) (fun vs H Q E h => by first | (obtain ⟨_, rfl, _⟩ := h; rfl) | (obtain ⟨_, _, rfl, _⟩ := h; rfl) | (obtain ⟨_, _, _, rfl, _⟩ := h; rfl) | (obtain ⟨_, _, _, _, rfl, _⟩ := h; rfl) | (obtain ⟨_, _, _, _, _, rfl, _⟩ := h; rfl) | (obtain ⟨_, _, _, _, _, _, rfl, _⟩ := h; rfl) | (obtain ⟨_, _, _, _, _, _, _, rfl, _⟩ := h; rfl) | (obtain ⟨_, _, _, _, _, _, _, _, rfl, _⟩ := h; rfl) | (obtain ⟨_, _, _, _, _, _, _, _, _, rfl, _⟩ := h; rfl) | (obtain ⟨_, _, _, _, _, _, _, _, _, _, rfl, _⟩ := h; rfl) | (obtain ⟨_, _, _, _, _, _, _, _, _, _, _, rfl, _⟩ := h; rfl) | (obtain ⟨_, _, _, _, _, _, _, _, _, _, _, _, rfl, _⟩ := h; rfl) | (obtain ⟨_, _, _, _, _, _, _, _, _, _, _, _, _, rfl, _⟩ := h; rfl) | (obtain ⟨_, _, _, _, _, _, _, _, _, _, _, _, _, _, rfl, _⟩ := h; rfl) | (obtain ⟨_, _, _, _, _, _, _, _, _, _, _, _, _, _, _, rfl, _⟩ := h; rfl) | (obtain ⟨_, _, _, _, _, _, _, _, _, _, _, _, _, _, _, _, rfl, _⟩ := h; rfl) | (obtain ⟨_, _, _, _, _, _, _, _, _, _, _, _, _, _, _, _, _, rfl, _⟩ := h; rfl) | (obtain ⟨_, _, _, _, _, _, _, _, _, _, _, _, _, _, _, _, _, _, rfl, _⟩ := h; rfl))
  (fun cdv A outer s H vs Q Q0 E hr h fin => ⟨t__law_tolled K w, PSs.nox ((pss_cons (ps_if (PW.pt (pw_or (pt_cmpR (op_eqD hr.units) (pv 0) (pe_lst pa_nil) (nomark _)) (pw_or1 (pt_cmpR op_eq (pe_callN (ok__law_draw T) T.g__law_draw (hr.mono (by decide)) pass0 (pa_cons (pv 1) (pa_cons pe_int (pa_cons pe_int pa_nil)))) pe_int (nomark _))))) (pss_one (ps_ret (pe_callN (ok__law_bent T) T.g__law_bent (hr.mono (by decide)) pass0 (pa_cons (pv 0) (pa_cons (pv 1) (pa_cons (pe_tup (pa_cons (pe_op op_sub (pe_callN (ok__law_draw T) T.g__law_draw (hr.mono (by decide)) pass0 (pa_cons (pv 1) (pa_cons pe_int (pa_cons pe_int pa_nil)))) pe_int) (pa_cons (pe_op op_sub (pe_callN (ok__law_draw T) T.g__law_draw (hr.mono (by decide)) pass0 (pa_cons (pv 1) (pa_cons pe_int (pa_cons pe_int pa_nil)))) pe_int) pa_nil))) pa_nil)))))) pss_nil)
    (pss_cons (ps_set (i := 2) sc__law_tolled.nd rfl (Or.inl rfl) (pe_callN (ok__law_draw T) T.g__law_draw (hr.mono (by decide)) pass0 (pa_cons (pv 1) (pa_cons pe_int (pa_cons (pe_callB call_len_seq rfl T.f_len PySem.boot_len (pa_cons (pv 0) pa_nil)) pa_nil)))))
    (pss_cons (ps_asg (pe_ix ix_list (pv 0) (pv 2) (fun _ _ => rfl)) (pg_tup rfl (pgs_cons (pg_name (i := 3) sc__law_tolled.nd rfl (Or.inl rfl)) (pgs_cons (pg_name (i := 4) sc__law_tolled.nd rfl (Or.inl rfl)) pgs_nil))))
    (pss_cons (ps_set (i := 5) sc__law_tolled.nd rfl (Or.inl rfl) (pe_ix ix_list (pe_lst (pa_cons (pe_tup (pa_cons (pv 3) (pa_cons (pe_op op_add (pv 4) pe_int) pa_nil))) (pa_cons (pe_tup (pa_cons (pv 3) (pa_cons (pe_op op_sub (pv 4) pe_int) pa_nil))) (pa_cons (pe_tup (pa_cons (pe_op op_add (pv 3) pe_int) (pa_cons (pv 4) pa_nil))) (pa_cons (pe_tup (pa_cons (pv 3) (pa_cons (pe_un un_neg (pv 4)) pa_nil))) (pa_cons (pe_tup (pa_cons (pv 3) (pa_cons (pv 4) pa_nil))) pa_nil)))))) (pe_callN (ok__law_draw T) T.g__law_draw (hr.mono (by decide)) pass0 (pa_cons (pv 1) (pa_cons pe_int (pa_cons pe_int pa_nil)))) (fun _ _ => rfl)))
    (pss_one (ps_ret (pe_op op_cat (pe_op op_cat (pe_slice sl_list (pv 0) po_none (po_some (pv 2))) (pe_lst (pa_cons (pv 5) pa_nil))) (pe_slice sl_list (pv 0) (po_some (pe_op op_add (pv 2) pe_int)) po_none))))))))), pure__law_tolled  h fin⟩)
theorem ok_Due_shows (T : Txt K mg base) : FnB P w K mg base CX0 4 ("Due", some "shows") ["self", "requests", "rooms", "first", "last"] (sp_Due_shows K w) :=
  FnB.mk' T.d_Due_shows sc_Due_shows (fun _ _ _ _ _ _ us hl => match us, hl with | [_, _, _, _, _], _ => rfl) (fun vs H Q E h => by first | (obtain ⟨_, rfl, _⟩ := h; rfl) | (obtain ⟨_, _, rfl, _⟩ := h; rfl) | (obtain ⟨_, _, _, rfl, _⟩ := h; rfl) | (obtain ⟨_, _, _, _, rfl, _⟩ := h; rfl) | (obtain ⟨_, _, _, _, _, rfl, _⟩ := h; rfl) | (obtain ⟨_, _, _, _, _, _, rfl, _⟩ := h; rfl) | (obtain ⟨_, _, _, _, _, _, _, rfl, _⟩ := h; rfl) | (obtain ⟨_, _, _, _, _, _, _, _, rfl, _⟩ := h; rfl) | (obtain ⟨_, _, _, _, _, _, _, _, _, rfl, _⟩ := h; rfl) | (obtain ⟨_, _, _, _, _, _, _, _, _, _, rfl, _⟩ := h; rfl) | (obtain ⟨_, _, _, _, _, _, _, _, _, _, _, rfl, _⟩ := h; rfl) | (obtain ⟨_, _, _, _, _, _, _, _, _, _, _, _, rfl, _⟩ := h; rfl) | (obtain ⟨_, _, _, _, _, _, _, _, _, _, _, _, _, rfl, _⟩ := h; rfl) | (obtain ⟨_, _, _, _, _, _, _, _, _, _, _, _, _, _, rfl, _⟩ := h; rfl) | (obtain ⟨_, _, _, _, _, _, _, _, _, _, _, _, _, _, _, rfl, _⟩ := h; rfl) | (obtain ⟨_, _, _, _, _, _, _, _, _, _, _, _, _, _, _, _, rfl, _⟩ := h; rfl) | (obtain ⟨_, _, _, _, _, _, _, _, _, _, _, _, _, _, _, _, _, rfl, _⟩ := h; rfl) | (obtain ⟨_, _, _, _, _, _, _, _, _, _, _, _, _, _, _, _, _, _, rfl, _⟩ := h; rfl))
  (fun cdv A outer s H vs Q Q0 E hr h fin => ⟨t_Due_shows K w, PSs.nox ((pss_cons (ps_if (PW.pt (pw_or (pt_not (pt_val (pe_callN (ok_is_whole T) T.g_is_whole (hr.mono (by decide)) pass0 (pa_cons (pe_fld (pv 0) rfl) pa_nil)))) (pw_or (pt_cmpR op_lt (pe_fld (pv 0) rfl) pe_int (nomark _)) (pw_or1 (pt_cmpR op_notIn_seq (pe_callB call_len_seq rfl T.f_len PySem.boot_len (pa_cons (pv 1) pa_nil)) (pe_fld (pv 0) rfl) (by with_unfolding_all rfl)))))) (pss_one (ps_ret pe_bl)) pss_nil)
    (pss_cons (ps_set (i := 5) sc_Due_shows.nd rfl (Or.inl rfl) (pe_op op_cat (pv 1) (pe_lst (pa_cons (pe_tup (pa_cons (pv 3) (pa_cons (pv 4) (pa_cons (pe_fld (pv 0) rfl) pa_nil)))) pa_nil))))
    (pss_cons (ps_if (pt_not (pt_val (pe_callN (ok_is_best T) T.g_is_best (hr.mono (by decide)) pass0 (pa_cons (pv 5) (pa_cons (pv 2) (pa_cons (pe_fld (pv 0) rfl) (pa_cons (pe_fld (pv 0) rfl) pa_nil))))))) (pss_one (ps_ret pe_bl)) pss_nil)
    (pss_cons (ps_if (pt_not (pt_val (pe_callN (ok_is_best T) T.g_is_best (hr.mono (by decide)) pass0 (pa_cons (pv 1) (pa_cons (pv 2) (pa_cons (pe_fld (pv 0) rfl) (pa_cons (pe_fld (pv 0) rfl) pa_nil))))))) (pss_one (ps_ret pe_bl)) pss_nil)
    (pss_one (ps_ret (pe_cmpR op_eq (pe_callN (ok_worth_of T) T.g_worth_of (hr.mono (by decide)) pass0 (pa_cons (pv 5) (pa_cons (pe_fld (pv 0) rfl) pa_nil))) (pe_callN (ok_worth_of T) T.g_worth_of (hr.mono (by decide)) pass0 (pa_cons (pv 1) (pa_cons (pe_fld (pv 0) rfl) pa_nil))) (nomark _))))))))), pure_Due_shows (⟨T.c_Due, T.n_Due_price, T.n_Due_taken, T.n_Due_tolls, T.n_Due_others, T.n_Due_other_tolls⟩ : DueC K) h fin⟩)
theorem ok__law_due_right (T : Txt K mg base) : FnB P w K mg base CX0 5 ("_law_due_right", none) ["_law_requests_here", "_law_rooms_here", "_law_first", "_law_last", "_law_found", "_law_cell"] (sp__law_due_right K w) :=
  FnB.mk' T.d__law_due_right sc__law_due_right (fun _ _ _ _ _ _ us hl => match us, hl with | [_, _, _, _, _, _], _ => rfl) (fun vs H Q E h => by first | (obtain ⟨_, rfl, _⟩ := h; rfl) | (obtain ⟨_, _, rfl, _⟩ := h; rfl) | (obtain ⟨_, _, _, rfl, _⟩ := h; rfl) | (obtain ⟨_, _, _, _, rfl, _⟩ := h; rfl) | (obtain ⟨_, _, _, _, _, rfl, _⟩ := h; rfl) | (obtain ⟨_, _, _, _, _, _, rfl, _⟩ := h; rfl) | (obtain ⟨_, _, _, _, _, _, _, rfl, _⟩ := h; rfl) | (obtain ⟨_, _, _, _, _, _, _, _, rfl, _⟩ := h; rfl) | (obtain ⟨_, _, _, _, _, _, _, _, _, rfl, _⟩ := h; rfl) | (obtain ⟨_, _, _, _, _, _, _, _, _, _, rfl, _⟩ := h; rfl) | (obtain ⟨_, _, _, _, _, _, _, _, _, _, _, rfl, _⟩ := h; rfl) | (obtain ⟨_, _, _, _, _, _, _, _, _, _, _, _, rfl, _⟩ := h; rfl) | (obtain ⟨_, _, _, _, _, _, _, _, _, _, _, _, _, rfl, _⟩ := h; rfl) | (obtain ⟨_, _, _, _, _, _, _, _, _, _, _, _, _, _, rfl, _⟩ := h; rfl) | (obtain ⟨_, _, _, _, _, _, _, _, _, _, _, _, _, _, _, rfl, _⟩ := h; rfl) | (obtain ⟨_, _, _, _, _, _, _, _, _, _, _, _, _, _, _, _, rfl, _⟩ := h; rfl) | (obtain ⟨_, _, _, _, _, _, _, _, _, _, _, _, _, _, _, _, _, rfl, _⟩ := h; rfl) | (obtain ⟨_, _, _, _, _, _, _, _, _, _, _, _, _, _, _, _, _, _, rfl, _⟩ := h; rfl))
  (fun cdv A outer s H vs Q Q0 E hr h fin => ⟨t__law_due_right K w, PSs.nox ((pss_cons (ps_set (i := 6) sc__law_due_right.nd rfl (Or.inl rfl) (pe_callN (ok__law_draw T) T.g__law_draw (hr.mono (by decide)) pass0 (pa_cons (pv 5) (pa_cons pe_int (pa_cons pe_int pa_nil)))))
    (pss_cons (ps_par3 (i := 7) (j := 8) (l := 9) rfl sc__law_due_right.nd rfl rfl rfl (by decide) (by decide) (by decide) rfl rfl rfl (pa_cons (pe_fld (pv 4) rfl) (pa_cons (pe_fld (pv 4) rfl) (pa_cons (pe_fld (pv 4) rfl) pa_nil))) rfl)
    (pss_cons (ps_par (i := 10) (j := 11) rfl sc__law_due_right.nd rfl rfl (by decide) rfl rfl (pa_cons (pe_fld (pv 4) rfl) (pa_cons (pe_fld (pv 4) rfl) pa_nil)) rfl)
    (pss_cons (ps_if (pt_cmpR op_eq (pv 6) pe_int (nomark _)) (pss_one (ps_set (i := 7) sc__law_due_right.nd rfl (Or.inl rfl) (pe_op op_add (pv 7) (pe_ix ix_tup (pe_tup (pa_cons pe_int (pa_cons (pe_un un_neg pe_int) pa_nil))) (pe_callN (ok__law_draw T) T.g__law_draw (hr.mono (by decide)) pass0 (pa_cons (pv 5) (pa_cons pe_int (pa_cons pe_int pa_nil)))) (fun _ _ => rfl))))) pss_nil)
    (pss_cons (ps_if (pt_cmpR op_eq (pv 6) pe_int (nomark _)) (pss_one (ps_set (i := 8) sc__law_due_right.nd rfl (Or.inl rfl) (pe_callN (ok__law_bent T) T.g__law_bent (hr.mono (by decide)) pass0 (pa_cons (pv 8) (pa_cons (pv 5) (pa_cons (pe_callB call_len_seq rfl T.f_len PySem.boot_len (pa_cons (pv 0) pa_nil)) pa_nil)))))) pss_nil)
    (pss_cons (ps_if (pt_cmpR op_eq (pv 6) pe_int (nomark _)) (pss_one (ps_set (i := 9) sc__law_due_right.nd rfl (Or.inl rfl) (pe_callN (ok__law_tolled T) T.g__law_tolled (hr.mono (by decide)) pass0 (pa_cons (pv 9) (pa_cons (pv 5) pa_nil))))) pss_nil)
    (pss_cons (ps_if (pt_cmpR op_eq (pv 6) pe_int (nomark _)) (pss_one (ps_set (i := 10) sc__law_due_right.nd rfl (Or.inl rfl) (pe_callN (ok__law_bent T) T.g__law_bent (hr.mono (by decide)) pass0 (pa_cons (pv 10) (pa_cons (pv 5) (pa_cons (pe_callN (ok__law_draw T) T.g__law_draw (hr.mono (by decide)) pass0 (pa_cons (pv 5) (pa_cons pe_int (pa_cons (pe_op op_add (pe_callB call_len_seq rfl T.f_len PySem.boot_len (pa_cons (pv 0) pa_nil)) pe_int) pa_nil)))) pa_nil)))))) pss_nil)
    (pss_cons (ps_if (pt_cmpR op_eq (pv 6) pe_int (nomark _)) (pss_one (ps_set (i := 11) sc__law_due_right.nd rfl (Or.inl rfl) (pe_callN (ok__law_tolled T) T.g__law_tolled (hr.mono (by decide)) pass0 (pa_cons (pv 11) (pa_cons (pv 5) pa_nil))))) pss_nil)
    (pss_cons (ps_if (pt_cmpR op_eq (pv 6) pe_int (nomark _)) (pss_one (ps_par (i := 8) (j := 7) rfl sc__law_due_right.nd rfl rfl (by decide) rfl rfl (pa_cons (pv 10) (pa_cons pe_int pa_nil)) rfl)) pss_nil)
    (pss_cons (ps_set (i := 12) sc__law_due_right.nd rfl (Or.inl rfl) (pe_lst (pa_cons (pe_callTy call_list_of rfl T.f_list (by decide +kernel) (pa_cons (pv 8) pa_nil)) (pa_cons (pe_callTy call_list_of rfl T.f_list (by decide +kernel) (pa_cons (pv 9) pa_nil)) (pa_cons (pe_callTy call_list_of rfl T.f_list (by decide +kernel) (pa_cons (pv 10) pa_nil)) (pa_cons (pe_callTy call_list_of rfl T.f_list (by decide +kernel) (pa_cons (pv 11) pa_nil)) pa_nil))))))
    (pss_cons (ps_set (i := 13) sc__law_due_right.nd rfl (Or.inl rfl) (pe_makeN T.k_Due (ok_Due___init__ T) T.g_Due (hr.mono (by decide)) pass0 (pa_cons (pv 7) (pa_cons (pe_ix ix_list (pv 12) pe_int (fun _ _ => rfl)) (pa_cons (pe_ix ix_list (pv 12) pe_int (fun _ _ => rfl)) (pa_cons (pe_ix ix_list (pv 12) pe_int (fun _ _ => rfl)) (pa_cons (pe_ix ix_list (pv 12) pe_int (fun _ _ => rfl)) pa_nil)))))))
    (pss_cons (ps_for PassesOwn.never rfl (pi_list (pv 12)) (pg_name (i := 14) sc__law_due_right.nd rfl (Or.inl rfl)) (pss_one (ps_expr (pe_bm PySem.F.plainAttrs_list PySem.F.slot_list_append PySem.F.type_list_append mt_append (pv 14) (pa_cons pe_int pa_nil)))))
    (pss_cons (ps_if (PW.pt (pw_or (pt_cmpR (op_neD hr.units) (pe_fld (pv 13) rfl) (pv 8) (nomark _)) (pw_or1 (pt_cmpR (op_neD hr.units) (pe_fld (pv 13) rfl) (pv 9) (nomark _))))) (pss_one (ps_ret pe_bl)) pss_nil)
    (pss_cons (ps_if (PW.pt (pw_or (pt_cmpR (op_neD hr.units) (pe_fld (pv 13) rfl) (pv 10) (nomark _)) (pw_or1 (pt_cmpR (op_neD hr.units) (pe_fld (pv 13) rfl) (pv 11) (nomark _))))) (pss_one (ps_ret pe_bl)) pss_nil)
    (pss_cons (ps_set (i := 15) sc__law_due_right.nd rfl (Or.inl rfl) (pe_op op_cat (pv 0) (pe_lst (pa_cons (pe_tup (pa_cons (pv 2) (pa_cons (pv 3) (pa_cons (pe_callB (call_max2 rfl) rfl T.f_max (by decide +kernel) (pa_cons pe_int (pa_cons (pv 7) pa_nil))) pa_nil)))) pa_nil))))
    (pss_cons (ps_set (i := 16) sc__law_due_right.nd rfl (Or.inl rfl) (pe_and (pe_cmpR op_ge (pv 7) pe_int (nomark _)) (pe_and (pe_cmpR op_in_seq (pe_callB call_len_seq rfl T.f_len PySem.boot_len (pa_cons (pv 0) pa_nil)) (pv 8) (by with_unfolding_all rfl)) (pe_one (pe_callN (ok__law_best T) T.g__law_best (hr.mono (by decide)) pass0 (pa_cons (pv 15) (pa_cons (pv 1) (pa_cons (pv 8) (pa_cons (pv 9) pa_nil)))))))))
    (pss_cons (ps_set (i := 16) sc__law_due_right.nd rfl (Or.inl rfl) (pe_and (pv 16) (pe_one (pe_callN (ok__law_best T) T.g__law_best (hr.mono (by decide)) pass0 (pa_cons (pv 0) (pa_cons (pv 1) (pa_cons (pv 10) (pa_cons (pv 11) pa_nil))))))))
    (pss_cons (ps_set (i := 16) sc__law_due_right.nd rfl (Or.inl rfl) (pe_and (pv 16) (pe_one (pe_cmpR op_eq (pe_callN (ok__law_worth T) T.g__law_worth (hr.mono (by decide)) pass0 (pa_cons (pv 15) (pa_cons (pv 8) pa_nil))) (pe_callN (ok__law_worth T) T.g__law_worth (hr.mono (by decide)) pass0 (pa_cons (pv 0) (pa_cons (pv 10) pa_nil))) (nomark _)))))
    (pss_one (ps_ret (pe_and (pe_cmpR op_eq (pe_fld (pv 13) rfl) (pv 7) (nomark _)) (pe_one (pe_callN (ok__law_says T) T.g__law_says (hr.mono (by decide)) pass0 (pa_cons (pe_methN (pv 13) T.c_Due T.m_Due_shows (ok_Due_shows T) (hr.mono (by decide)) pass0 (pa_cons (pv 0) (pa_cons (pv 1) (pa_cons (pv 2) (pa_cons (pv 3) pa_nil))))) (pa_cons (pv 16) pa_nil)))))))))))))))))))))))))), pure__law_due_right (⟨T.c_Due, T.n_Due_price, T.n_Due_taken, T.n_Due_tolls, T.n_Due_others, T.n_Due_other_tolls⟩ : DueC K) h fin⟩)
theorem ok_law (T : Txt K mg base) {fd : FuncData} (F : FunD K "law" "law" (defArgs s_law) (defBody s_law) (defScope s_law) [] [] (He.fAd K ("law", none)) fd) : FnOk P w K mg base CX0 8 (He.fAd K ("law", none)) fd ["_law_script"] (sp_law K w) :=
  fn_mk' F sc_law (fun vs H Q E h => by first | (obtain ⟨_, rfl, _⟩ := h; rfl) | (obtain ⟨_, _, rfl, _⟩ := h; rfl) | (obtain ⟨_, _, _, rfl, _⟩ := h; rfl) | (obtain ⟨_, _, _, _, rfl, _⟩ := h; rfl) | (obtain ⟨_, _, _, _, _, rfl, _⟩ := h; rfl) | (obtain ⟨_, _, _, _, _, _, rfl, _⟩ := h; rfl) | (obtain ⟨_, _, _, _, _, _, _, rfl, _⟩ := h; rfl) | (obtain ⟨_, _, _, _, _, _, _, _, rfl, _⟩ := h; rfl) | (obtain ⟨_, _, _, _, _, _, _, _, _, rfl, _⟩ := h; rfl) | (obtain ⟨_, _, _, _, _, _, _, _, _, _, rfl, _⟩ := h; rfl) | (obtain ⟨_, _, _, _, _, _, _, _, _, _, _, rfl, _⟩ := h; rfl) | (obtain ⟨_, _, _, _, _, _, _, _, _, _, _, _, rfl, _⟩ := h; rfl) | (obtain ⟨_, _, _, _, _, _, _, _, _, _, _, _, _, rfl, _⟩ := h; rfl) | (obtain ⟨_, _, _, _, _, _, _, _, _, _, _, _, _, _, rfl, _⟩ := h; rfl) | (obtain ⟨_, _, _, _, _, _, _, _, _, _, _, _, _, _, _, rfl, _⟩ := h; rfl) | (obtain ⟨_, _, _, _, _, _, _, _, _, _, _, _, _, _, _, _, rfl, _⟩ := h; rfl) | (obtain ⟨_, _, _, _, _, _, _, _, _, _, _, _, _, _, _, _, _, rfl, _⟩ := h; rfl) | (obtain ⟨_, _, _, _, _, _, _, _, _, _, _, _, _, _, _, _, _, _, rfl, _⟩ := h; rfl)) (fun cdv A outer s H vs Q Q0 E hr h fin => ⟨t_law K w, PSs.nox ((pss_cons (ps_set (i := 1) sc_law.nd rfl (Or.inl rfl) (pe_callN (ok__law_requests T) T.g__law_requests (hr.mono (by decide)) pass0 (pa_cons (pv 0) pa_nil)))
    (pss_cons (ps_set (i := 2) sc_law.nd rfl (Or.inl rfl) (pe_callB (call_max2 rfl) rfl T.f_max (by decide +kernel) (pa_cons pe_int (pa_cons (pe_callN (ok__law_rooms T) T.g__law_rooms (hr.mono (by decide)) pass0 (pa_cons (pv 0) (pa_cons (pe_callB call_len_seq rfl T.f_len PySem.boot_len (pa_cons (pv 1) pa_nil)) pa_nil))) pa_nil))))
    (pss_cons (ps_par (i := 3) (j := 4) rfl sc_law.nd rfl rfl (by decide) rfl rfl (pa_cons (pe_callN (ok_best T) T.g_best (hr.mono (by decide)) pass0 (pa_cons (pv 1) (pa_cons (pv 2) pa_nil))) (pa_cons (pe_callN (ok_lodged T) T.g_lodged (hr.mono (by decide)) pass0 (pa_cons (pv 1) (pa_cons (pv 2) pa_nil))) pa_nil)) rfl)
    (pss_cons (ps_set (i := 5) sc_law.nd rfl (Or.inl rfl) (pe_op op_sub (pe_callN (ok__law_draw T) T.g__law_draw (hr.mono (by decide)) pass0 (pa_cons (pe_callN (ok__law_cell_at T) T.g__law_cell_at (hr.mono (by decide)) pass0 (pa_cons (pv 0) (pa_cons pe_int pa_nil))) (pa_cons pe_int (pa_cons pe_int pa_nil)))) pe_int))
    (pss_cons (ps_set (i := 6) sc_law.nd rfl (Or.inl rfl) (pe_callN (ok_due T) T.g_due (hr.mono (by decide)) pass0 (pa_cons (pv 1) (pa_cons (pv 2) (pa_cons (pv 5) (pa_cons (pe_op op_add (pv 5) pe_int) pa_nil))))))
    (pss_cons (ps_set (i := 7) sc_law.nd rfl (Or.inl rfl) (pe_ifExp (pt_val (pe_callB call_isi rfl T.f_isinstance (by decide +kernel) (pa_cons (pv 4) (pa_cons (pe_glob rfl T.g_Crowd rfl) pa_nil)))) (pe_fld (pv 4) rfl) (pe_listRg rfl rfl T.f_list (prg_1 rfl T.f_range (pe_callB call_len_seq rfl T.f_len PySem.boot_len (pa_cons (pv 1) pa_nil))))))
    (pss_cons (ps_set (i := 8) sc_law.nd rfl (Or.inl rfl) (pe_ifExp (pt_val (pe_callB call_isi rfl T.f_isinstance (by decide +kernel) (pa_cons (pv 4) (pa_cons (pe_glob rfl T.g_Lodged rfl) pa_nil)))) (pe_fld (pv 4) rfl) (pe_lc (own := [("_law_request", 13)]) (g := (gName 13)) (tt := tYes) rfl sc_law.nd (pi_list (pv 1)) (blkOk_by (N := ["_law_script", "_law_requests_here", "_law_rooms_here", "_law_found", "_law_home", "_law_first", "_law_owed", "_law_places", "_law_some", "_law_k", "_law_cell", "_law_drawn", "_law_day", "_law_request"]) (sc := defScope s_law) (by decide +kernel)) (fun _ _ _ _ _ => (pg_name (i := 13) sc_law.nd rfl (Or.inl rfl))) (fun _ _ _ _ _ => pts_nil) (fun _ _ _ _ _ => pe_int))))
    (pss_cons (ps_for PassesOwn.never rfl (pi_range1 rfl T.f_range (pa_cons pe_int pa_nil)) (pg_name (i := 9) sc_law.nd rfl (Or.inl rfl)) (pss_cons (ps_set (i := 10) sc_law.nd rfl (Or.inl rfl) (pe_op op_add (pe_op op_add (pe_callN (ok__law_cell_at T) T.g__law_cell_at (hr.mono (by decide)) pass0 (pa_cons (pv 0) (pa_cons (pv 9) pa_nil))) (pe_op op_mul pe_int (pv 9))) (pe_op op_mul pe_int (pe_callN (ok__law_cell_at T) T.g__law_cell_at (hr.mono (by decide)) pass0 (pa_cons (pv 0) (pa_cons (pe_op op_add (pv 9) pe_int) pa_nil))))))
    (pss_cons (ps_set (i := 11) sc_law.nd rfl (Or.inl rfl) (pe_op op_sub (pe_callN (ok__law_draw T) T.g__law_draw (hr.mono (by decide)) pass0 (pa_cons (pv 10) (pa_cons pe_int (pa_cons (pe_op op_add (pe_callB call_len_seq rfl T.f_len PySem.boot_len (pa_cons (pv 1) pa_nil)) pe_int) pa_nil)))) pe_int))
    (pss_cons (ps_if (pt_not (pt_val (pe_callN (ok__law_best_right T) T.g__law_best_right (hr.mono (by decide)) pass0 (pa_cons (pv 1) (pa_cons (pv 2) (pa_cons (pe_callN (ok__law_bent T) T.g__law_bent (hr.mono (by decide)) pass0 (pa_cons (pe_fld (pv 3) rfl) (pa_cons (pv 10) (pa_cons (pv 11) pa_nil)))) (pa_cons (pe_fld (pv 3) rfl) pa_nil))))))) (pss_one (ps_ret pe_bl)) pss_nil)
    (pss_cons (ps_if (pt_not (pt_val (pe_callN (ok__law_best_right T) T.g__law_best_right (hr.mono (by decide)) pass0 (pa_cons (pv 1) (pa_cons (pv 2) (pa_cons (pe_fld (pv 3) rfl) (pa_cons (pe_callN (ok__law_tolled T) T.g__law_tolled (hr.mono (by decide)) pass0 (pa_cons (pe_fld (pv 3) rfl) (pa_cons (pe_op op_fdiv (pv 10) pe_int) pa_nil))) pa_nil))))))) (pss_one (ps_ret pe_bl)) pss_nil)
    (pss_cons (ps_if (pt_not (pt_val (pe_callN (ok__law_lodged_right T) T.g__law_lodged_right (hr.mono (by decide)) pass0 (pa_cons (pv 1) (pa_cons (pv 2) (pa_cons (pe_callN (ok__law_bent T) T.g__law_bent (hr.mono (by decide)) pass0 (pa_cons (pv 8) (pa_cons (pe_op op_fdiv (pv 10) pe_int) (pa_cons (pe_op op_sub (pe_callN (ok__law_draw T) T.g__law_draw (hr.mono (by decide)) pass0 (pa_cons (pv 10) (pa_cons pe_int (pa_cons pe_int pa_nil)))) pe_int) pa_nil)))) pa_nil)))))) (pss_one (ps_ret pe_bl)) pss_nil)
    (pss_cons (ps_set (i := 12) sc_law.nd rfl (Or.inl rfl) (pe_ifExp (pt_val (pe_callB call_isi rfl T.f_isinstance (by decide +kernel) (pa_cons (pv 4) (pa_cons (pe_glob rfl T.g_Crowd rfl) pa_nil)))) (pe_op op_add (pe_fld (pv 4) rfl) (pe_ix ix_tup (pe_tup (pa_cons pe_int (pa_cons pe_int (pa_cons pe_int (pa_cons (pe_un un_neg pe_int) pa_nil))))) (pe_callN (ok__law_draw T) T.g__law_draw (hr.mono (by decide)) pass0 (pa_cons (pv 10) (pa_cons pe_int (pa_cons pe_int pa_nil)))) (fun _ _ => rfl))) (pv 5)))
    (pss_cons (ps_if (pt_not (pt_val (pe_callN (ok__law_crowd_right T) T.g__law_crowd_right (hr.mono (by decide)) pass0 (pa_cons (pv 1) (pa_cons (pv 2) (pa_cons (pv 12) (pa_cons (pe_callN (ok__law_bent T) T.g__law_bent (hr.mono (by decide)) pass0 (pa_cons (pv 7) (pa_cons (pe_op op_fdiv (pv 10) pe_int) (pa_cons (pv 11) pa_nil)))) pa_nil))))))) (pss_one (ps_ret pe_bl)) pss_nil)
    (pss_one (ps_if (pt_not (pt_val (pe_callN (ok__law_due_right T) T.g__law_due_right (hr.mono (by decide)) pass0 (pa_cons (pv 1) (pa_cons (pv 2) (pa_cons (pv 5) (pa_cons (pe_op op_add (pv 5) pe_int) (pa_cons (pv 6) (pa_cons (pe_op op_fdiv (pv 10) pe_int) pa_nil))))))))) (pss_one (ps_ret pe_bl)) pss_nil))))))))))
    (pss_one (ps_ret pe_bl))))))))))), pure_law (⟨⟨T.c_Lodged, T.n_Lodged_rooms⟩, ⟨T.c_Crowd, T.n_Crowd_day, T.n_Crowd_asking⟩, T.i_Lodged.isa T.c_Lodged, T.i_Crowd.isa T.c_Crowd, T.kt_Lodged_Crowd_0, T.kt_Crowd_Crowd_1⟩ : HomeC K) (⟨T.c_Due, T.n_Due_price, T.n_Due_taken, T.n_Due_tolls, T.n_Due_others, T.n_Due_other_tolls⟩ : DueC K) (⟨T.c_Best, T.n_Best_taken, T.n_Best_tolls⟩ : BestC K) T.kt_Lodged_Lodged_1 T.kt_Crowd_Lodged_0 h fin⟩)
end
/-! ### the head -/
def fn : List He.DefD := [
  ⟨("_law_draw", none), "_law_draw", "_law_draw", defArgs s__law_draw, defBody s__law_draw, defScope s__law_draw, [], []⟩,
  ⟨("_law_cell_at", none), "_law_cell_at", "_law_cell_at", defArgs s__law_cell_at, defBody s__law_cell_at, defScope s__law_cell_at, [], []⟩,
  ⟨("_law_requests", none), "_law_requests", "_law_requests", defArgs s__law_requests, defBody s__law_requests, defScope s__law_requests, [], []⟩,
  ⟨("is_whole", none), "is_whole", "is_whole", defArgs s_is_whole, defBody s_is_whole, defScope s_is_whole, [], []⟩,
  ⟨("is_request", none), "is_request", "is_request", defArgs s_is_request, defBody s_is_request, defScope s_is_request, [], []⟩,
  ⟨("check_requests", none), "check_requests", "check_requests", defArgs s_check_requests, defBody s_check_requests, defScope s_check_requests, [], []⟩,
  ⟨("check_rooms", none), "check_rooms", "check_rooms", defArgs s_check_rooms, defBody s_check_rooms, defScope s_check_rooms, [], []⟩,
  ⟨("Ways", some "steps"), "steps", "Ways.steps", defArgs s_Ways_steps, defBody s_Ways_steps, defScope s_Ways_steps, [], []⟩,
  ⟨("Ways", some "most"), "most", "Ways.most", defArgs s_Ways_most, defBody s_Ways_most, defScope s_Ways_most, [], []⟩,
  ⟨("Ways", some "lead"), "lead", "Ways.lead", defArgs s_Ways_lead, defBody s_Ways_lead, defScope s_Ways_lead, [], []⟩,
  ⟨("Ways", some "__init__"), "__init__", "Ways.__init__", defArgs s_Ways___init__, defBody s_Ways___init__, defScope s_Ways___init__, [], []⟩,
  ⟨("Ways", some "choice"), "choice", "Ways.choice", defArgs s_Ways_choice, defBody s_Ways_choice, defScope s_Ways_choice, [], []⟩,
  ⟨("Ways", some "amounts"), "amounts", "Ways.amounts", defArgs s_Ways_amounts, defBody s_Ways_amounts, defScope s_Ways_amounts, [], []⟩,
  ⟨("best_of", none), "best_of", "best_of", defArgs s_best_of, defBody s_best_of, defScope s_best_of, [], []⟩,
  ⟨("worth_of", none), "worth_of", "worth_of", defArgs s_worth_of, defBody s_worth_of, defScope s_worth_of, [], []⟩,
  ⟨("Due", some "__init__"), "__init__", "Due.__init__", defArgs s_Due___init__, defBody s_Due___init__, defScope s_Due___init__, [], []⟩,
  ⟨("due", none), "due", "due", defArgs s_due, defBody s_due, defScope s_due, [], []⟩,
  ⟨("_law_rooms", none), "_law_rooms", "_law_rooms", defArgs s__law_rooms, defBody s__law_rooms, defScope s__law_rooms, [], []⟩,
  ⟨("Best", some "__init__"), "__init__", "Best.__init__", defArgs s_Best___init__, defBody s_Best___init__, defScope s_Best___init__, [], []⟩,
  ⟨("best", none), "best", "best", defArgs s_best, defBody s_best, defScope s_best, [], []⟩,
  ⟨("Lodged", some "__init__"), "__init__", "Lodged.__init__", defArgs s_Lodged___init__, defBody s_Lodged___init__, defScope s_Lodged___init__, [], []⟩,
  ⟨("for_day", none), "for_day", "for_day", defArgs s_for_day, defBody s_for_day, defScope s_for_day, [], []⟩,
  ⟨("Crowd", some "__init__"), "__init__", "Crowd.__init__", defArgs s_Crowd___init__, defBody s_Crowd___init__, defScope s_Crowd___init__, [], []⟩,
  ⟨("lodged", none), "lodged", "lodged", defArgs s_lodged, defBody s_lodged, defScope s_lodged, [], []⟩,
  ⟨("_law_says", none), "_law_says", "_law_says", defArgs s__law_says, defBody s__law_says, defScope s__law_says, [], []⟩,
  ⟨("bound_by", none), "bound_by", "bound_by", defArgs s_bound_by, defBody s_bound_by, defScope s_bound_by, [], []⟩,
  ⟨("is_choice", none), "is_choice", "is_choice", defArgs s_is_choice, defBody s_is_choice, defScope s_is_choice, [], []⟩,
  ⟨("fits", none), "fits", "fits", defArgs s_fits, defBody s_fits, defScope s_fits, [], []⟩,
  ⟨("are_tolls", none), "are_tolls", "are_tolls", defArgs s_are_tolls, defBody s_are_tolls, defScope s_are_tolls, [], []⟩,
  ⟨("is_best", none), "is_best", "is_best", defArgs s_is_best, defBody s_is_best, defScope s_is_best, [], []⟩,
  ⟨("Best", some "shows"), "shows", "Best.shows", defArgs s_Best_shows, defBody s_Best_shows, defScope s_Best_shows, [], []⟩,
  ⟨("_law_whole", none), "_law_whole", "_law_whole", defArgs s__law_whole, defBody s__law_whole, defScope s__law_whole, [], []⟩,
  ⟨("_law_chosen", none), "_law_chosen", "_law_chosen", defArgs s__law_chosen, defBody s__law_chosen, defScope s__law_chosen, [], []⟩,
  ⟨("_law_worth", none), "_law_worth", "_law_worth", defArgs s__law_worth, defBody s__law_worth, defScope s__law_worth, [], []⟩,
  ⟨("_law_there", none), "_law_there", "_law_there", defArgs s__law_there, defBody s__law_there, defScope s__law_there, [], []⟩,
  ⟨("_law_best", none), "_law_best", "_law_best", defArgs s__law_best, defBody s__law_best, defScope s__law_best, [], []⟩,
  ⟨("_law_best_right", none), "_law_best_right", "_law_best_right", defArgs s__law_best_right, defBody s__law_best_right, defScope s__law_best_right, [], []⟩,
  ⟨("Lodged", some "shows"), "shows", "Lodged.shows", defArgs s_Lodged_shows, defBody s_Lodged_shows, defScope s_Lodged_shows, [], []⟩,
  ⟨("_law_lodged_right", none), "_law_lodged_right", "_law_lodged_right", defArgs s__law_lodged_right, defBody s__law_lodged_right, defScope s__law_lodged_right, [], []⟩,
  ⟨("Crowd", some "shows"), "shows", "Crowd.shows", defArgs s_Crowd_shows, defBody s_Crowd_shows, defScope s_Crowd_shows, [], []⟩,
  ⟨("_law_crowd_right", none), "_law_crowd_right", "_law_crowd_right", defArgs s__law_crowd_right, defBody s__law_crowd_right, defScope s__law_crowd_right, [], []⟩,
  ⟨("_law_bent", none), "_law_bent", "_law_bent", defArgs s__law_bent, defBody s__law_bent, defScope s__law_bent, [], []⟩,
  ⟨("_law_tolled", none), "_law_tolled", "_law_tolled", defArgs s__law_tolled, defBody s__law_tolled, defScope s__law_tolled, [], []⟩,
  ⟨("Due", some "shows"), "shows", "Due.shows", defArgs s_Due_shows, defBody s_Due_shows, defScope s_Due_shows, [], []⟩,
  ⟨("_law_due_right", none), "_law_due_right", "_law_due_right", defArgs s__law_due_right, defBody s__law_due_right, defScope s__law_due_right, [], []⟩,
  ⟨("law", none), "law", "law", defArgs s_law, defBody s_law, defScope s_law, [], []⟩]
def fa : List He.Fa := [.cls "Best", .cls "Crowd", .cls "Due", .cls "Lodged", .cls "Ways", .free "all", .free "any", .free "bool", .free "enumerate", .free "int", .free "isinstance", .free "len", .free "list", .free "max", .free "min", .free "range", .free "set", .free "sorted", .free "sum", .free "tuple", .glo "Best", .glo "Crowd", .glo "Due", .glo "Lodged", .glo "Ways", .glo "_law_bent", .glo "_law_best", .glo "_law_best_right", .glo "_law_cell_at", .glo "_law_chosen", .glo "_law_crowd_right", .glo "_law_draw", .glo "_law_due_right", .glo "_law_lodged_right", .glo "_law_requests", .glo "_law_rooms", .glo "_law_says", .glo "_law_there", .glo "_law_tolled", .glo "_law_whole", .glo "_law_worth", .glo "are_tolls", .glo "best", .glo "best_of", .glo "bound_by", .glo "check_requests", .glo "check_rooms", .glo "due", .glo "fits", .glo "for_day", .glo "is_best", .glo "is_choice", .glo "is_request", .glo "is_whole", .glo "law", .glo "lodged", .glo "worth_of", .mkr "Best", .mkr "Crowd", .mkr "Due", .mkr "Lodged", .mkr "Ways", .meth "Best" "shows", .meth "Crowd" "shows", .meth "Due" "shows", .meth "Lodged" "shows", .meth "Ways" "amounts", .meth "Ways" "choice", .meth "Ways" "lead", .meth "Ways" "most", .meth "Ways" "steps", .noat "Best" "taken", .noat "Best" "tolls", .noat "Crowd" "asking", .noat "Crowd" "day", .noat "Due" "other_tolls", .noat "Due" "others", .noat "Due" "price", .noat "Due" "taken", .noat "Due" "tolls", .noat "Lodged" "rooms", .noat "Ways" "days", .noat "Ways" "ends", .noat "Ways" "idle", .noat "Ways" "taken"]
def fx : List Fx := [.isa "Crowd", .isa "Lodged", .kit "Crowd" "Crowd" true, .kit "Crowd" "Lodged" false, .kit "Lodged" "Crowd" false, .kit "Lodged" "Lodged" true]
def tf : List He.Defn := [("lodged", none)]
def fxB (K : PySem.W.Frag) : Bool := fx.all fun f => f.ok K
abbrev R : PySem.W.OpenRow := PySem.W.OpenLaw.row PySem.Challenge.rw_spantolls_k05_answers_by_hand
abbrev hk : PySem.W.Hook := He.hookX 5 fa fn [] tf fxB
def ob (s : PySem.W.SharedT) : He.AlX := He.obsX 5 fa fn [] tf fxB (HandSHeadRun.getT s)
theorem ob_eq (s : PySem.W.SharedT) : ob s = hk.obs s.abs := He.obsX_eq (HandSHeadRun.getT_eq s)
def loose1 : List PySem.Str := ["SpanError", "BadRequests", "BadRooms", "BadDays", "is_whole", "is_request", "check_requests", "check_rooms", "for_day", "is_choice", "fits", "are_tolls", "worth_of", "bound_by", "is_best", "Answer", "Best", "Lodged", "Crowd", "Due", "Ways", "best_of", "best", "due", "lodged", "_law_cell_at", "_law_draw", "_law_requests", "_law_rooms", "_law_whole"]
def loose2 : List PySem.Str := ["_law_chosen", "_law_there", "_law_worth", "_law_best", "_law_says", "_law_bent", "_law_tolled", "_law_best_right", "_law_lodged_right", "_law_crowd_right", "_law_due_right"]
def looseN : List PySem.Str := loose1 ++ loose2
set_option maxHeartbeats 0 in
theorem run (w : World) : HandSHeadRun.RunEq R (PySem.W.view R.prog [47]) hk ob 20000 looseN w := by
  intro os
  kernel_rfl
theorem txt_of {K : PySem.W.Frag} {h base : Heap} {w : World} {mg : Str → Option Value} (X : K.In h) (G : h.Ns mainGlobals mg) (c : He.SaysX fa fn [] tf fxB w h K) (tb : LamX.TabB base mg (He.cT K ("lodged", none)).1 (He.cT K ("lodged", none)).2) : Txt K mg base where
  tb := tb
  d__law_draw := c.t.d.def_ 0 (d := ⟨("_law_draw", none), "_law_draw", "_law_draw", defArgs s__law_draw, defBody s__law_draw, defScope s__law_draw, [], []⟩) rfl
  d__law_cell_at := c.t.d.def_ 1 (d := ⟨("_law_cell_at", none), "_law_cell_at", "_law_cell_at", defArgs s__law_cell_at, defBody s__law_cell_at, defScope s__law_cell_at, [], []⟩) rfl
  d__law_requests := c.t.d.def_ 2 (d := ⟨("_law_requests", none), "_law_requests", "_law_requests", defArgs s__law_requests, defBody s__law_requests, defScope s__law_requests, [], []⟩) rfl
  d_is_whole := c.t.d.def_ 3 (d := ⟨("is_whole", none), "is_whole", "is_whole", defArgs s_is_whole, defBody s_is_whole, defScope s_is_whole, [], []⟩) rfl
  d_is_request := c.t.d.def_ 4 (d := ⟨("is_request", none), "is_request", "is_request", defArgs s_is_request, defBody s_is_request, defScope s_is_request, [], []⟩) rfl
  d_check_requests := c.t.d.def_ 5 (d := ⟨("check_requests", none), "check_requests", "check_requests", defArgs s_check_requests, defBody s_check_requests, defScope s_check_requests, [], []⟩) rfl
  d_check_rooms := c.t.d.def_ 6 (d := ⟨("check_rooms", none), "check_rooms", "check_rooms", defArgs s_check_rooms, defBody s_check_rooms, defScope s_check_rooms, [], []⟩) rfl
  d_Ways_steps := c.t.d.def_ 7 (d := ⟨("Ways", some "steps"), "steps", "Ways.steps", defArgs s_Ways_steps, defBody s_Ways_steps, defScope s_Ways_steps, [], []⟩) rfl
  d_Ways_most := c.t.d.def_ 8 (d := ⟨("Ways", some "most"), "most", "Ways.most", defArgs s_Ways_most, defBody s_Ways_most, defScope s_Ways_most, [], []⟩) rfl
  d_Ways_lead := c.t.d.def_ 9 (d := ⟨("Ways", some "lead"), "lead", "Ways.lead", defArgs s_Ways_lead, defBody s_Ways_lead, defScope s_Ways_lead, [], []⟩) rfl
  d_Ways___init__ := c.t.d.def_ 10 (d := ⟨("Ways", some "__init__"), "__init__", "Ways.__init__", defArgs s_Ways___init__, defBody s_Ways___init__, defScope s_Ways___init__, [], []⟩) rfl
  d_Ways_choice := c.t.d.def_ 11 (d := ⟨("Ways", some "choice"), "choice", "Ways.choice", defArgs s_Ways_choice, defBody s_Ways_choice, defScope s_Ways_choice, [], []⟩) rfl
  d_Ways_amounts := c.t.d.def_ 12 (d := ⟨("Ways", some "amounts"), "amounts", "Ways.amounts", defArgs s_Ways_amounts, defBody s_Ways_amounts, defScope s_Ways_amounts, [], []⟩) rfl
  d_best_of := c.t.d.def_ 13 (d := ⟨("best_of", none), "best_of", "best_of", defArgs s_best_of, defBody s_best_of, defScope s_best_of, [], []⟩) rfl
  d_worth_of := c.t.d.def_ 14 (d := ⟨("worth_of", none), "worth_of", "worth_of", defArgs s_worth_of, defBody s_worth_of, defScope s_worth_of, [], []⟩) rfl
  d_Due___init__ := c.t.d.def_ 15 (d := ⟨("Due", some "__init__"), "__init__", "Due.__init__", defArgs s_Due___init__, defBody s_Due___init__, defScope s_Due___init__, [], []⟩) rfl
  d_due := c.t.d.def_ 16 (d := ⟨("due", none), "due", "due", defArgs s_due, defBody s_due, defScope s_due, [], []⟩) rfl
  d__law_rooms := c.t.d.def_ 17 (d := ⟨("_law_rooms", none), "_law_rooms", "_law_rooms", defArgs s__law_rooms, defBody s__law_rooms, defScope s__law_rooms, [], []⟩) rfl
  d_Best___init__ := c.t.d.def_ 18 (d := ⟨("Best", some "__init__"), "__init__", "Best.__init__", defArgs s_Best___init__, defBody s_Best___init__, defScope s_Best___init__, [], []⟩) rfl
  d_best := c.t.d.def_ 19 (d := ⟨("best", none), "best", "best", defArgs s_best, defBody s_best, defScope s_best, [], []⟩) rfl
  d_Lodged___init__ := c.t.d.def_ 20 (d := ⟨("Lodged", some "__init__"), "__init__", "Lodged.__init__", defArgs s_Lodged___init__, defBody s_Lodged___init__, defScope s_Lodged___init__, [], []⟩) rfl
  d_for_day := c.t.d.def_ 21 (d := ⟨("for_day", none), "for_day", "for_day", defArgs s_for_day, defBody s_for_day, defScope s_for_day, [], []⟩) rfl
  d_Crowd___init__ := c.t.d.def_ 22 (d := ⟨("Crowd", some "__init__"), "__init__", "Crowd.__init__", defArgs s_Crowd___init__, defBody s_Crowd___init__, defScope s_Crowd___init__, [], []⟩) rfl
  d_lodged := c.t.d.def_ 23 (d := ⟨("lodged", none), "lodged", "lodged", defArgs s_lodged, defBody s_lodged, defScope s_lodged, [], []⟩) rfl
  d__law_says := c.t.d.def_ 24 (d := ⟨("_law_says", none), "_law_says", "_law_says", defArgs s__law_says, defBody s__law_says, defScope s__law_says, [], []⟩) rfl
  d_bound_by := c.t.d.def_ 25 (d := ⟨("bound_by", none), "bound_by", "bound_by", defArgs s_bound_by, defBody s_bound_by, defScope s_bound_by, [], []⟩) rfl
  d_is_choice := c.t.d.def_ 26 (d := ⟨("is_choice", none), "is_choice", "is_choice", defArgs s_is_choice, defBody s_is_choice, defScope s_is_choice, [], []⟩) rfl
  d_fits := c.t.d.def_ 27 (d := ⟨("fits", none), "fits", "fits", defArgs s_fits, defBody s_fits, defScope s_fits, [], []⟩) rfl
  d_are_tolls := c.t.d.def_ 28 (d := ⟨("are_tolls", none), "are_tolls", "are_tolls", defArgs s_are_tolls, defBody s_are_tolls, defScope s_are_tolls, [], []⟩) rfl
  d_is_best := c.t.d.def_ 29 (d := ⟨("is_best", none), "is_best", "is_best", defArgs s_is_best, defBody s_is_best, defScope s_is_best, [], []⟩) rfl
  d_Best_shows := c.t.d.def_ 30 (d := ⟨("Best", some "shows"), "shows", "Best.shows", defArgs s_Best_shows, defBody s_Best_shows, defScope s_Best_shows, [], []⟩) rfl
  d__law_whole := c.t.d.def_ 31 (d := ⟨("_law_whole", none), "_law_whole", "_law_whole", defArgs s__law_whole, defBody s__law_whole, defScope s__law_whole, [], []⟩) rfl
  d__law_chosen := c.t.d.def_ 32 (d := ⟨("_law_chosen", none), "_law_chosen", "_law_chosen", defArgs s__law_chosen, defBody s__law_chosen, defScope s__law_chosen, [], []⟩) rfl
  d__law_worth := c.t.d.def_ 33 (d := ⟨("_law_worth", none), "_law_worth", "_law_worth", defArgs s__law_worth, defBody s__law_worth, defScope s__law_worth, [], []⟩) rfl
  d__law_there := c.t.d.def_ 34 (d := ⟨("_law_there", none), "_law_there", "_law_there", defArgs s__law_there, defBody s__law_there, defScope s__law_there, [], []⟩) rfl
  d__law_best := c.t.d.def_ 35 (d := ⟨("_law_best", none), "_law_best", "_law_best", defArgs s__law_best, defBody s__law_best, defScope s__law_best, [], []⟩) rfl
  d__law_best_right := c.t.d.def_ 36 (d := ⟨("_law_best_right", none), "_law_best_right", "_law_best_right", defArgs s__law_best_right, defBody s__law_best_right, defScope s__law_best_right, [], []⟩) rfl
  d_Lodged_shows := c.t.d.def_ 37 (d := ⟨("Lodged", some "shows"), "shows", "Lodged.shows", defArgs s_Lodged_shows, defBody s_Lodged_shows, defScope s_Lodged_shows, [], []⟩) rfl
  d__law_lodged_right := c.t.d.def_ 38 (d := ⟨("_law_lodged_right", none), "_law_lodged_right", "_law_lodged_right", defArgs s__law_lodged_right, defBody s__law_lodged_right, defScope s__law_lodged_right, [], []⟩) rfl
  d_Crowd_shows := c.t.d.def_ 39 (d := ⟨("Crowd", some "shows"), "shows", "Crowd.shows", defArgs s_Crowd_shows, defBody s_Crowd_shows, defScope s_Crowd_shows, [], []⟩) rfl
  d__law_crowd_right := c.t.d.def_ 40 (d := ⟨("_law_crowd_right", none), "_law_crowd_right", "_law_crowd_right", defArgs s__law_crowd_right, defBody s__law_crowd_right, defScope s__law_crowd_right, [], []⟩) rfl
  d__law_bent := c.t.d.def_ 41 (d := ⟨("_law_bent", none), "_law_bent", "_law_bent", defArgs s__law_bent, defBody s__law_bent, defScope s__law_bent, [], []⟩) rfl
  d__law_tolled := c.t.d.def_ 42 (d := ⟨("_law_tolled", none), "_law_tolled", "_law_tolled", defArgs s__law_tolled, defBody s__law_tolled, defScope s__law_tolled, [], []⟩) rfl
  d_Due_shows := c.t.d.def_ 43 (d := ⟨("Due", some "shows"), "shows", "Due.shows", defArgs s_Due_shows, defBody s_Due_shows, defScope s_Due_shows, [], []⟩) rfl
  d__law_due_right := c.t.d.def_ 44 (d := ⟨("_law_due_right", none), "_law_due_right", "_law_due_right", defArgs s__law_due_right, defBody s__law_due_right, defScope s__law_due_right, [], []⟩) rfl
  d_law := c.t.d.def_ 45 (d := ⟨("law", none), "law", "law", defArgs s_law, defBody s_law, defScope s_law, [], []⟩) rfl
  c_Best := He.cls_ok (c.t.d.fact 0 (f := .cls "Best") rfl)
  c_Crowd := He.cls_ok (c.t.d.fact 1 (f := .cls "Crowd") rfl)
  c_Due := He.cls_ok (c.t.d.fact 2 (f := .cls "Due") rfl)
  c_Lodged := He.cls_ok (c.t.d.fact 3 (f := .cls "Lodged") rfl)
  c_Ways := He.cls_ok (c.t.d.fact 4 (f := .cls "Ways") rfl)
  f_all := He.free_ok X G (c.t.d.fact 5 (f := .free "all") rfl)
  f_any := He.free_ok X G (c.t.d.fact 6 (f := .free "any") rfl)
  f_bool := He.free_ok X G (c.t.d.fact 7 (f := .free "bool") rfl)
  f_enumerate := He.free_ok X G (c.t.d.fact 8 (f := .free "enumerate") rfl)
  f_int := He.free_ok X G (c.t.d.fact 9 (f := .free "int") rfl)
  f_isinstance := He.free_ok X G (c.t.d.fact 10 (f := .free "isinstance") rfl)
  f_len := He.free_ok X G (c.t.d.fact 11 (f := .free "len") rfl)
  f_list := He.free_ok X G (c.t.d.fact 12 (f := .free "list") rfl)
  f_max := He.free_ok X G (c.t.d.fact 13 (f := .free "max") rfl)
  f_min := He.free_ok X G (c.t.d.fact 14 (f := .free "min") rfl)
  f_range := He.free_ok X G (c.t.d.fact 15 (f := .free "range") rfl)
  f_set := He.free_ok X G (c.t.d.fact 16 (f := .free "set") rfl)
  f_sorted := He.free_ok X G (c.t.d.fact 17 (f := .free "sorted") rfl)
  f_sum := He.free_ok X G (c.t.d.fact 18 (f := .free "sum") rfl)
  f_tuple := He.free_ok X G (c.t.d.fact 19 (f := .free "tuple") rfl)
  g_Best := He.glo_ok X G (c.t.d.fact 20 (f := .glo "Best") rfl)
  g_Crowd := He.glo_ok X G (c.t.d.fact 21 (f := .glo "Crowd") rfl)
  g_Due := He.glo_ok X G (c.t.d.fact 22 (f := .glo "Due") rfl)
  g_Lodged := He.glo_ok X G (c.t.d.fact 23 (f := .glo "Lodged") rfl)
  g_Ways := He.glo_ok X G (c.t.d.fact 24 (f := .glo "Ways") rfl)
  g__law_bent := He.glo_ok X G (c.t.d.fact 25 (f := .glo "_law_bent") rfl)
  g__law_best := He.glo_ok X G (c.t.d.fact 26 (f := .glo "_law_best") rfl)
  g__law_best_right := He.glo_ok X G (c.t.d.fact 27 (f := .glo "_law_best_right") rfl)
  g__law_cell_at := He.glo_ok X G (c.t.d.fact 28 (f := .glo "_law_cell_at") rfl)
  g__law_chosen := He.glo_ok X G (c.t.d.fact 29 (f := .glo "_law_chosen") rfl)
  g__law_crowd_right := He.glo_ok X G (c.t.d.fact 30 (f := .glo "_law_crowd_right") rfl)
  g__law_draw := He.glo_ok X G (c.t.d.fact 31 (f := .glo "_law_draw") rfl)
  g__law_due_right := He.glo_ok X G (c.t.d.fact 32 (f := .glo "_law_due_right") rfl)
  g__law_lodged_right := He.glo_ok X G (c.t.d.fact 33 (f := .glo "_law_lodged_right") rfl)
  g__law_requests := He.glo_ok X G (c.t.d.fact 34 (f := .glo "_law_requests") rfl)
  g__law_rooms := He.glo_ok X G (c.t.d.fact 35 (f := .glo "_law_rooms") rfl)
  g__law_says := He.glo_ok X G (c.t.d.fact 36 (f := .glo "_law_says") rfl)
  g__law_there := He.glo_ok X G (c.t.d.fact 37 (f := .glo "_law_there") rfl)
  g__law_tolled := He.glo_ok X G (c.t.d.fact 38 (f := .glo "_law_tolled") rfl)
  g__law_whole := He.glo_ok X G (c.t.d.fact 39 (f := .glo "_law_whole") rfl)
  g__law_worth := He.glo_ok X G (c.t.d.fact 40 (f := .glo "_law_worth") rfl)
  g_are_tolls := He.glo_ok X G (c.t.d.fact 41 (f := .glo "are_tolls") rfl)
  g_best := He.glo_ok X G (c.t.d.fact 42 (f := .glo "best") rfl)
  g_best_of := He.glo_ok X G (c.t.d.fact 43 (f := .glo "best_of") rfl)
  g_bound_by := He.glo_ok X G (c.t.d.fact 44 (f := .glo "bound_by") rfl)
  g_check_requests := He.glo_ok X G (c.t.d.fact 45 (f := .glo "check_requests") rfl)
  g_check_rooms := He.glo_ok X G (c.t.d.fact 46 (f := .glo "check_rooms") rfl)
  g_due := He.glo_ok X G (c.t.d.fact 47 (f := .glo "due") rfl)
  g_fits := He.glo_ok X G (c.t.d.fact 48 (f := .glo "fits") rfl)
  g_for_day := He.glo_ok X G (c.t.d.fact 49 (f := .glo "for_day") rfl)
  g_is_best := He.glo_ok X G (c.t.d.fact 50 (f := .glo "is_best") rfl)
  g_is_choice := He.glo_ok X G (c.t.d.fact 51 (f := .glo "is_choice") rfl)
  g_is_request := He.glo_ok X G (c.t.d.fact 52 (f := .glo "is_request") rfl)
  g_is_whole := He.glo_ok X G (c.t.d.fact 53 (f := .glo "is_whole") rfl)
  g_law := He.glo_ok X G (c.t.d.fact 54 (f := .glo "law") rfl)
  g_lodged := He.glo_ok X G (c.t.d.fact 55 (f := .glo "lodged") rfl)
  g_worth_of := He.glo_ok X G (c.t.d.fact 56 (f := .glo "worth_of") rfl)
  i_Crowd := fx_isa (fx_at c.more 0 (f := .isa "Crowd") rfl)
  i_Lodged := fx_isa (fx_at c.more 1 (f := .isa "Lodged") rfl)
  k_Best := He.mkr_ok (c.t.d.fact 57 (f := .mkr "Best") rfl)
  k_Crowd := He.mkr_ok (c.t.d.fact 58 (f := .mkr "Crowd") rfl)
  k_Due := He.mkr_ok (c.t.d.fact 59 (f := .mkr "Due") rfl)
  k_Lodged := He.mkr_ok (c.t.d.fact 60 (f := .mkr "Lodged") rfl)
  k_Ways := He.mkr_ok (c.t.d.fact 61 (f := .mkr "Ways") rfl)
  kt_Crowd_Crowd_1 := fx_kit (fx_at c.more 2 (f := .kit "Crowd" "Crowd" true) rfl)
  kt_Crowd_Lodged_0 := fx_kit (fx_at c.more 3 (f := .kit "Crowd" "Lodged" false) rfl)
  kt_Lodged_Crowd_0 := fx_kit (fx_at c.more 4 (f := .kit "Lodged" "Crowd" false) rfl)
  kt_Lodged_Lodged_1 := fx_kit (fx_at c.more 5 (f := .kit "Lodged" "Lodged" true) rfl)
  m_Best_shows := He.meth_ok (c.t.d.fact 62 (f := .meth "Best" "shows") rfl)
  m_Crowd_shows := He.meth_ok (c.t.d.fact 63 (f := .meth "Crowd" "shows") rfl)
  m_Due_shows := He.meth_ok (c.t.d.fact 64 (f := .meth "Due" "shows") rfl)
  m_Lodged_shows := He.meth_ok (c.t.d.fact 65 (f := .meth "Lodged" "shows") rfl)
  m_Ways_amounts := He.meth_ok (c.t.d.fact 66 (f := .meth "Ways" "amounts") rfl)
  m_Ways_choice := He.meth_ok (c.t.d.fact 67 (f := .meth "Ways" "choice") rfl)
  m_Ways_lead := He.meth_ok (c.t.d.fact 68 (f := .meth "Ways" "lead") rfl)
  m_Ways_most := He.meth_ok (c.t.d.fact 69 (f := .meth "Ways" "most") rfl)
  m_Ways_steps := He.meth_ok (c.t.d.fact 70 (f := .meth "Ways" "steps") rfl)
  n_Best_taken := He.noat_ok (c.t.d.fact 71 (f := .noat "Best" "taken") rfl)
  n_Best_tolls := He.noat_ok (c.t.d.fact 72 (f := .noat "Best" "tolls") rfl)
  n_Crowd_asking := He.noat_ok (c.t.d.fact 73 (f := .noat "Crowd" "asking") rfl)
  n_Crowd_day := He.noat_ok (c.t.d.fact 74 (f := .noat "Crowd" "day") rfl)
  n_Due_other_tolls := He.noat_ok (c.t.d.fact 75 (f := .noat "Due" "other_tolls") rfl)
  n_Due_others := He.noat_ok (c.t.d.fact 76 (f := .noat "Due" "others") rfl)
  n_Due_price := He.noat_ok (c.t.d.fact 77 (f := .noat "Due" "price") rfl)
  n_Due_taken := He.noat_ok (c.t.d.fact 78 (f := .noat "Due" "taken") rfl)
  n_Due_tolls := He.noat_ok (c.t.d.fact 79 (f := .noat "Due" "tolls") rfl)
  n_Lodged_rooms := He.noat_ok (c.t.d.fact 80 (f := .noat "Lodged" "rooms") rfl)
  n_Ways_days := He.noat_ok (c.t.d.fact 81 (f := .noat "Ways" "days") rfl)
  n_Ways_ends := He.noat_ok (c.t.d.fact 82 (f := .noat "Ways" "ends") rfl)
  n_Ways_idle := He.noat_ok (c.t.d.fact 83 (f := .noat "Ways" "idle") rfl)
  n_Ways_taken := He.noat_ok (c.t.d.fact 84 (f := .noat "Ways" "taken") rfl)
theorem glo_law {K : PySem.W.Frag} {h : Heap} {w : World} {mg : Str → Option Value} (X : K.In h) (G : h.Ns mainGlobals mg) (c : He.SaysX fa fn [] tf fxB w h K) : mg "law" = some (.ref (He.ga K "law")) := He.glo_ok X G (c.t.d.fact 54 (f := .glo "law") rfl)
theorem def_law {K : PySem.W.Frag} {h : Heap} {w : World} (c : He.SaysX fa fn [] tf fxB w h K) : ∃ fd, FunD K "law" "law" (defArgs s_law) (defBody s_law) (defScope s_law) [] [] (He.fAd K ("law", none)) fd := c.t.d.def_ 45 (d := ⟨("law", none), "law", "law", defArgs s_law, defBody s_law, defScope s_law, [], []⟩) rfl
end Spn
open PySem PySem.W PySem.Calls PyProof.Rows
set_option maxHeartbeats 0 in
theorem PySem.Challenge.cw_spantolls_k05_answers_by_hand_holds : PySem.Challenge.rw_spantolls_k05_answers_by_hand.Holds := by
  w_on; o_law
  refine HandSHeadRun.head_any (r := Spn.R) (q := view Spn.R.prog [47]) (H := Spn.hk) (ob := Spn.ob) (M := 20000) (loose := Spn.looseN) (d := HandSHeadRun.topDef Spn.R.prog 47) (kwd := []) Spn.ob_eq
    (by kernel_rfl) (fun s => by kernel_rfl) Spn.run (by kernel_rfl) (by kernel_rfl) (by kernel_rfl) (by rfl) (by first | assumption | decide +kernel) (by decide +kernel) ⟨rfl, rfl, rfl, rfl, rfl, by decide +kernel⟩ ?hw ?hc
  case hw => w_witness2
  case hc =>
    refine LamX.walk_ofTsE (l := PySem.Challenge.rw_spantolls_k05_answers_by_hand) (n := 63) (k := 8) (x := "_law_script") (CX := fun _ => L2.CX0) rfl (by decide) (by kernel_rfl) ⟨rfl, by decide, by decide⟩ ?F (fun _ _ _ _ _ z => z)
    intro w mg fa h Y G hmg0
    obtain ⟨K, KX, c⟩ := Y
    have hmg : mg ("law" : PySem.Str) = some (.ref fa) := by
      have e : (HandSHeadRun.topDef Spn.R.prog 47).name = ("law" : PySem.Str) := by kernel_rfl
      rw [← e]
      exact hmg0
    have tl : (("lodged", none) : PySem.Str × Option PySem.Str) ∈ Spn.tf := List.mem_singleton.mpr rfl
    have gl : mg ("law" : PySem.Str) = some (.ref (He.ga K "law")) := Spn.glo_law KX G c
    obtain ⟨fd, F⟩ := Spn.def_law c
    have ef := hmg.symm.trans gl
    cases ef
    have b := L2.FunD.bindsA (ps := ["_law_script"]) F fun _ _ _ _ _ _ us hl => match us, hl with | [_], _ => rfl
    refine ⟨K, KX, fd, [He.cT K ("lodged", none)], _, fun p hp => ?_, fun p hp => ?_, fun p hp => ?_, fun s v => b s [v] rfl, fun H a ns hl _ hT hS => ?_, fun base _ _ tb => Spn.FnOk.wide (Spn.ok_law (Spn.txt_of KX G c (tb _ (List.mem_singleton.mpr rfl))) F)⟩
    · rw [List.mem_singleton.mp hp]; exact c.empty _ tl
    · rw [List.mem_singleton.mp hp]; exact c.out _ tl
    · rw [List.mem_singleton.mp hp]; exact PySem.W.codeHd_of_K KX (c.hd _ tl)
    · refine ⟨fun v => v = .bl true, fun v H' e => e, a, ns, rfl, Spn.scr_sm hS, hl, Spn.smH_noT H, Spn.tabs_sm fun p hp => ?_, fun _ => rfl⟩
      rw [List.mem_singleton.mp hp]
      exact hT _ (List.mem_singleton.mpr rfl)
