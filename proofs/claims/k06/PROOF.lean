import PyProof.Rows.All
import Wide.All
import OpenK.AllK
import Wide.FinOn
import KE.KStateDown
import Lean
import KE.SortData
import KE.SortKeyHeap
import PyProof.Rows.SetFrom
import HandS.ForMost
import HandS.Exc
import HandS.TryOnly
import HandS.ExcOwn
import HandS.WordsExc
import HandS.Defaults
import HandS.IsInst
import HandS.Style
import HandS.TupLe
import HandS.TupAny
import HandS.SortInts
import HandS.SetFor
import HandS.Strs
import HandS.Wide
import HandS.Head0
import HandS.Head1
import HandS.Head2
import HandS.HeadEnd
import HandS.HeadHook1
import HandS.HeadHook2
import HandS.Walk
import KE.Datum
import HandS.ExcCtx
import HandS.ExcIs
import HandS.Hot
import HandS.HotCalls
import HandS.CallLocal
import HandS.Flt
import HandS.Conv
import HandS.StrMore
import PyProof.StrOps2
import HandS.Text
import HandS.Codes
import HandS.SuiteRaise
import PySem.Challenge.RW_spantolls_k06_written
set_option Elab.async false
set_option linter.all false
set_option maxRecDepth 100000
set_option maxHeartbeats 4000000
namespace Spn

/-! ### sums by index -/
def sumTo : Nat → (Nat → Int) → Int
  | 0, _ => 0
  | n + 1, f => sumTo n f + f n
theorem sumTo_congr {n : Nat} {f g : Nat → Int} (h : ∀ i, i < n → f i = g i) : sumTo n f = sumTo n g := by
  induction n with
  | zero => rfl
  | succ n ih => rw [sumTo, sumTo, ih fun i hi => h i (Nat.lt_succ_of_lt hi), h n (Nat.lt_succ_self n)]
theorem sumTo_add (n : Nat) (f g : Nat → Int) : sumTo n (fun i => f i + g i) = sumTo n f + sumTo n g := by
  induction n with
  | zero => rfl
  | succ n ih => simp only [sumTo, ih]; omega
theorem sumTo_sub (n : Nat) (f g : Nat → Int) : sumTo n (fun i => f i - g i) = sumTo n f - sumTo n g := by
  induction n with
  | zero => rfl
  | succ n ih => simp only [sumTo, ih]; omega
theorem sumTo_mul (n : Nat) (c : Int) (f : Nat → Int) : sumTo n (fun i => c * f i) = c * sumTo n f := by
  induction n with
  | zero => simp [sumTo]
  | succ n ih => simp only [sumTo, ih, Int.mul_add]
theorem sumTo_le {n : Nat} {f g : Nat → Int} (h : ∀ i, i < n → f i ≤ g i) : sumTo n f ≤ sumTo n g := by
  induction n with
  | zero => exact Int.le_refl _
  | succ n ih =>
    have a := ih fun i hi => h i (Nat.lt_succ_of_lt hi)
    have b := h n (Nat.lt_succ_self n)
    simp only [sumTo]; omega
theorem sumTo_zero (n : Nat) : sumTo n (fun _ => 0) = 0 := by
  induction n with
  | zero => rfl
  | succ n ih => rw [sumTo, ih]; rfl
theorem sumTo_nonneg {n : Nat} {f : Nat → Int} (h : ∀ i, i < n → 0 ≤ f i) : 0 ≤ sumTo n f := by
  have := sumTo_le (f := fun _ => 0) (g := f) h
  rwa [sumTo_zero] at this
theorem sumTo_const (n : Nat) (c : Int) : sumTo n (fun _ => c) = n * c := by
  induction n with
  | zero => simp [sumTo]
  | succ n ih =>
    rw [sumTo, ih, Int.natCast_succ, Int.add_mul]
    omega
theorem sumTo_swap (n m : Nat) (f : Nat → Nat → Int) : sumTo n (fun i => sumTo m fun j => f i j) = sumTo m fun j => sumTo n fun i => f i j := by
  induction n with
  | zero => simp only [sumTo]; rw [sumTo_zero]
  | succ n ih => simp only [sumTo, ih, sumTo_add]
theorem sumTo_mem {n : Nat} {f : Nat → Int} (h : ∀ i, i < n → 0 ≤ f i) {i : Nat} (hi : i < n) : f i ≤ sumTo n f := by
  induction n with
  | zero => omega
  | succ n ih =>
    have hn := h n (Nat.lt_succ_self n)
    have h0 := sumTo_nonneg (n := n) (f := f) fun i hi => h i (Nat.lt_succ_of_lt hi)
    by_cases e : i = n
    · subst e; simp only [sumTo]; omega
    · have := ih (fun i hi => h i (Nat.lt_succ_of_lt hi)) (by omega)
      simp only [sumTo]; omega
/-- where nothing is below nought and all together is nought, each is nought -/
theorem sumTo_eq_zero {n : Nat} {f : Nat → Int} (h : ∀ i, i < n → 0 ≤ f i) (e : sumTo n f ≤ 0) {i : Nat} (hi : i < n) : f i = 0 := by
  have a := sumTo_mem h hi
  have b := h i hi
  omega
/-- one place changed -/
theorem sumTo_upd {n : Nat} {f g : Nat → Int} {i : Nat} (hi : i < n) (h : ∀ j, j < n → j ≠ i → f j = g j) : sumTo n f = sumTo n g + (f i - g i) := by
  induction n with
  | zero => omega
  | succ n ih =>
    by_cases e : i = n
    · subst e
      have : sumTo i f = sumTo i g := sumTo_congr fun j hj => h j (Nat.lt_succ_of_lt hj) (Nat.ne_of_lt hj)
      simp only [sumTo, this]; omega
    · have a := ih (by omega) fun j hj => h j (Nat.lt_succ_of_lt hj)
      have b := h n (Nat.lt_succ_self n) (fun q => e q.symm)
      simp only [sumTo, a, b]; omega
/-- differences from a to b -/
theorem sumTo_tele (φ : Nat → Int) (a b : Nat) (hab : a ≤ b) : ∀ L, b ≤ L → sumTo L (fun j => if a ≤ j ∧ j < b then φ (j + 1) - φ j else 0) = φ b - φ a := by
  have low : ∀ L, L ≤ a → sumTo L (fun j => if a ≤ j ∧ j < b then φ (j + 1) - φ j else 0) = 0 := fun L hL => by
    rw [sumTo_congr (g := fun _ => 0) fun j hj => if_neg (by omega), sumTo_zero]
  have mid : ∀ L, a ≤ L → L ≤ b → sumTo L (fun j => if a ≤ j ∧ j < b then φ (j + 1) - φ j else 0) = φ L - φ a := by
    intro L h1
    induction L with
    | zero =>
      intro _
      have : a = 0 := by omega
      subst this
      simp [sumTo]
    | succ L ih =>
      intro h2
      by_cases e : a = L + 1
      · subst e
        rw [low _ (Nat.le_refl _)]; omega
      · rw [sumTo, ih (by omega) (by omega), if_pos (by omega)]; omega
  intro L hL
  induction L with
  | zero =>
    have e : b = 0 := by omega
    subst e
    have e : a = 0 := by omega
    subst e
    simp [sumTo]
  | succ L ih =>
    by_cases e : b = L + 1
    · subst e; exact mid _ hab (Nat.le_refl _)
    · rw [sumTo, ih (by omega), if_neg (by omega)]; omega
theorem sumTo_tele0 (φ : Nat → Int) (L : Nat) : sumTo L (fun j => φ (j + 1) - φ j) = φ L - φ 0 := by
  have := sumTo_tele φ 0 L (Nat.zero_le _) L (Nat.le_refl _)
  rw [← this]
  exact sumTo_congr fun j hj => (if_pos ⟨Nat.zero_le _, hj⟩).symm

/-! ### the net of days -/
structure Net where
  n : Nat
  L : Nat
  fi : Nat → Nat
  ei : Nat → Nat
  p : Nat → Int
  lt : ∀ i, i < n → fi i < ei i
  le : ∀ i, i < n → ei i ≤ L
  pos : ∀ i, i < n → 0 ≤ p i
namespace Net
variable (N : Net)
def cov (i j : Nat) : Int := if N.fi i ≤ j ∧ j < N.ei i then 1 else 0
def cover (tk : Nat → Bool) (j : Nat) : Int := sumTo N.n fun i => if tk i = true then N.cov i j else 0
def Flow (id : Nat → Int) (tk : Nat → Bool) (k : Int) : Prop := ∀ j, j < N.L → 0 ≤ id j ∧ id j + N.cover tk j = k
structure Feas (φ : Nat → Int) (id : Nat → Int) (tk : Nat → Bool) : Prop where
  up : ∀ j, j < N.L → φ j ≤ φ (j + 1)
  back : ∀ j, j < N.L → 0 < id j → φ (j + 1) ≤ φ j
  no : ∀ i, i < N.n → tk i = false → φ (N.fi i) + N.p i ≤ φ (N.ei i)
  yes : ∀ i, i < N.n → tk i = true → φ (N.ei i) - N.p i ≤ φ (N.fi i)
variable {N}
theorem cov_nonneg (i j : Nat) : 0 ≤ N.cov i j := by unfold cov; split <;> omega
theorem cov_le (i j : Nat) : N.cov i j ≤ 1 := by unfold cov; split <;> omega
theorem cover_nonneg (tk : Nat → Bool) (j : Nat) : 0 ≤ N.cover tk j := sumTo_nonneg fun i _ => by
  split
  · exact cov_nonneg i j
  · exact Int.le_refl _
theorem toll_sum (φ : Nat → Int) {i : Nat} (hi : i < N.n) : sumTo N.L (fun j => (φ (j + 1) - φ j) * N.cov i j) = φ (N.ei i) - φ (N.fi i) := by
  rw [← sumTo_tele φ (N.fi i) (N.ei i) (Nat.le_of_lt (N.lt i hi)) N.L (N.le i hi)]
  refine sumTo_congr fun j _ => ?_
  unfold cov
  split <;> simp
/-- the tolls of all that is taken, by days -/
theorem swap_tolls (φ : Nat → Int) (tk : Nat → Bool) : sumTo N.L (fun j => (φ (j + 1) - φ j) * N.cover tk j) = sumTo N.n fun i => if tk i = true then φ (N.ei i) - φ (N.fi i) else 0 := by
  have e1 : ∀ j, (φ (j + 1) - φ j) * N.cover tk j = sumTo N.n fun i => (φ (j + 1) - φ j) * (if tk i = true then N.cov i j else 0) := fun j => by
    unfold cover
    rw [sumTo_mul]
  rw [sumTo_congr fun j _ => e1 j, sumTo_swap]
  refine sumTo_congr fun i hi => ?_
  by_cases h : tk i = true
  · rw [if_pos h, ← toll_sum φ hi]
    exact sumTo_congr fun j _ => by rw [if_pos h]
  · rw [if_neg h]
    rw [sumTo_congr (g := fun _ => 0) fun j _ => by rw [if_neg h, Int.mul_zero], sumTo_zero]
def gain (N : Net) (φ : Nat → Int) (i : Nat) : Int := max 0 (N.p i - (φ (N.ei i) - φ (N.fi i)))
/-- THE EQUATION: what is taken is worth what the tolls say -/
theorem strong {φ id : Nat → Int} {tk : Nat → Bool} {k : Int} (hf : N.Flow id tk k) (hφ : N.Feas φ id tk) :
    sumTo N.n (fun i => if tk i = true then N.p i else 0) = k * (φ N.L - φ 0) + sumTo N.n (N.gain φ) := by
  have e1 : sumTo N.L (fun j => (φ (j + 1) - φ j) * N.cover tk j) = k * (φ N.L - φ 0) := by
    rw [← sumTo_tele0 φ N.L, ← sumTo_mul]
    refine sumTo_congr fun j hj => ?_
    obtain ⟨h0, h1⟩ := hf j hj
    by_cases hz : 0 < id j
    · have a := hφ.up j hj
      have b := hφ.back j hj hz
      have e : φ (j + 1) - φ j = 0 := by omega
      rw [e]; simp
    · have e : id j = 0 := by omega
      have : N.cover tk j = k := by omega
      rw [this, Int.mul_comm]
  have e2 : sumTo N.n (N.gain φ) = sumTo N.n (fun i => if tk i = true then N.p i else 0) - sumTo N.n (fun i => if tk i = true then φ (N.ei i) - φ (N.fi i) else 0) := by
    rw [← sumTo_sub]
    refine sumTo_congr fun i hi => ?_
    unfold gain
    by_cases h : tk i = true
    · have := hφ.yes i hi h
      rw [if_pos h, if_pos h, Int.max_def]
      split <;> omega
    · have := hφ.no i hi (by simpa using h)
      rw [if_neg h, if_neg h, Int.max_def]
      split <;> omega
  rw [swap_tolls] at e1
  omega
/-- at the start -/
theorem flow_start : N.Flow (fun _ => 0) (fun _ => false) 0 := fun j _ => ⟨Int.le_refl _, by
  unfold cover
  simp [sumTo_zero]⟩
theorem feas_start : ∃ φ, N.Feas φ (fun _ => 0) (fun _ => false) := by
  have hS : 0 ≤ sumTo N.n N.p := sumTo_nonneg N.pos
  refine ⟨fun v => sumTo N.n N.p * v, ⟨fun j _ => ?_, fun j _ h => absurd h (Int.lt_irrefl _), fun i hi _ => ?_, fun i _ h => by cases h⟩⟩
  · show sumTo N.n N.p * (j : Int) ≤ sumTo N.n N.p * ((j + 1 : Nat) : Int)
    exact Int.mul_le_mul_of_nonneg_left (by omega) hS
  · show sumTo N.n N.p * (N.fi i : Int) + N.p i ≤ sumTo N.n N.p * (N.ei i : Int)
    have h1 := N.lt i hi
    have h2 := sumTo_mem N.pos hi
    have h3 : sumTo N.n N.p * ((N.fi i : Int) + 1) ≤ sumTo N.n N.p * (N.ei i : Int) := Int.mul_le_mul_of_nonneg_left (by omega) hS
    rw [Int.mul_add, Int.mul_one] at h3
    omega
/-- as many rooms as requests: all that is worth anything is taken -/
theorem full {φ id : Nat → Int} {tk : Nat → Bool} (hf : N.Flow id tk N.n) (hφ : N.Feas φ id tk) {i : Nat} (hi : i < N.n) (h : tk i = false) : N.p i = 0 := by
  have s := strong hf hφ
  have hL : ∀ j, j < N.L → 0 ≤ φ (j + 1) - φ j := fun j hj => by have := hφ.up j hj; omega
  have all : sumTo N.n N.p ≤ (N.n : Int) * (φ N.L - φ 0) + sumTo N.n (N.gain φ) := by
    have a : sumTo N.n N.p ≤ sumTo N.n (fun i => (φ (N.ei i) - φ (N.fi i)) + N.gain φ i) := sumTo_le fun i _ => by
      unfold gain; rw [Int.max_def]; split <;> omega
    rw [sumTo_add] at a
    have b : sumTo N.n (fun i => φ (N.ei i) - φ (N.fi i)) ≤ (N.n : Int) * (φ N.L - φ 0) := by
      have e := swap_tolls (N := N) φ (fun _ => true)
      have e' : sumTo N.n (fun i => φ (N.ei i) - φ (N.fi i)) = sumTo N.L (fun j => (φ (j + 1) - φ j) * N.cover (fun _ => true) j) := by
        rw [e]; exact sumTo_congr fun i _ => (if_pos rfl).symm
      rw [e', ← sumTo_tele0 φ N.L, ← sumTo_mul]
      refine sumTo_le fun j hj => ?_
      rw [Int.mul_comm]
      refine Int.mul_le_mul_of_nonneg_right ?_ (hL j hj)
      unfold cover
      have : sumTo N.n (fun i => if (fun _ => true) i = true then N.cov i j else 0) ≤ sumTo N.n fun _ => 1 := sumTo_le fun i _ => by
        rw [if_pos rfl]; exact cov_le i j
      rw [sumTo_const] at this
      omega
    omega
  have d : sumTo N.n (fun i => N.p i - if tk i = true then N.p i else 0) ≤ 0 := by
    rw [sumTo_sub]; omega
  have z := sumTo_eq_zero (fun i hi => by
    have := N.pos i hi
    by_cases h : tk i = true
    · rw [if_pos h]; omega
    · rw [if_neg h]; omega) d hi
  simpa [h] using z
/-- .. so that rooms may be added -/
theorem feas_more {φ id : Nat → Int} {tk : Nat → Bool} (hf : N.Flow id tk N.n) (hφ : N.Feas φ id tk) (id' : Nat → Int) : N.Feas (fun _ => 0) id' tk :=
  ⟨fun _ _ => Int.le_refl _, fun _ _ _ => Int.le_refl _, fun i hi h => by rw [full hf hφ hi h]; omega, fun i hi _ => by have := N.pos i hi; omega⟩
theorem flow_more {id : Nat → Int} {tk : Nat → Bool} {k m : Int} (hm : 0 ≤ m) (hf : N.Flow id tk k) : N.Flow (fun j => id j + m) tk (k + m) := fun j hj => by
  obtain ⟨a, b⟩ := hf j hj
  exact ⟨by show 0 ≤ id j + m; omega, by show id j + m + _ = _; omega⟩

/-! ### steps -/
structure Stp where
  s : Nat
  e : Nat
  m : Int
  kd : Int
  ix : Nat
inductive IsStep (N : Net) (id : Nat → Int) (tk : Nat → Bool) : Stp → Prop where
  | on (j : Nat) (h : j < N.L) : IsStep N id tk ⟨j, j + 1, 0, 0, j⟩
  | off (j : Nat) (h : j < N.L) (hi : 0 < id j) : IsStep N id tk ⟨j + 1, j, 0, 1, j⟩
  | take (i : Nat) (h : i < N.n) (ht : tk i = false) : IsStep N id tk ⟨N.fi i, N.ei i, N.p i, 2, i⟩
  | give (i : Nat) (h : i < N.n) (ht : tk i = true) : IsStep N id tk ⟨N.ei i, N.fi i, -N.p i, 3, i⟩
theorem IsStep.le {id : Nat → Int} {tk : Nat → Bool} {st : Stp} (h : N.IsStep id tk st) : st.s ≤ N.L ∧ st.e ≤ N.L := by
  cases h with
  | on j h => exact ⟨Nat.le_of_lt h, h⟩
  | off j h => exact ⟨h, Nat.le_of_lt h⟩
  | take i h => exact ⟨Nat.le_trans (Nat.le_of_lt (N.lt i h)) (N.le i h), N.le i h⟩
  | give i h => exact ⟨N.le i h, Nat.le_trans (Nat.le_of_lt (N.lt i h)) (N.le i h)⟩
theorem IsStep.ok {φ id : Nat → Int} {tk : Nat → Bool} {st : Stp} (h : N.IsStep id tk st) (hφ : N.Feas φ id tk) : φ st.s + st.m ≤ φ st.e := by
  cases h with
  | on j h => have := hφ.up j h; show φ j + 0 ≤ φ (j + 1); omega
  | off j h hi => have := hφ.back j h hi; show φ (j + 1) + 0 ≤ φ j; omega
  | take i h ht => exact hφ.no i h ht
  | give i h ht => have := hφ.yes i h ht; show φ (N.ei i) + -N.p i ≤ φ (N.fi i); omega
theorem Feas.of_steps {φ id : Nat → Int} {tk : Nat → Bool} (h : ∀ st, N.IsStep id tk st → φ st.s + st.m ≤ φ st.e) : N.Feas φ id tk :=
  ⟨fun j hj => by have := h _ (.on j hj); simpa using this, fun j hj hi => by have := h _ (.off j hj hi); simpa using this,
   fun i hi ht => h _ (.take i hi ht), fun i hi ht => by
    have : φ (N.ei i) + -N.p i ≤ φ (N.fi i) := h _ (.give i hi ht)
    omega⟩
theorem IsStep.low {id : Nat → Int} {tk : Nat → Bool} {st : Stp} (h : N.IsStep id tk st) : -(sumTo N.n N.p) ≤ st.m := by
  have hS : 0 ≤ sumTo N.n N.p := sumTo_nonneg N.pos
  cases h with
  | on j h => show -(sumTo N.n N.p) ≤ 0; omega
  | off j h hi => show -(sumTo N.n N.p) ≤ 0; omega
  | take i h ht => have := N.pos i h; show -(sumTo N.n N.p) ≤ N.p i; omega
  | give i h ht => have := sumTo_mem N.pos h; show -(sumTo N.n N.p) ≤ -N.p i; omega
end Net
end Spn
namespace Spn
namespace Net
variable {N : Net}
/-! ### the way that brings most: brought, came, by relaxing -/
/-- came leads from v back to nought in d steps -/
inductive Tr (cm : List (Option Stp)) : Nat → Nat → Prop where
  | root : Tr cm 0 0
  | step {d v : Nat} {st : Stp} (h : cm[v]? = some (some st)) (hv : v ≠ 0) (t : Tr cm d st.s) : Tr cm (d + 1) v
theorem Tr.det {cm : List (Option Stp)} {d v : Nat} (a : Tr cm d v) : ∀ {d'}, Tr cm d' v → d = d' := by
  induction a with
  | root =>
    intro d' b
    cases b with
    | root => rfl
    | step _ hv _ => exact absurd rfl hv
  | step h hv t ih =>
    intro d' b
    cases b with
    | root => exact absurd rfl hv
    | step h' _ t' =>
      rw [h] at h'
      cases h'
      rw [ih t']
def cnt (br : List (Option Int)) : Nat := (br.filter (·.isSome)).length
theorem cnt_le (br : List (Option Int)) : cnt br ≤ br.length := List.length_filter_le _ _
theorem cnt_set : ∀ {br : List (Option Int)} {v : Nat} {x : Int}, br[v]? = some none → cnt (br.set v (some x)) = cnt br + 1
  | [], v, x, h => by simp at h
  | a :: r, 0, x, h => by
    have e : a = none := by simpa using h
    subst e
    simp [cnt]
  | a :: r, v + 1, x, h => by
    have ih := cnt_set (br := r) (v := v) (x := x) (by simpa using h)
    unfold cnt at ih ⊢
    rw [List.set_cons_succ, List.filter_cons, List.filter_cons]
    split <;> simp [ih]
theorem cnt_set' : ∀ {br : List (Option Int)} {v : Nat} {x y : Int}, br[v]? = some (some y) → cnt (br.set v (some x)) = cnt br
  | [], v, x, y, h => by simp at h
  | a :: r, 0, x, y, h => by
    have e : a = some y := by simpa using h
    subst e
    simp [cnt]
  | a :: r, v + 1, x, y, h => by
    have ih := cnt_set' (br := r) (v := v) (x := x) (y := y) (by simpa using h)
    unfold cnt at ih ⊢
    rw [List.set_cons_succ, List.filter_cons, List.filter_cons]
    split <;> simp [ih]

structure BF (N : Net) (φ : Nat → Int) (id : Nat → Int) (tk : Nat → Bool) (br : List (Option Int)) (cm : List (Option Stp)) : Prop where
  lb : br.length = N.L + 1
  lc : cm.length = N.L + 1
  b0 : br[0]? = some (some 0)
  hi : ∀ (v : Nat) (x : Int), br[v]? = some (some x) → x ≤ φ v - φ 0
  lo : ∀ (v : Nat) (x : Int), br[v]? = some (some x) → -(sumTo N.n N.p) * (cnt br : Int) ≤ x
  cm_ok : ∀ (v : Nat) (st : Stp), cm[v]? = some (some st) → N.IsStep id tk st ∧ st.e = v ∧ ∃ x y, br[v]? = some (some x) ∧ br[st.s]? = some (some y) ∧ x ≤ y + st.m
  tr : ∀ (v : Nat) (x : Int), br[v]? = some (some x) → ∃ d, Tr cm d v
/-- what is still to be gained -/
def mu (N : Net) (φ : Nat → Int) (br : List (Option Int)) : Nat → Nat
  | 0 => 0
  | v + 1 => mu N φ br v + (match br[v]? with
    | some (some x) => (φ v - φ 0 - x).toNat
    | _ => (φ v - φ 0 + sumTo N.n N.p * (N.L + 1)).toNat + 1)
theorem mu_congr {φ : Nat → Int} {br br' : List (Option Int)} : ∀ {m : Nat}, (∀ v, v < m → br[v]? = br'[v]?) → mu N φ br m = mu N φ br' m
  | 0, _ => rfl
  | m + 1, h => by
    unfold mu
    rw [mu_congr fun v hv => h v (Nat.lt_succ_of_lt hv), h m (Nat.lt_succ_self m)]
theorem mu_lt {φ : Nat → Int} {br : List (Option Int)} {e : Nat} {x : Int} (he : e < br.length) (hx : x ≤ φ e - φ 0) (hl : -(sumTo N.n N.p) * (N.L + 1) ≤ x) (h : ∀ y, br[e]? = some (some y) → y < x) :
    ∀ m, e < m → mu N φ (br.set e (some x)) m < mu N φ br m
  | 0, hm => by omega
  | m + 1, hm => by
    by_cases q : e = m
    · subst q
      unfold mu
      rw [mu_congr (br := br.set e (some x)) (br' := br) fun v hv => List.getElem?_set_ne (by omega)]
      rw [List.getElem?_set_self he]
      refine Nat.add_lt_add_left ?_ _
      have : br[e]? = some br[e] := List.getElem?_eq_getElem he
      rw [this]
      cases r : br[e] with
      | none =>
        show (φ e - φ 0 - x).toNat < _ + 1
        have : -(sumTo N.n N.p) * ((N.L : Int) + 1) = -(sumTo N.n N.p * ((N.L : Int) + 1)) := Int.neg_mul _ _
        omega
      | some y =>
        have := h y (by rw [this, r])
        show (φ e - φ 0 - x).toNat < (φ e - φ 0 - y).toNat
        omega
    · unfold mu
      rw [List.getElem?_set_ne (by omega)]
      exact Nat.add_lt_add_right (mu_lt he hx hl h m (by omega)) _

theorem BF.start {φ : Nat → Int} {id : Nat → Int} {tk : Nat → Bool} : N.BF φ id tk ((List.replicate (N.L + 1) (none : Option Int)).set 0 (some 0)) (List.replicate (N.L + 1) none) := by
  have hc : ∀ v : Nat, v ≠ 0 → ((List.replicate (N.L + 1) (none : Option Int)).set 0 (some 0))[v]? = some (some 0) → False := fun v hv h => by
    rw [List.getElem?_set_ne (Ne.symm hv), List.getElem?_replicate] at h
    split at h <;> simp at h
  have hx : ∀ (v : Nat) (x : Int), ((List.replicate (N.L + 1) (none : Option Int)).set 0 (some 0))[v]? = some (some x) → v = 0 ∧ x = 0 := fun v x h => by
    by_cases hv : v = 0
    · subst hv
      rw [List.getElem?_set_self (by simp)] at h
      exact ⟨rfl, by simpa using h.symm⟩
    · rw [List.getElem?_set_ne (Ne.symm hv), List.getElem?_replicate] at h
      split at h <;> simp at h
  have hS : 0 ≤ sumTo N.n N.p := sumTo_nonneg N.pos
  refine ⟨by simp, by simp, by rw [List.getElem?_set_self (by simp)], fun v x h => ?_, fun v x h => ?_, fun v st h => ?_, fun v x h => ?_⟩
  · obtain ⟨rfl, rfl⟩ := hx v x h
    omega
  · obtain ⟨rfl, rfl⟩ := hx v x h
    rw [Int.neg_mul]
    have : 0 ≤ sumTo N.n N.p * ((cnt ((List.replicate (N.L + 1) (none : Option Int)).set 0 (some 0)) : Nat) : Int) := Int.mul_nonneg hS (Int.natCast_nonneg _)
    omega
  · rw [List.getElem?_replicate] at h
    split at h <;> simp at h
  · obtain ⟨rfl, rfl⟩ := hx v x h
    exact ⟨0, .root⟩

theorem BF.relax {φ : Nat → Int} {id : Nat → Int} {tk : Nat → Bool} {br : List (Option Int)} {cm : List (Option Stp)} (B : N.BF φ id tk br cm) (hφ : N.Feas φ id tk) {st : Stp} (hs : N.IsStep id tk st) {y : Int} (hy : br[st.s]? = some (some y))
    (he : ∀ x, br[st.e]? = some (some x) → x < y + st.m) : N.BF φ id tk (br.set st.e (some (y + st.m))) (cm.set st.e (some st)) ∧ mu N φ (br.set st.e (some (y + st.m))) (N.L + 1) < mu N φ br (N.L + 1) := by
  have hS : 0 ≤ sumTo N.n N.p := sumTo_nonneg N.pos
  have hel : st.e < br.length := by rw [B.lb]; have := hs.le.2; omega
  have hec : st.e < cm.length := by rw [B.lc]; have := hs.le.2; omega
  have ok := hs.ok hφ
  have yhi := B.hi _ _ hy
  have ylo := B.lo _ _ hy
  have low := hs.low
  have new_hi : y + st.m ≤ φ st.e - φ 0 := by omega
  have e0 : st.e ≠ 0 := fun q => by
    have := he 0 (by rw [q]; exact B.b0)
    rw [q] at new_hi
    omega
  have se : st.s ≠ st.e := fun q => by
    have := he y (by rw [← q]; exact hy)
    rw [q] at ok
    omega
  have cntge : (cnt br : Int) ≤ cnt (br.set st.e (some (y + st.m))) := by
    have g : br[st.e]? = some br[st.e] := List.getElem?_eq_getElem hel
    cases r : br[st.e] with
    | none => rw [cnt_set (by rw [g, r])]; omega
    | some x => rw [cnt_set' (y := x) (by rw [g, r])]; exact Int.le_refl _
  have lomono : -(sumTo N.n N.p) * (cnt (br.set st.e (some (y + st.m))) : Int) ≤ -(sumTo N.n N.p) * (cnt br : Int) := by
    rw [Int.neg_mul, Int.neg_mul]
    have := Int.mul_le_mul_of_nonneg_left cntge hS
    omega
  have new_lo : -(sumTo N.n N.p) * (cnt (br.set st.e (some (y + st.m))) : Int) ≤ y + st.m := by
    have g : br[st.e]? = some br[st.e] := List.getElem?_eq_getElem hel
    cases r : br[st.e] with
    | none =>
      rw [cnt_set (by rw [g, r]), Int.natCast_succ, Int.mul_add, Int.mul_one]
      omega
    | some x =>
      have a := he x (by rw [g, r])
      have b := B.lo _ _ (show br[st.e]? = some (some x) by rw [g, r])
      omega
  have cntL : (cnt (br.set st.e (some (y + st.m))) : Int) ≤ N.L + 1 := by
    have := cnt_le (br.set st.e (some (y + st.m)))
    rw [List.length_set, B.lb] at this
    omega
  -- the slack of a way
  have slack : ∀ d v, Tr cm d v → ∀ x, br[v]? = some (some x) → (∀ z, br[st.e]? = some (some z) → φ v - x < φ st.e - z) → ∃ d', Tr (cm.set st.e (some st)) d' v := by
    intro d v t
    induction t with
    | root => intro _ _ _; exact ⟨0, .root⟩
    | @step d v st' h hv t ih =>
      intro x hx hlt
      obtain ⟨is', e', x', y', hx', hy', le'⟩ := B.cm_ok _ _ h
      rw [hx] at hx'
      cases hx'
      have ok' := is'.ok hφ
      rw [e'] at ok'
      have ne : st.e ≠ v := fun q => by
        have := hlt x (by rw [q]; exact hx)
        rw [q] at this
        omega
      obtain ⟨d', t'⟩ := ih y' hy' fun z hz => by have := hlt z hz; omega
      exact ⟨d' + 1, .step (by rw [List.getElem?_set_ne ne]; exact h) hv t'⟩
  have trS : ∃ d', Tr (cm.set st.e (some st)) d' st.s := by
    obtain ⟨d, t⟩ := B.tr _ _ hy
    refine slack d st.s t y hy fun z hz => ?_
    have := he z hz
    omega
  have trE : ∃ d', Tr (cm.set st.e (some st)) d' st.e := by
    obtain ⟨d', t'⟩ := trS
    exact ⟨d' + 1, .step (List.getElem?_set_self hec) e0 t'⟩
  have trAll : ∀ d v, Tr cm d v → ∃ d', Tr (cm.set st.e (some st)) d' v := by
    intro d v t
    induction t with
    | root => exact ⟨0, .root⟩
    | @step d v st' h hv t ih =>
      by_cases q : st.e = v
      · rw [← q]; exact trE
      · obtain ⟨d', t'⟩ := ih
        exact ⟨d' + 1, .step (by rw [List.getElem?_set_ne q]; exact h) hv t'⟩
  refine ⟨⟨by rw [List.length_set, B.lb], by rw [List.length_set, B.lc], by rw [List.getElem?_set_ne e0]; exact B.b0, fun v x h => ?_, fun v x h => ?_, fun v st' h => ?_, fun v x h => ?_⟩, ?_⟩
  · by_cases q : st.e = v
    · subst q
      rw [List.getElem?_set_self hel] at h
      cases h
      exact new_hi
    · rw [List.getElem?_set_ne q] at h
      exact B.hi v x h
  · by_cases q : st.e = v
    · subst q
      rw [List.getElem?_set_self hel] at h
      cases h
      exact new_lo
    · rw [List.getElem?_set_ne q] at h
      exact Int.le_trans lomono (B.lo v x h)
  · by_cases q : st.e = v
    · subst q
      rw [List.getElem?_set_self hec] at h
      cases h
      refine ⟨hs, rfl, y + st.m, y, List.getElem?_set_self hel, ?_, Int.le_refl _⟩
      rw [List.getElem?_set_ne (Ne.symm se)]
      exact hy
    · rw [List.getElem?_set_ne q] at h
      obtain ⟨a, b, x', y', hx', hy', le'⟩ := B.cm_ok v st' h
      refine ⟨a, b, x', ?_⟩
      by_cases q2 : st.e = st'.s
      · refine ⟨y + st.m, by rw [List.getElem?_set_ne q]; exact hx', by rw [← q2]; exact List.getElem?_set_self hel, ?_⟩
        have := he y' (by rw [q2]; exact hy')
        omega
      · exact ⟨y', by rw [List.getElem?_set_ne q]; exact hx', by rw [List.getElem?_set_ne q2]; exact hy', le'⟩
  · by_cases q : st.e = v
    · rw [← q]; exact trE
    · rw [List.getElem?_set_ne q] at h
      obtain ⟨d, t⟩ := B.tr v x h
      exact trAll d v t
  · refine mu_lt hel new_hi ?_ he _ (by have := hs.le.2; omega)
    refine Int.le_trans ?_ new_lo
    rw [Int.neg_mul, Int.neg_mul]
    have := Int.mul_le_mul_of_nonneg_left cntL hS
    omega

/-- nothing more is to be gained -/
def Still (N : Net) (id : Nat → Int) (tk : Nat → Bool) (br : List (Option Int)) : Prop := ∀ st, N.IsStep id tk st → ∀ y, br[st.s]? = some (some y) → ∃ x, br[st.e]? = some (some x) ∧ y + st.m ≤ x
/-- what is brought in the end, and by which steps -/
structure Done (N : Net) (id : Nat → Int) (tk : Nat → Bool) (ψ : Nat → Int) (cm : List (Option Stp)) : Prop where
  z : ψ 0 = 0
  lc : cm.length = N.L + 1
  feas : N.Feas ψ id tk
  cm_ok : ∀ (v : Nat) (st : Stp), cm[v]? = some (some st) → N.IsStep id tk st ∧ st.e = v ∧ ψ v = ψ st.s + st.m
  tr : ∀ v, v ≤ N.L → ∃ d, Tr cm d v
theorem BF.done {φ : Nat → Int} {id : Nat → Int} {tk : Nat → Bool} {br : List (Option Int)} {cm : List (Option Stp)} (B : N.BF φ id tk br cm) (S : N.Still id tk br) : ∃ ψ : Nat → Int, (∀ v, v ≤ N.L → br[v]? = some (some (ψ v))) ∧ N.Done id tk ψ cm := by
  have all : ∀ v, v ≤ N.L → ∃ x, br[v]? = some (some x) := by
    intro v
    induction v with
    | zero => intro _; exact ⟨0, B.b0⟩
    | succ v ih =>
      intro hv
      obtain ⟨x, hx⟩ := ih (by omega)
      obtain ⟨x', hx', _⟩ := S _ (.on v (by omega)) x hx
      exact ⟨x', hx'⟩
  refine ⟨fun v => ((br[v]?).getD none).getD 0, fun v hv => ?_, ?_⟩
  · obtain ⟨x, hx⟩ := all v hv
    show br[v]? = some (some (((br[v]?).getD none).getD 0))
    rw [hx]; rfl
  · have get : ∀ {v : Nat} {x : Int}, br[v]? = some (some x) → ((br[v]?).getD none).getD 0 = x := fun h => by rw [h]; rfl
    refine ⟨get B.b0, B.lc, Feas.of_steps fun st h => ?_, fun v st h => ?_, fun v hv => ?_⟩
    · obtain ⟨y, hy⟩ := all st.s h.le.1
      obtain ⟨x, hx, le⟩ := S st h y hy
      show ((br[st.s]?).getD none).getD 0 + st.m ≤ ((br[st.e]?).getD none).getD 0
      rw [get hy, get hx]
      exact le
    · obtain ⟨a, b, x, y, hx, hy, le⟩ := B.cm_ok v st h
      obtain ⟨x', hx', le'⟩ := S st a y hy
      rw [b, hx] at hx'
      cases hx'
      refine ⟨a, b, ?_⟩
      show ((br[v]?).getD none).getD 0 = ((br[st.s]?).getD none).getD 0 + st.m
      rw [get hx, get hy]
      omega
    · obtain ⟨x, hx⟩ := all v hv
      exact B.tr v x hx

/-! ### one room more, led along came -/
structure Led (N : Net) (id : Nat → Int) (tk : Nat → Bool) (ψ : Nat → Int) (cm : List (Option Stp)) (k : Int) (d v : Nat) (id' : Nat → Int) (tk' : Nat → Bool) : Prop where
  tr : Tr cm d v
  vL : v ≤ N.L
  feas : N.Feas ψ id' tk'
  flow : ∀ j, j < N.L → 0 ≤ id' j ∧ id' j + N.cover tk' j = k + (if v ≤ j then 1 else 0)
  keepT : ∀ st, N.IsStep id tk st → 2 ≤ st.kd → ∀ d', Tr cm d' st.e → d' ≤ d → tk' st.ix = tk st.ix
  keepI : ∀ j, j < N.L → 0 < id j → ∀ d', Tr cm d' j → d' ≤ d → id j ≤ id' j
theorem Led.start {id : Nat → Int} {tk : Nat → Bool} {ψ : Nat → Int} {cm : List (Option Stp)} {k : Int} (D : N.Done id tk ψ cm) (hf : N.Flow id tk k) : ∃ d, N.Led id tk ψ cm k d N.L id tk := by
  obtain ⟨d, t⟩ := D.tr N.L (Nat.le_refl _)
  refine ⟨d, t, Nat.le_refl _, D.feas, fun j hj => ?_, fun _ _ _ _ _ _ => rfl, fun _ _ _ _ _ _ => Int.le_refl _⟩
  obtain ⟨a, b⟩ := hf j hj
  refine ⟨a, ?_⟩
  rw [if_neg (by omega)]
  omega
theorem Led.end_ {id : Nat → Int} {tk : Nat → Bool} {ψ : Nat → Int} {cm : List (Option Stp)} {k : Int} {d : Nat} {id' : Nat → Int} {tk' : Nat → Bool} (l : N.Led id tk ψ cm k d 0 id' tk') : N.Flow id' tk' (k + 1) ∧ N.Feas ψ id' tk' :=
  ⟨fun j hj => by have := l.flow j hj; rwa [if_pos (Nat.zero_le _)] at this, l.feas⟩
def setF {α : Type} (f : Nat → α) (i : Nat) (x : α) : Nat → α := fun j => if j = i then x else f j
theorem cover_set {tk : Nat → Bool} {i : Nat} (hi : i < N.n) (b : Bool) (j : Nat) (h : tk i = !b) : N.cover (setF tk i b) j = N.cover tk j + (if b = true then N.cov i j else - N.cov i j) := by
  unfold cover
  rw [sumTo_upd (g := fun a => if tk a = true then N.cov a j else 0) hi fun a _ ha => by rw [show setF tk i b a = tk a from if_neg ha]]
  rw [show setF tk i b i = b from if_pos rfl, h]
  cases b <;> simp
theorem Led.turn {id : Nat → Int} {tk : Nat → Bool} {ψ : Nat → Int} {cm : List (Option Stp)} {k : Int} {d v : Nat} {id' : Nat → Int} {tk' : Nat → Bool} (D : N.Done id tk ψ cm) (l : N.Led id tk ψ cm k d v id' tk') (hv : v ≠ 0) :
    ∃ st d', cm[v]? = some (some st) ∧ N.IsStep id tk st ∧ st.e = v ∧ d = d' + 1 ∧
      ((st.kd < 2 ∧ (st.kd = 0 ∨ st.kd = 1) ∧ st.ix < N.L ∧ N.Led id tk ψ cm k d' st.s (setF id' st.ix (id' st.ix + (1 - 2 * st.kd))) tk') ∨
       (¬ st.kd < 2 ∧ st.ix < N.n ∧ N.Led id tk ψ cm k d' st.s id' (setF tk' st.ix (decide (st.kd = 2))))) := by
  obtain ⟨t, vL, feas, flow, keepT, keepI⟩ := l
  cases t with
  | root => exact absurd rfl hv
  | @step d' _ st h _ t =>
    obtain ⟨is, e, tight⟩ := D.cm_ok v st h
    refine ⟨st, d', h, is, e, rfl, ?_⟩
    have tv : Tr cm (d' + 1) v := .step h hv t
    have sL := is.le.1
    -- what is still ahead is another step
    have other : ∀ st2, N.IsStep id tk st2 → ∀ d2, Tr cm d2 st2.e → d2 ≤ d' → st2.e ≠ v := fun st2 _ d2 t2 le q => by
      rw [q] at t2
      have := t2.det tv
      omega
    cases is with
    | on j hj =>
      refine .inl ⟨(by show (0 : Int) < 2; decide), .inl rfl, hj, t, sL, ⟨feas.up, fun a ha hpos => ?_, feas.no, feas.yes⟩, fun a ha => ?_, fun st2 h2 h2k d2 t2 le => keepT st2 h2 h2k d2 t2 (Nat.le_succ_of_le le), fun a ha hpos d2 t2 le => ?_⟩
      · by_cases q : a = j
        · subst q
          have e' : a + 1 = v := e
          have t' : ψ v = ψ a + 0 := tight
          rw [e', t']; omega
        · have : setF id' j (id' j + (1 - 2 * 0)) a = id' a := if_neg q
          exact feas.back a ha (by rw [← this]; exact hpos)
      · have fl := flow a ha
        have e' : j + 1 = v := e
        show 0 ≤ setF id' j (id' j + (1 - 2 * 0)) a ∧ setF id' j (id' j + (1 - 2 * 0)) a + _ = k + if j ≤ a then 1 else 0
        by_cases q : a = j
        · subst q
          rw [show setF id' a (id' a + (1 - 2 * 0)) a = id' a + (1 - 2 * 0) from if_pos rfl]
          rw [if_neg (by omega)] at fl
          rw [if_pos (Nat.le_refl _)]
          omega
        · rw [show setF id' j (id' j + (1 - 2 * 0)) a = id' a from if_neg q]
          refine ⟨fl.1, ?_⟩
          rw [fl.2]
          by_cases z : v ≤ a
          · rw [if_pos z, if_pos (by omega)]
          · rw [if_neg z, if_neg (by omega)]
      · have := keepI a ha hpos d2 t2 (Nat.le_succ_of_le le)
        by_cases q : a = j
        · subst q
          rw [show setF id' a (id' a + (1 - 2 * 0)) a = id' a + (1 - 2 * 0) from if_pos rfl]
          omega
        · rw [show setF id' j (id' j + (1 - 2 * 0)) a = id' a from if_neg q]
          exact this
    | off j hj hpos =>
      have e' : j = v := e
      subst e'
      have kj := keepI j hj hpos (d' + 1) tv (Nat.le_refl _)
      refine .inl ⟨(by show (1 : Int) < 2; decide), .inr rfl, hj, t, sL, ⟨feas.up, fun a ha hp => ?_, feas.no, feas.yes⟩, fun a ha => ?_, fun st2 h2 h2k d2 t2 le => keepT st2 h2 h2k d2 t2 (Nat.le_succ_of_le le), fun a ha hp d2 t2 le => ?_⟩
      · by_cases q : a = j
        · subst q
          exact feas.back a ha (by omega)
        · have : setF id' j (id' j + (1 - 2 * 1)) a = id' a := if_neg q
          exact feas.back a ha (by rw [← this]; exact hp)
      · have fl := flow a ha
        show 0 ≤ setF id' j (id' j + (1 - 2 * 1)) a ∧ setF id' j (id' j + (1 - 2 * 1)) a + _ = k + if j + 1 ≤ a then 1 else 0
        by_cases q : a = j
        · subst q
          rw [show setF id' a (id' a + (1 - 2 * 1)) a = id' a + (1 - 2 * 1) from if_pos rfl]
          rw [if_pos (Nat.le_refl _)] at fl
          rw [if_neg (by omega)]
          omega
        · rw [show setF id' j (id' j + (1 - 2 * 1)) a = id' a from if_neg q]
          refine ⟨fl.1, ?_⟩
          rw [fl.2]
          by_cases z : j ≤ a
          · rw [if_pos z, if_pos (by omega)]
          · rw [if_neg z, if_neg (by omega)]
      · have := keepI a ha hp d2 t2 (Nat.le_succ_of_le le)
        by_cases q : a = j
        · subst q
          have := t2.det tv
          omega
        · rw [show setF id' j (id' j + (1 - 2 * 1)) a = id' a from if_neg q]
          exact this
    | take i hi ht =>
      have e' : N.ei i = v := e
      have now : tk' i = false := by
        have q := keepT _ (.take i hi ht) (show (2 : Int) ≤ 2 by decide) (d' + 1) (by rw [show (Stp.e ⟨N.fi i, N.ei i, N.p i, 2, i⟩) = v from e']; exact tv) (Nat.le_refl _)
        exact q.trans ht
      have tight' : ψ (N.ei i) = ψ (N.fi i) + N.p i := by rw [e']; exact tight
      refine .inr ⟨(by show ¬ (2 : Int) < 2; decide), hi, t, sL, ⟨feas.up, feas.back, fun a ha hn => ?_, fun a ha hy => ?_⟩, fun a ha => ?_, fun st2 h2 h2k d2 t2 le => ?_, fun a ha hp d2 t2 le => keepI a ha hp d2 t2 (Nat.le_succ_of_le le)⟩
      · by_cases q : a = i
        · subst q
          have : setF tk' a (decide ((2 : Int) = 2)) a = true := if_pos rfl
          rw [show setF tk' (Stp.ix ⟨N.fi a, N.ei a, N.p a, 2, a⟩) (decide ((Stp.kd ⟨N.fi a, N.ei a, N.p a, 2, a⟩) = 2)) a = true from this] at hn
          cases hn
        · exact feas.no a ha ((show setF tk' i (decide ((2 : Int) = 2)) a = tk' a from if_neg q).symm.trans hn)
      · by_cases q : a = i
        · subst q
          omega
        · exact feas.yes a ha ((show setF tk' i (decide ((2 : Int) = 2)) a = tk' a from if_neg q).symm.trans hy)
      · have fl := flow a ha
        refine ⟨fl.1, ?_⟩
        show id' a + N.cover (setF tk' i (decide ((2 : Int) = 2))) a = k + if N.fi i ≤ a then 1 else 0
        rw [show decide ((2 : Int) = 2) = true from rfl, cover_set hi true a (by rw [now]; rfl), if_pos rfl]
        have := N.lt i hi
        unfold cov
        rw [← e'] at fl
        by_cases z : N.ei i ≤ a
        · rw [if_pos z] at fl
          rw [if_neg (by omega), if_pos (by omega)]
          omega
        · rw [if_neg z] at fl
          by_cases z2 : N.fi i ≤ a
          · rw [if_pos ⟨z2, by omega⟩, if_pos z2]; omega
          · rw [if_neg (by omega), if_neg z2]; omega
      · have old := keepT st2 h2 h2k d2 t2 (Nat.le_succ_of_le le)
        have ne := other st2 h2 d2 t2 le
        have : st2.ix ≠ i := fun q => by
          cases h2 with
          | on j hj => exact absurd (show (2 : Int) ≤ 0 from h2k) (by decide)
          | off j hj _ => exact absurd (show (2 : Int) ≤ 1 from h2k) (by decide)
          | take i2 _ _ =>
            have q : i2 = i := q
            exact ne (by rw [q]; exact e')
          | give i2 _ ht2 =>
            have q : i2 = i := q
            rw [q, ht] at ht2
            cases ht2
        exact (show setF tk' i (decide ((2 : Int) = 2)) st2.ix = tk' st2.ix from if_neg this).trans old
    | give i hi ht =>
      have e' : N.fi i = v := e
      have now : tk' i = true := by
        have q := keepT _ (.give i hi ht) (show (2 : Int) ≤ 3 by decide) (d' + 1) (by rw [show (Stp.e ⟨N.ei i, N.fi i, -N.p i, 3, i⟩) = v from e']; exact tv) (Nat.le_refl _)
        exact q.trans ht
      have tight' : ψ (N.fi i) = ψ (N.ei i) + -N.p i := by rw [e']; exact tight
      refine .inr ⟨(by show ¬ (3 : Int) < 2; decide), hi, t, sL, ⟨feas.up, feas.back, fun a ha hn => ?_, fun a ha hy => ?_⟩, fun a ha => ?_, fun st2 h2 h2k d2 t2 le => ?_, fun a ha hp d2 t2 le => keepI a ha hp d2 t2 (Nat.le_succ_of_le le)⟩
      · by_cases q : a = i
        · subst q
          omega
        · exact feas.no a ha ((show setF tk' i (decide ((3 : Int) = 2)) a = tk' a from if_neg q).symm.trans hn)
      · by_cases q : a = i
        · subst q
          have : setF tk' a (decide ((3 : Int) = 2)) a = false := if_pos rfl
          rw [show setF tk' (Stp.ix ⟨N.ei a, N.fi a, -N.p a, 3, a⟩) (decide ((Stp.kd ⟨N.ei a, N.fi a, -N.p a, 3, a⟩) = 2)) a = false from this] at hy
          cases hy
        · exact feas.yes a ha ((show setF tk' i (decide ((3 : Int) = 2)) a = tk' a from if_neg q).symm.trans hy)
      · have fl := flow a ha
        refine ⟨fl.1, ?_⟩
        show id' a + N.cover (setF tk' i (decide ((3 : Int) = 2))) a = k + if N.ei i ≤ a then 1 else 0
        rw [show decide ((3 : Int) = 2) = false from rfl, cover_set hi false a (by rw [now]; rfl), if_neg (by decide)]
        have := N.lt i hi
        unfold cov
        rw [← e'] at fl
        by_cases z : N.ei i ≤ a
        · rw [if_pos (by omega)] at fl
          rw [if_neg (by omega), if_pos z]
          omega
        · rw [if_neg z]
          by_cases z2 : N.fi i ≤ a
          · rw [if_pos z2] at fl
            rw [if_pos ⟨z2, by omega⟩]; omega
          · rw [if_neg z2] at fl
            rw [if_neg (by omega)]; omega
      · have old := keepT st2 h2 h2k d2 t2 (Nat.le_succ_of_le le)
        have ne := other st2 h2 d2 t2 le
        have : st2.ix ≠ i := fun q => by
          cases h2 with
          | on j hj => exact absurd (show (2 : Int) ≤ 0 from h2k) (by decide)
          | off j hj _ => exact absurd (show (2 : Int) ≤ 1 from h2k) (by decide)
          | take i2 _ ht2 =>
            have q : i2 = i := q
            rw [q, ht] at ht2
            cases ht2
          | give i2 _ _ =>
            have q : i2 = i := q
            exact ne (by rw [q]; exact e')
        exact (show setF tk' i (decide ((3 : Int) = 2)) st2.ix = tk' st2.ix from if_neg this).trans old
end Net
end Spn
namespace Spn
/-! ### requests, choices, tolls, as lists -/
abbrev Rq := Int × Int × Int
def getR (rs : List Rq) (a : Int) : Rq := rs.getD a.toNat (0, 0, 0)
def covers (r : Rq) (d : Int) : Bool := decide (r.1 ≤ d) && decide (d ≤ r.2.1)
def OkR (rs : List Rq) : Prop := ∀ r ∈ rs, r.1 ≤ r.2.1 ∧ 0 ≤ r.2.2
def choiceFrom (n : Int) : Int → List Int → Bool
  | _, [] => true
  | last, a :: r => decide (last < a ∧ a < n) && choiceFrom n a r
def isChoice (n : Nat) (s : List Int) : Bool := choiceFrom n (-1) s
def forDay (rs : List Rq) (s : List Int) (d : Int) : List Int := s.filter fun a => covers (getR rs a) d
def fits (rs : List Rq) (rooms : Int) (s : List Int) : Bool := s.all fun a => decide (((forDay rs s (getR rs a).1).length : Int) ≤ rooms)
def risingT : List (Int × Int) → Bool
  | a :: b :: r => decide (a.1 < b.1) && risingT (b :: r)
  | _ => true
def areTolls (τ : List (Int × Int)) : Bool := (τ.all fun t => decide (0 ≤ t.2)) && risingT τ
def worth (rs : List Rq) (s : List Int) : Int := (s.map fun a => (getR rs a).2.2).sum
def tollOf (τ : List (Int × Int)) (r : Rq) : Int := ((τ.filter fun t => covers r t.1).map (·.2)).sum
def tollSum (τ : List (Int × Int)) : Int := (τ.map (·.2)).sum
def gainOf (τ : List (Int × Int)) (r : Rq) : Int := max 0 (r.2.2 - tollOf τ r)
def bound (rs : List Rq) (rooms : Int) (τ : List (Int × Int)) : Int := rooms * tollSum τ + (rs.map (gainOf τ)).sum
def isBest (rs : List Rq) (rooms : Int) (s : List Int) (τ : List (Int × Int)) : Bool := isChoice rs.length s && fits rs rooms s && areTolls τ && decide (worth rs s = bound rs rooms τ)

theorem isBest_iff {rs : List Rq} {rooms : Int} {s : List Int} {τ : List (Int × Int)} : isBest rs rooms s τ = true ↔ isChoice rs.length s = true ∧ fits rs rooms s = true ∧ areTolls τ = true ∧ worth rs s = bound rs rooms τ := by
  unfold isBest
  simp [Bool.and_eq_true, and_assoc]

theorem choiceFrom_nat {n : Nat} : ∀ {s : List Int} {last : Int}, -1 ≤ last → choiceFrom n last s = true → ∃ ks : List Nat, s = ks.map Int.ofNat ∧ ks.Pairwise (· < ·) ∧ ∀ k ∈ ks, last < k ∧ k < n
  | [], last, _, _ => ⟨[], rfl, .nil, fun _ h => nomatch h⟩
  | a :: r, last, hl, h => by
    unfold choiceFrom at h
    obtain ⟨h1, h2⟩ := Bool.and_eq_true_iff.mp h
    obtain ⟨h3, h4⟩ := of_decide_eq_true h1
    obtain ⟨ks, e, pw, hb⟩ := choiceFrom_nat (s := r) (last := a) (by omega) h2
    refine ⟨a.toNat :: ks, ?_, .cons (fun k hk => ?_) pw, fun k hk => ?_⟩
    · rw [List.map_cons, ← e]
      congr 1
      exact (Int.toNat_of_nonneg (by omega)).symm
    · have := (hb k hk).1
      omega
    · rcases List.mem_cons.mp hk with rfl | hk
      · omega
      · have := hb k hk
        omega
theorem choice_nat {n : Nat} {s : List Int} (h : isChoice n s = true) : ∃ ks : List Nat, s = ks.map Int.ofNat ∧ ks.Pairwise (· < ·) ∧ ∀ k ∈ ks, k < n := by
  obtain ⟨ks, e, pw, hb⟩ := choiceFrom_nat (n := n) (Int.le_refl _) h
  exact ⟨ks, e, pw, fun k hk => (hb k hk).2⟩
theorem nat_choiceFrom {n : Nat} : ∀ {ks : List Nat} {last : Int}, ks.Pairwise (· < ·) → (∀ k ∈ ks, last < (k : Int) ∧ k < n) → choiceFrom n last (ks.map Int.ofNat) = true
  | [], _, _, _ => rfl
  | k :: r, last, pw, hb => by
    cases pw with
    | cons h1 pw =>
      obtain ⟨a, b⟩ := hb k List.mem_cons_self
      rw [List.map_cons]
      unfold choiceFrom
      have ih := nat_choiceFrom (n := n) (ks := r) (last := (k : Int)) pw fun j hj => ⟨by have := h1 j hj; omega, (hb j (List.mem_cons_of_mem _ hj)).2⟩
      rw [Bool.and_eq_true_iff]
      exact ⟨decide_eq_true ⟨a, by show (k : Int) < n; omega⟩, ih⟩
theorem nat_choice {n : Nat} {ks : List Nat} (pw : ks.Pairwise (· < ·)) (hb : ∀ k ∈ ks, k < n) : isChoice n (ks.map Int.ofNat) = true := nat_choiceFrom pw fun k hk => ⟨by omega, hb k hk⟩

/-! ### a rising list of counts, summed by index -/
theorem sum_rising {n : Nat} (g : Nat → Int) : ∀ {ks : List Nat}, ks.Pairwise (· < ·) → (∀ k ∈ ks, k < n) → (ks.map g).sum = sumTo n fun i => if i ∈ ks then g i else 0
  | [], _, _ => by simp [sumTo_zero]
  | k :: r, pw, hb => by
    cases pw with
    | cons h1 pw =>
      have ih := sum_rising g (ks := r) pw fun j hj => hb j (List.mem_cons_of_mem _ hj)
      have hk : k ∉ r := fun h => Nat.lt_irrefl _ (h1 k h)
      rw [List.map_cons, List.sum_cons, ih, sumTo_upd (f := fun i => if i ∈ k :: r then g i else 0) (g := fun i => if i ∈ r then g i else 0) (hb k List.mem_cons_self) fun j _ hj => by simp [hj]]
      simp [hk]
      omega
theorem len_rising {n : Nat} {ks : List Nat} (pw : ks.Pairwise (· < ·)) (hb : ∀ k ∈ ks, k < n) : (ks.length : Int) = sumTo n fun i => if i ∈ ks then 1 else 0 := by
  rw [← sum_rising (fun _ => 1) pw hb]
  have : ∀ l : List Nat, (l.map fun _ => (1 : Int)).sum = l.length := fun l => by
    induction l with
    | nil => rfl
    | cons a r ih => rw [List.map_cons, List.sum_cons, ih, List.length_cons]; omega
  exact (this ks).symm
theorem forDay_nat (rs : List Rq) (ks : List Nat) (d : Int) : forDay rs (ks.map Int.ofNat) d = (ks.filter fun k => covers (rs.getD k (0, 0, 0)) d).map Int.ofNat := by
  unfold forDay
  rw [List.filter_map]
  rfl
theorem sum_list (f : Rq → Int) : ∀ rs : List Rq, (rs.map f).sum = sumTo rs.length fun i => f (rs.getD i (0, 0, 0)) := by
  intro rs
  have aux : ∀ (l : List Rq) (m : Nat), m ≤ l.length → ((l.take m).map f).sum = sumTo m fun i => f (l.getD i (0, 0, 0)) := by
    intro l m
    induction m with
    | zero => intro _; simp [sumTo]
    | succ m ih =>
      intro h
      have e : l[m]? = some (l[m]'(by omega)) := List.getElem?_eq_getElem (by omega : m < l.length)
      rw [sumTo, ← ih (by omega), List.take_succ, List.map_append, List.sum_append, List.getD_eq_getElem?_getD, e]
      simp
  have := aux rs rs.length (Nat.le_refl _)
  rwa [List.take_length] at this
theorem worth_nat (rs : List Rq) {ks : List Nat} (pw : ks.Pairwise (· < ·)) (hb : ∀ k ∈ ks, k < rs.length) : worth rs (ks.map Int.ofNat) = sumTo rs.length fun i => if i ∈ ks then (rs.getD i (0, 0, 0)).2.2 else 0 := by
  rw [← sum_rising (fun i => (rs.getD i (0, 0, 0)).2.2) pw hb]
  unfold worth
  rw [List.map_map]
  rfl

/-! ### how many ask for a day -/
def many (rs : List Rq) (ks : List Nat) (d : Int) : Nat := (ks.filter fun k => covers (rs.getD k (0, 0, 0)) d).length
/-- the one that begins last, of those that ask for a day -/
theorem latest (rs : List Rq) : ∀ {l : List Nat}, l ≠ [] → ∃ k ∈ l, ∀ j ∈ l, (rs.getD j (0, 0, 0)).1 ≤ (rs.getD k (0, 0, 0)).1
  | [], h => absurd rfl h
  | [a], _ => ⟨a, List.mem_cons_self, fun j hj => by have : j = a := by simpa using hj
                                                     subst this; exact Int.le_refl _⟩
  | a :: b :: r, _ => by
    obtain ⟨k, hk, h⟩ := latest rs (l := b :: r) (by simp)
    by_cases c : (rs.getD a (0, 0, 0)).1 ≤ (rs.getD k (0, 0, 0)).1
    · refine ⟨k, List.mem_cons_of_mem _ hk, fun j hj => ?_⟩
      rcases List.mem_cons.mp hj with rfl | hj
      · exact c
      · exact h j hj
    · refine ⟨a, List.mem_cons_self, fun j hj => ?_⟩
      rcases List.mem_cons.mp hj with rfl | hj
      · exact Int.le_refl _
      · have := h j hj
        omega
theorem covers_iff {r : Rq} {d : Int} : covers r d = true ↔ r.1 ≤ d ∧ d ≤ r.2.1 := by
  unfold covers
  rw [Bool.and_eq_true_iff, decide_eq_true_iff, decide_eq_true_iff]
theorem many_le {rs : List Rq} {ks : List Nat} {rooms : Int} (h0 : 0 ≤ rooms) (hfit : fits rs rooms (ks.map Int.ofNat) = true) (d : Int) : (many rs ks d : Int) ≤ rooms := by
  unfold many
  by_cases e : (ks.filter fun k => covers (rs.getD k (0, 0, 0)) d) = []
  · rw [e]; exact h0
  · obtain ⟨k, hk, hl⟩ := latest rs e
    obtain ⟨hk1, hk2⟩ := List.mem_filter.mp hk
    have q := List.all_eq_true.mp hfit (Int.ofNat k) (List.mem_map.mpr ⟨k, hk1, rfl⟩)
    have q := of_decide_eq_true q
    rw [forDay_nat, List.length_map] at q
    refine Int.le_trans ?_ q
    have hc := covers_iff.mp hk2
    have sub : (ks.filter fun k => covers (rs.getD k (0, 0, 0)) d).length ≤ (ks.filter fun j => covers (rs.getD j (0, 0, 0)) (getR rs (Int.ofNat k)).1).length := by
      have : (ks.filter fun j => covers (rs.getD j (0, 0, 0)) d) = ((ks.filter fun j => covers (rs.getD j (0, 0, 0)) (getR rs (Int.ofNat k)).1).filter fun j => covers (rs.getD j (0, 0, 0)) d) := by
        rw [List.filter_filter]
        refine List.filter_congr fun j hj => ?_
        cases c : covers (rs.getD j (0, 0, 0)) d with
        | false => rfl
        | true =>
          have a := hl j (List.mem_filter.mpr ⟨hj, c⟩)
          have b := covers_iff.mp c
          have : covers (rs.getD j (0, 0, 0)) (getR rs (Int.ofNat k)).1 = true := covers_iff.mpr ⟨a, by
            show (rs.getD k (0, 0, 0)).1 ≤ _
            omega⟩
          rw [this]; rfl
      rw [this]
      exact List.length_filter_le _ _
    omega

/-! ### weak: no choice that fits is worth more than the tolls say -/
theorem tollOf_cons (t : Int × Int) (τ : List (Int × Int)) (r : Rq) : tollOf (t :: τ) r = (if covers r t.1 = true then t.2 else 0) + tollOf τ r := by
  unfold tollOf
  rw [List.filter_cons]
  split
  · simp
  · simp
theorem toll_swap (rs : List Rq) {n : Nat} {ks : List Nat} (pw : ks.Pairwise (· < ·)) (hb : ∀ k ∈ ks, k < n) : ∀ τ : List (Int × Int), (sumTo n fun i => if i ∈ ks then tollOf τ (rs.getD i (0, 0, 0)) else 0) = (τ.map fun t => t.2 * (many rs ks t.1 : Int)).sum
  | [] => by
    rw [sumTo_congr (g := fun _ => 0) fun i _ => by unfold tollOf; simp, sumTo_zero]; rfl
  | t :: τ => by
    rw [List.map_cons, List.sum_cons, ← toll_swap rs pw hb τ]
    have : (many rs ks t.1 : Int) = sumTo n fun i => if i ∈ ks then (if covers (rs.getD i (0, 0, 0)) t.1 = true then 1 else 0) else 0 := by
      unfold many
      rw [len_rising (n := n) (pw.filter _) fun k hk => hb k (List.mem_filter.mp hk).1]
      refine sumTo_congr fun i _ => ?_
      by_cases a : i ∈ ks
      · rw [if_pos a]
        by_cases c : covers (rs.getD i (0, 0, 0)) t.1 = true
        · rw [if_pos c, if_pos (List.mem_filter.mpr ⟨a, c⟩)]
        · have z : ¬ (i ∈ ks.filter fun k => covers (rs.getD k (0, 0, 0)) t.1) := fun z => c (List.mem_filter.mp z).2
          rw [if_neg c, if_neg z]
      · have z : ¬ (i ∈ ks.filter fun k => covers (rs.getD k (0, 0, 0)) t.1) := fun z => a (List.mem_filter.mp z).1
        rw [if_neg a, if_neg z]
    rw [this, ← sumTo_mul, ← sumTo_add]
    refine sumTo_congr fun i _ => ?_
    rw [tollOf_cons]
    by_cases a : i ∈ ks
    · rw [if_pos a, if_pos a, if_pos a]
      split <;> omega
    · rw [if_neg a, if_neg a, if_neg a]
      omega
theorem sum_le_of {α : Type} {f g : α → Int} : ∀ {l : List α}, (∀ a ∈ l, f a ≤ g a) → (l.map f).sum ≤ (l.map g).sum
  | [], _ => Int.le_refl _
  | a :: r, h => by
    have h1 := h a List.mem_cons_self
    have h2 := sum_le_of (l := r) fun b hb => h b (List.mem_cons_of_mem _ hb)
    simp only [List.map_cons, List.sum_cons]
    omega
theorem sum_mul_left (c : Int) (l : List (Int × Int)) : (l.map fun t => t.2 * c).sum = c * tollSum l := by
  unfold tollSum
  induction l with
  | nil => simp
  | cons a r ih => simp only [List.map_cons, List.sum_cons, ih, Int.mul_add]; rw [Int.mul_comm a.2 c]
theorem weak {rs : List Rq} {rooms : Int} {s : List Int} {τ : List (Int × Int)} (h0 : 0 ≤ rooms) (hc : isChoice rs.length s = true) (hf : fits rs rooms s = true) (hτ : ∀ t ∈ τ, 0 ≤ t.2) : worth rs s ≤ bound rs rooms τ := by
  obtain ⟨ks, rfl, pw, hb⟩ := choice_nat hc
  rw [worth_nat rs pw hb]
  unfold bound
  rw [sum_list]
  have a : (sumTo rs.length fun i => if i ∈ ks then (rs.getD i (0, 0, 0)).2.2 else 0) ≤ sumTo rs.length fun i => (if i ∈ ks then tollOf τ (rs.getD i (0, 0, 0)) else 0) + gainOf τ (rs.getD i (0, 0, 0)) := sumTo_le fun i _ => by
    unfold gainOf
    rw [Int.max_def]
    split <;> split <;> omega
  rw [sumTo_add, toll_swap rs pw hb] at a
  have b : (τ.map fun t => t.2 * (many rs ks t.1 : Int)).sum ≤ (τ.map fun t => t.2 * rooms).sum := sum_le_of fun t ht => Int.mul_le_mul_of_nonneg_left (many_le h0 hf t.1) (hτ t ht)
  rw [sum_mul_left] at b
  omega
theorem areTolls_nonneg {τ : List (Int × Int)} (h : areTolls τ = true) : ∀ t ∈ τ, 0 ≤ t.2 := fun t ht => by
  unfold areTolls at h
  exact of_decide_eq_true (List.all_eq_true.mp (Bool.and_eq_true_iff.mp h).1 t ht)
theorem best_ge {rs : List Rq} {rooms : Int} {s s' : List Int} {τ : List (Int × Int)} (h0 : 0 ≤ rooms) (hb : isBest rs rooms s τ = true) (hc : isChoice rs.length s' = true) (hf : fits rs rooms s' = true) : worth rs s' ≤ worth rs s := by
  obtain ⟨_, _, a, e⟩ := isBest_iff.mp hb
  rw [e]
  exact weak h0 hc hf (areTolls_nonneg a)
theorem best_unique {rs : List Rq} {rooms : Int} {s s' : List Int} {τ τ' : List (Int × Int)} (h0 : 0 ≤ rooms) (hb : isBest rs rooms s τ = true) (hb' : isBest rs rooms s' τ' = true) : worth rs s = worth rs s' := by
  obtain ⟨a, b, _, _⟩ := isBest_iff.mp hb
  obtain ⟨a', b', _, _⟩ := isBest_iff.mp hb'
  exact Int.le_antisymm (best_ge h0 hb' a b) (best_ge h0 hb a' b')

/-! ### from the net to the answer -/
/-- the net told by a list of days and requests -/
structure NetOf (N : Net) (rs : List Rq) (ds : Nat → Int) : Prop where
  n : N.n = rs.length
  up : ∀ i j, i < j → j ≤ N.L → ds i < ds j
  f : ∀ i, i < N.n → ds (N.fi i) = (rs.getD i (0, 0, 0)).1
  e : ∀ i, i < N.n → ds (N.ei i) = (rs.getD i (0, 0, 0)).2.1 + 1
  p : ∀ i, i < N.n → N.p i = (rs.getD i (0, 0, 0)).2.2
def takenOf (n : Nat) (tk : Nat → Bool) : List Int := ((List.range n).filter tk).map Int.ofNat
def tollsOf (L : Nat) (ds φ : Nat → Int) : List (Int × Int) := ((List.range L).filter fun j => decide (φ j < φ (j + 1))).map fun j => (ds j, φ (j + 1) - φ j)
theorem NetOf.cov {N : Net} {rs : List Rq} {ds : Nat → Int} (h : NetOf N rs ds) {i j : Nat} (hi : i < N.n) (hj : j < N.L) : covers (rs.getD i (0, 0, 0)) (ds j) = decide (N.fi i ≤ j ∧ j < N.ei i) := by
  have mono : ∀ a b, a ≤ N.L → b ≤ N.L → (ds a ≤ ds b ↔ a ≤ b) := fun a b ha hb => by
    rcases Nat.lt_trichotomy a b with q | q | q
    · have := h.up a b q hb
      omega
    · subst q; omega
    · have := h.up b a q ha
      omega
  have l1 := N.lt i hi
  have l2 := N.le i hi
  have m1 := mono (N.fi i) j (by omega) (by omega)
  have m2 := mono (N.ei i) j (by omega) (by omega)
  rw [h.f i hi] at m1
  rw [h.e i hi] at m2
  rw [Bool.eq_iff_iff, covers_iff, decide_eq_true_iff]
  omega
theorem pw_range (n : Nat) (p : Nat → Bool) : ((List.range n).filter p).Pairwise (· < ·) := List.Pairwise.filter _ List.pairwise_lt_range
theorem tollSum_of {L : Nat} {ds φ : Nat → Int} (h : ∀ j, j < L → φ j ≤ φ (j + 1)) : tollSum (tollsOf L ds φ) = φ L - φ 0 := by
  unfold tollSum tollsOf
  rw [List.map_map]
  have e := sum_rising (n := L) (fun j => φ (j + 1) - φ j) (pw_range L fun j => decide (φ j < φ (j + 1))) fun k hk => List.mem_range.mp (List.mem_filter.mp hk).1
  refine Eq.trans (show _ = _ from e) ?_
  rw [← sumTo_tele0 φ L]
  refine sumTo_congr fun j hj => ?_
  by_cases c : φ j < φ (j + 1)
  · rw [if_pos (List.mem_filter.mpr ⟨List.mem_range.mpr hj, decide_eq_true c⟩)]
  · have z : ¬ (j ∈ (List.range L).filter fun j => decide (φ j < φ (j + 1))) := fun z => c (of_decide_eq_true (List.mem_filter.mp z).2)
    rw [if_neg z]
    have := h j hj
    omega
theorem tollOf_of {N : Net} {rs : List Rq} {ds φ : Nat → Int} (h : NetOf N rs ds) (hu : ∀ j, j < N.L → φ j ≤ φ (j + 1)) {i : Nat} (hi : i < N.n) : tollOf (tollsOf N.L ds φ) (rs.getD i (0, 0, 0)) = φ (N.ei i) - φ (N.fi i) := by
  unfold tollOf tollsOf
  rw [List.filter_map, List.map_map]
  have e := sum_rising (n := N.L) (fun j => φ (j + 1) - φ j) ((pw_range N.L fun j => decide (φ j < φ (j + 1))).filter ((fun t : Int × Int => covers (rs.getD i (0, 0, 0)) t.1) ∘ fun j => (ds j, φ (j + 1) - φ j))) fun k hk => List.mem_range.mp (List.mem_filter.mp (List.mem_filter.mp hk).1).1
  refine Eq.trans (show _ = _ from e) ?_
  rw [← sumTo_tele φ (N.fi i) (N.ei i) (Nat.le_of_lt (N.lt i hi)) N.L (N.le i hi)]
  refine sumTo_congr fun j hj => ?_
  have c := h.cov hi hj
  by_cases a : N.fi i ≤ j ∧ j < N.ei i
  · rw [if_pos a]
    rw [decide_eq_true a] at c
    by_cases b : φ j < φ (j + 1)
    · rw [if_pos (List.mem_filter.mpr ⟨List.mem_filter.mpr ⟨List.mem_range.mpr hj, decide_eq_true b⟩, c⟩)]
    · have z : ¬ (j ∈ ((List.range N.L).filter fun j => decide (φ j < φ (j + 1))).filter ((fun t : Int × Int => covers (rs.getD i (0, 0, 0)) t.1) ∘ fun j => (ds j, φ (j + 1) - φ j))) := fun z => b (of_decide_eq_true (List.mem_filter.mp (List.mem_filter.mp z).1).2)
      rw [if_neg z]
      have := hu j hj
      omega
  · rw [if_neg a]
    rw [decide_eq_false a] at c
    rw [if_neg fun z => by
      have z2 : covers (rs.getD i (0, 0, 0)) (ds j) = true := (List.mem_filter.mp z).2
      rw [c] at z2
      cases z2]
theorem risingT_of {L : Nat} {ds : Nat → Int} (g : Nat → Int) (hup : ∀ i j, i < j → j ≤ L → ds i < ds j) : ∀ {ks : List Nat}, ks.Pairwise (· < ·) → (∀ k ∈ ks, k < L) → risingT (ks.map fun j => (ds j, g j)) = true
  | [], _, _ => rfl
  | [_], _, _ => rfl
  | a :: b :: r, pw, hb => by
    cases pw with
    | cons h1 pw =>
      have ih := risingT_of g hup (ks := b :: r) pw fun k hk => hb k (List.mem_cons_of_mem _ hk)
      show (decide (ds a < ds b) && risingT ((b :: r).map fun j => (ds j, g j))) = true
      rw [ih, decide_eq_true (hup a b (h1 b List.mem_cons_self) (Nat.le_of_lt (hb b (List.mem_cons_of_mem _ List.mem_cons_self))))]
      rfl
/-- THE CERTIFICATE -/
theorem cert {N : Net} {rs : List Rq} {ds φ id : Nat → Int} {tk : Nat → Bool} {k : Int} (h : NetOf N rs ds) (hf : N.Flow id tk k) (hφ : N.Feas φ id tk) : isBest rs k (takenOf N.n tk) (tollsOf N.L ds φ) = true := by
  have pw : ((List.range N.n).filter tk).Pairwise (· < ·) := pw_range N.n tk
  have hb : ∀ a ∈ (List.range N.n).filter tk, a < N.n := fun a ha => List.mem_range.mp (List.mem_filter.mp ha).1
  have hb' : ∀ a ∈ (List.range N.n).filter tk, a < rs.length := fun a ha => by rw [← h.n]; exact hb a ha
  have mem : ∀ a, a < N.n → (a ∈ (List.range N.n).filter tk ↔ tk a = true) := fun a ha => ⟨fun z => (List.mem_filter.mp z).2, fun z => List.mem_filter.mpr ⟨List.mem_range.mpr ha, z⟩⟩
  refine isBest_iff.mpr ⟨?_, ?_, ?_, ?_⟩
  · exact nat_choice pw hb'
  · refine List.all_eq_true.mpr fun z hz => ?_
    obtain ⟨a, ha, rfl⟩ := List.mem_map.mp hz
    refine decide_eq_true ?_
    have han := hb a ha
    have l1 := N.lt a han
    have l2 := N.le a han
    unfold takenOf
    rw [forDay_nat, List.length_map]
    show ((((List.range N.n).filter tk).filter fun k => covers (rs.getD k (0, 0, 0)) (rs.getD a (0, 0, 0)).1).length : Int) ≤ k
    rw [← h.f a han, len_rising (n := N.n) (pw.filter _) fun b hb2 => hb b (List.mem_filter.mp hb2).1]
    have fl := hf (N.fi a) (by omega)
    have e : (sumTo N.n fun i => if i ∈ ((List.range N.n).filter tk).filter (fun k => covers (rs.getD k (0, 0, 0)) (ds (N.fi a))) then (1 : Int) else 0) = N.cover tk (N.fi a) := by
      unfold Net.cover
      refine sumTo_congr fun i hi => ?_
      have c := h.cov hi (show N.fi a < N.L by omega)
      by_cases t : tk i = true
      · rw [if_pos t]
        unfold Net.cov
        by_cases q : N.fi i ≤ N.fi a ∧ N.fi a < N.ei i
        · rw [decide_eq_true q] at c
          rw [if_pos q, if_pos (List.mem_filter.mpr ⟨(mem i hi).mpr t, c⟩)]
        · rw [decide_eq_false q] at c
          rw [if_neg q, if_neg fun z => by
            have z2 : covers (rs.getD i (0, 0, 0)) (ds (N.fi a)) = true := (List.mem_filter.mp z).2
            rw [c] at z2
            cases z2]
      · rw [if_neg t, if_neg fun z => t ((mem i hi).mp (List.mem_filter.mp z).1)]
    rw [e]
    omega
  · unfold areTolls
    rw [Bool.and_eq_true_iff]
    refine ⟨List.all_eq_true.mpr fun t ht => ?_, ?_⟩
    · obtain ⟨j, hj, rfl⟩ := List.mem_map.mp ht
      have := of_decide_eq_true (List.mem_filter.mp hj).2
      refine decide_eq_true ?_
      show 0 ≤ φ (j + 1) - φ j
      omega
    · exact risingT_of (fun j => φ (j + 1) - φ j) h.up (pw_range N.L _) fun k hk => List.mem_range.mp (List.mem_filter.mp hk).1
  · unfold takenOf
    rw [worth_nat rs pw hb']
    unfold bound
    rw [tollSum_of hφ.up, sum_list, ← h.n]
    have s := Net.strong hf hφ
    have e1 : (sumTo N.n fun i => if i ∈ (List.range N.n).filter tk then (rs.getD i (0, 0, 0)).2.2 else 0) = sumTo N.n fun i => if tk i = true then N.p i else 0 := sumTo_congr fun i hi => by
      rw [h.p i hi]
      by_cases t : tk i = true
      · rw [if_pos t, if_pos ((mem i hi).mpr t)]
      · rw [if_neg t, if_neg fun z => t ((mem i hi).mp z)]
    have e2 : (sumTo N.n fun i => gainOf (tollsOf N.L ds φ) (rs.getD i (0, 0, 0))) = sumTo N.n (N.gain φ) := sumTo_congr fun i hi => by
      unfold gainOf Net.gain
      rw [tollOf_of h hφ.up hi, h.p i hi]
    rw [e1, e2, s]

/-! ### more of best choices -/
theorem best_nil (k : Int) : isBest [] k [] [] = true := by
  refine isBest_iff.mpr ⟨rfl, rfl, rfl, ?_⟩
  show (0 : Int) = k * 0 + 0
  omega
theorem choice_len {n : Nat} {s : List Int} (h : isChoice n s = true) : s.length ≤ n := by
  obtain ⟨ks, rfl, pw, hb⟩ := choice_nat h
  have e := len_rising pw hb
  have : (sumTo n fun i => if i ∈ ks then (1 : Int) else 0) ≤ sumTo n fun _ => 1 := sumTo_le fun i _ => by split <;> omega
  rw [sumTo_const] at this
  rw [List.length_map]
  omega
theorem fits_mono {rs : List Rq} {k k' : Int} {s : List Int} (hk : k ≤ k') (h : fits rs k s = true) : fits rs k' s = true :=
  List.all_eq_true.mpr fun a ha => decide_eq_true (Int.le_trans (of_decide_eq_true (List.all_eq_true.mp h a ha)) hk)
theorem fits_zero {rs : List Rq} (ok : OkR rs) {s : List Int} (hc : isChoice rs.length s = true) (h : fits rs 0 s = true) : s = [] := by
  obtain ⟨ks, rfl, pw, hb⟩ := choice_nat hc
  cases ks with
  | nil => rfl
  | cons a r =>
    exfalso
    have q := of_decide_eq_true (List.all_eq_true.mp h (Int.ofNat a) List.mem_cons_self)
    rw [forDay_nat, List.length_map] at q
    have ha := hb a List.mem_cons_self
    have g : rs.getD a (0, 0, 0) ∈ rs := by
      rw [List.getD_eq_getElem?_getD, List.getElem?_eq_getElem ha]
      exact List.getElem_mem ha
    have o := (ok _ g).1
    have m : a ∈ (a :: r).filter fun k => covers (rs.getD k (0, 0, 0)) (getR rs (Int.ofNat a)).1 := List.mem_filter.mpr ⟨List.mem_cons_self, covers_iff.mpr ⟨Int.le_refl _, o⟩⟩
    have := List.length_pos_of_mem m
    omega
/-- all requests -/
def every (n : Nat) : List Int := (List.range n).map Int.ofNat
theorem every_choice (n : Nat) : isChoice n (every n) = true := nat_choice List.pairwise_lt_range fun _ h => List.mem_range.mp h
theorem every_fits {rs : List Rq} {k : Int} (h : (rs.length : Int) ≤ k) : fits rs k (every rs.length) = true := List.all_eq_true.mpr fun a _ => decide_eq_true (by
  have : (forDay rs (every rs.length) (getR rs a).1).length ≤ (every rs.length).length := List.length_filter_le _ _
  unfold every at this ⊢
  rw [List.length_map, List.length_range] at this
  omega)
theorem every_worth (rs : List Rq) : worth rs (every rs.length) = (rs.map (·.2.2)).sum := by
  unfold every
  rw [worth_nat rs List.pairwise_lt_range fun _ h => List.mem_range.mp h, sum_list]
  exact sumTo_congr fun i hi => if_pos (List.mem_range.mpr hi)
theorem every_best {rs : List Rq} (ok : OkR rs) {k : Int} (h : (rs.length : Int) ≤ k) : isBest rs k (every rs.length) [] = true := by
  refine isBest_iff.mpr ⟨every_choice _, every_fits h, rfl, ?_⟩
  rw [every_worth]
  show _ = k * 0 + (rs.map (gainOf [])).sum
  have : ∀ l : List Rq, OkR l → (l.map (·.2.2)).sum = (l.map (gainOf [])).sum := fun l => by
    induction l with
    | nil => intro _; rfl
    | cons a r ih =>
      intro o
      have h1 := (o a List.mem_cons_self).2
      have h2 : gainOf [] a = a.2.2 := by
        show max 0 (a.2.2 - 0) = a.2.2
        rw [Int.max_def]; split <;> omega
      simp only [List.map_cons, List.sum_cons]
      rw [h2, ih fun r hr => o r (List.mem_cons_of_mem _ hr)]
  rw [this rs ok]
  omega
/-- by one room more the best worth grows by no more than by the room ahead -/
theorem worth_grow {rs : List Rq} {k : Int} {s s' s'' : List Int} {τ τ' τ'' : List (Int × Int)} (h0 : 0 ≤ k) (a : isBest rs k s τ = true) (b : isBest rs (k + 1) s' τ' = true) (c : isBest rs (k + 1 + 1) s'' τ'' = true) : worth rs s'' - worth rs s' ≤ worth rs s' - worth rs s := by
  obtain ⟨a1, a2, a3, a4⟩ := isBest_iff.mp a
  obtain ⟨b1, b2, b3, b4⟩ := isBest_iff.mp b
  obtain ⟨c1, c2, c3, c4⟩ := isBest_iff.mp c
  have u := weak (τ := τ') h0 a1 a2 (areTolls_nonneg b3)
  have v := weak (τ := τ') (by omega) c1 c2 (areTolls_nonneg b3)
  unfold bound at u v b4
  have e1 : (k + 1) * tollSum τ' = k * tollSum τ' + tollSum τ' := by rw [Int.add_mul, Int.one_mul]
  have e2 : (k + 1 + 1) * tollSum τ' = k * tollSum τ' + tollSum τ' + tollSum τ' := by rw [Int.add_mul, Int.add_mul, Int.one_mul]
  omega
theorem worth_up {rs : List Rq} {k : Int} {s s' : List Int} {τ τ' : List (Int × Int)} (h0 : 0 ≤ k) (a : isBest rs k s τ = true) (b : isBest rs (k + 1) s' τ' = true) : worth rs s ≤ worth rs s' := by
  obtain ⟨a1, a2, _, _⟩ := isBest_iff.mp a
  exact best_ge (by omega) b a1 (fits_mono (by omega) a2)
theorem worth_zero {rs : List Rq} (ok : OkR rs) {s : List Int} {τ : List (Int × Int)} (a : isBest rs 0 s τ = true) : s = [] := by
  obtain ⟨a1, a2, _, _⟩ := isBest_iff.mp a
  exact fits_zero ok a1 a2
end Spn

namespace Spn
/-! ### the net of a list of requests -/
def ixOf : List Int → Int → Nat
  | [], _ => 0
  | y :: r, x => if y = x then 0 else ixOf r x + 1
theorem ixOf_get {x : Int} : ∀ {ks : List Int}, x ∈ ks → ks[ixOf ks x]? = some x
  | y :: r, h => by
    unfold ixOf
    by_cases c : y = x
    · rw [if_pos c, c]; rfl
    · rw [if_neg c]
      rcases List.mem_cons.mp h with e | e
      · exact absurd e.symm c
      · rw [List.getElem?_cons_succ]
        exact ixOf_get e
theorem ixOf_lt {x : Int} {ks : List Int} (h : x ∈ ks) : ixOf ks x < ks.length := (List.getElem?_eq_some_iff.mp (ixOf_get h)).1
theorem ixOf_before {x : Int} : ∀ {ks : List Int} {m : Nat} {z : Int}, m < ixOf ks x → ks[m]? = some z → z ≠ x
  | [], m, z, h, e => by simp at e
  | y :: r, m, z, h, e => by
    unfold ixOf at h
    by_cases c : y = x
    · rw [if_pos c] at h; omega
    · rw [if_neg c] at h
      cases m with
      | zero =>
        rw [List.getElem?_cons_zero] at e
        cases e
        exact c
      | succ m =>
        rw [List.getElem?_cons_succ] at e
        exact ixOf_before (by omega) e
theorem getD_of {ks : List Int} {i : Nat} {x : Int} (h : ks[i]? = some x) : ks.getD i 0 = x := by
  rw [List.getD_eq_getElem?_getD, h]
  rfl
theorem rising_lt {ks : List Int} (pw : ks.Pairwise (· < ·)) {i j : Nat} (h : i < j) (hj : j < ks.length) : ks.getD i 0 < ks.getD j 0 := by
  rw [getD_of (List.getElem?_eq_getElem (Nat.lt_trans h hj)), getD_of (List.getElem?_eq_getElem hj)]
  exact List.pairwise_iff_getElem.mp pw i j _ _ h
theorem sub_length {ks : List Int} : ∀ {ms : List Int}, ks.Pairwise (· < ·) → (∀ k ∈ ks, k ∈ ms) → ks.length ≤ ms.length := by
  induction ks with
  | nil => intro ms _ _; exact Nat.zero_le _
  | cons k r ih =>
    intro ms pw h
    have hk := h k List.mem_cons_self
    have pw' := List.pairwise_cons.mp pw
    have := ih (ms := ms.erase k) pw'.2 fun z hz => (List.mem_erase_of_ne (by have := pw'.1 z hz; omega)).mpr (h z (List.mem_cons_of_mem _ hz))
    rw [List.length_erase_of_mem hk] at this
    have : 0 < ms.length := List.length_pos_of_mem hk
    rw [List.length_cons]
    omega
def marks (rs : List Rq) : List Int := rs.map (·.1) ++ rs.map (·.2.1 + 1)
def netE (ks : List Int) (r : Rq) : Nat × Nat × Int := (ixOf ks r.1, ixOf ks (r.2.1 + 1), r.2.2)
theorem marks_mem {rs : List Rq} {r : Rq} (h : r ∈ rs) : r.1 ∈ marks rs ∧ r.2.1 + 1 ∈ marks rs :=
  ⟨List.mem_append_left _ (List.mem_map.mpr ⟨r, h, rfl⟩), List.mem_append_right _ (List.mem_map.mpr ⟨r, h, rfl⟩)⟩
theorem getD_mem {rs : List Rq} {i : Nat} (h : i < rs.length) : rs.getD i (0, 0, 0) ∈ rs := by
  rw [List.getD_eq_getElem?_getD, List.getElem?_eq_getElem h]
  exact List.getElem_mem h
theorem mkNet {rs : List Rq} (ok : OkR rs) (ne : rs ≠ []) {ks : List Int} (pw : ks.Pairwise (· < ·)) (hm : ∀ k, k ∈ ks ↔ k ∈ marks rs) :
    ∃ N : Net, NetOf N rs (fun i => ks.getD i 0) ∧ ks.length = N.L + 1 ∧ N.L + 1 ≤ 2 * rs.length ∧ ∀ i, i < N.n → (rs.map (netE ks))[i]? = some (N.fi i, N.ei i, N.p i) := by
  have inF : ∀ i, i < rs.length → (rs.getD i (0, 0, 0)).1 ∈ ks := fun i h => (hm _).mpr (marks_mem (getD_mem h)).1
  have inE : ∀ i, i < rs.length → (rs.getD i (0, 0, 0)).2.1 + 1 ∈ ks := fun i h => (hm _).mpr (marks_mem (getD_mem h)).2
  have pos : 0 < ks.length := by
    cases rs with
    | nil => exact absurd rfl ne
    | cons r t => exact List.length_pos_of_mem (inF 0 (Nat.zero_lt_succ _))
  have len : ks.length ≤ 2 * rs.length := by
    have := sub_length (ms := marks rs) pw fun k h => (hm k).mp h
    unfold marks at this
    rw [List.length_append, List.length_map, List.length_map] at this
    omega
  refine ⟨⟨rs.length, ks.length - 1, fun i => ixOf ks (rs.getD i (0, 0, 0)).1, fun i => ixOf ks ((rs.getD i (0, 0, 0)).2.1 + 1), fun i => (rs.getD i (0, 0, 0)).2.2, fun i hi => ?_, fun i hi => ?_, fun i hi => (ok _ (getD_mem hi)).2⟩, ⟨rfl, fun i j h hj => rising_lt pw h (by show j < ks.length; have : j ≤ ks.length - 1 := hj; omega), fun i hi => getD_of (ixOf_get (inF i hi)), fun i hi => getD_of (ixOf_get (inE i hi)), fun _ _ => rfl⟩, by show ks.length = ks.length - 1 + 1; omega, by show ks.length - 1 + 1 ≤ _; omega, fun i hi => ?_⟩
  · have o := (ok _ (getD_mem hi)).1
    refine Nat.lt_of_not_le fun c => ?_
    rcases Nat.lt_or_eq_of_le c with c | c
    · have := rising_lt pw c (ixOf_lt (inF i hi))
      rw [getD_of (ixOf_get (inF i hi)), getD_of (ixOf_get (inE i hi))] at this
      omega
    · have a := ixOf_get (inF i hi)
      have b := ixOf_get (inE i hi)
      rw [c, a] at b
      have := Option.some.inj b
      omega
  · have := ixOf_lt (inE i hi)
    show _ ≤ ks.length - 1
    omega
  · have hi' : i < rs.length := hi
    rw [List.getElem?_map, List.getElem?_eq_getElem hi', Option.map_some]
    have : rs[i] = rs.getD i (0, 0, 0) := by
      rw [List.getD_eq_getElem?_getD, List.getElem?_eq_getElem hi']
      rfl
    rw [this]
    rfl
end Spn
namespace Spn
/-! ### rising lists -/
theorem rising_ext : ∀ {ks ms : List Int}, ks.Pairwise (· < ·) → ms.Pairwise (· < ·) → (∀ k, k ∈ ks ↔ k ∈ ms) → ks = ms
  | [], [], _, _, _ => rfl
  | [], m :: ms, _, _, h => by have := (h m).mpr List.mem_cons_self; cases this
  | k :: ks, [], _, _, h => by have := (h k).mp List.mem_cons_self; cases this
  | k :: ks, m :: ms, p, q, h => by
    have p' := List.pairwise_cons.mp p
    have q' := List.pairwise_cons.mp q
    have e : k = m := by
      have a := (h k).mp List.mem_cons_self
      have b := (h m).mpr List.mem_cons_self
      rcases List.mem_cons.mp a with a | a
      · exact a
      · rcases List.mem_cons.mp b with b | b
        · exact b.symm
        · have := p'.1 m b
          have := q'.1 k a
          omega
    subst e
    rw [rising_ext p'.2 q'.2 fun z => ⟨fun hz => ?_, fun hz => ?_⟩]
    · rcases List.mem_cons.mp ((h z).mp (List.mem_cons_of_mem _ hz)) with e | e
      · have := p'.1 z hz; omega
      · exact e
    · rcases List.mem_cons.mp ((h z).mpr (List.mem_cons_of_mem _ hz)) with e | e
      · have := q'.1 z hz; omega
      · exact e
def within (n : Nat) (z : Int) : Bool := decide (0 ≤ z) && decide (z < n)
theorem choice_iff {n : Nat} {ns : List Int} : isChoice n ns = true ↔ ns.Pairwise (· < ·) ∧ ∀ z ∈ ns, 0 ≤ z ∧ z < n := by
  constructor
  · intro h
    obtain ⟨ks, rfl, pw, hb⟩ := choice_nat h
    refine ⟨List.pairwise_map.mpr (pw.imp fun h => ?_), fun z hz => ?_⟩
    · exact Int.ofNat_lt.mpr h
    · obtain ⟨k, hk, rfl⟩ := List.mem_map.mp hz
      exact ⟨Int.natCast_nonneg k, Int.ofNat_lt.mpr (hb k hk)⟩
  · rintro ⟨pw, hb⟩
    have e : ns = (ns.map Int.toNat).map Int.ofNat := by
      rw [List.map_map]
      refine (List.map_id' ns).symm.trans (List.map_congr_left fun z hz => ?_)
      have := (hb z hz).1
      show z = ((z.toNat : Nat) : Int)
      omega
    rw [e]
    refine nat_choice (List.pairwise_map.mpr (pw.imp_of_mem fun {a b} ha hb' h => ?_)) fun k hk => ?_
    · have := (hb a ha).1
      have := (hb b hb').1
      omega
    · obtain ⟨z, hz, rfl⟩ := List.mem_map.mp hk
      have := hb z hz
      omega
theorem chosen_eq {n : Nat} {ns ks : List Int} (hb : ∀ z ∈ ns, 0 ≤ z ∧ z < n) (pw : ks.Pairwise (· < ·)) (hm : ∀ k, k ∈ ks ↔ k ∈ ns) : decide (ns = ks) = isChoice n ns := by
  rw [Bool.eq_iff_iff, decide_eq_true_iff, choice_iff]
  exact ⟨fun e => by subst e; exact ⟨pw, hb⟩, fun h => rising_ext h.1 pw fun k => (hm k).symm⟩
theorem not_chosen {n : Nat} {ns : List Int} (h : ns.all (within n) = false) : isChoice n ns = false := by
  rw [Bool.eq_false_iff]
  intro c
  have := (choice_iff.mp c).2
  rw [List.all_eq_true.mpr fun z hz => by unfold within; rw [Bool.and_eq_true, decide_eq_true_eq, decide_eq_true_eq]; exact this z hz] at h
  cases h
theorem within_all {n : Nat} {ns : List Int} (h : ns.all (within n) = true) : ∀ z ∈ ns, 0 ≤ z ∧ z < n := fun z hz => by
  have := List.all_eq_true.mp h z hz
  unfold within at this
  rwa [Bool.and_eq_true, decide_eq_true_eq, decide_eq_true_eq] at this
end Spn

namespace Spn
open PySem PySem.Spec PyProof.Rows L2
/-! ### what a call leaves behind is forgotten, but for what it hands back -/
/-- no dict with tuple keys; what is locked is a list or a tuple -/
def plainO : HO → Bool
  | .dT _ => false
  | .frz _ (.lst _) => true
  | .frz _ (.tup _) => true
  | .frz _ _ => false
  | _ => true
def NoT (H : Hp) : Prop := ∀ a o, H a = some o → plainO o = true
theorem NoT.upd {H : Hp} {a : Addr} {o : HO} (h : NoT H) (ho : plainO o = true := by rfl) : NoT (L2.upd H a o) := fun b u e => by
  by_cases q : b = a
  · subst q
    rw [upd_same] at e
    cases e
    exact ho
  · rw [upd_ne q] at e
    exact h b u e
/-- H'': what stood at H, as it stands at H', and some of what is new there -/
structure Shr (H H'' H' : Hp) : Prop where
  keep : ∀ b o, H b = some o → H'' b = H' b
  sub : ∀ b o, H'' b = some o → H' b = some o
  own : ∀ a C dx fs, H'' a = some (.ins C dx fs) → (∃ C0 fs0, H a = some (.ins C0 dx fs0)) ∨ H'' dx = some (.own a)
  noT : NoT H''
/-- nothing new is kept -/
theorem Shr.none {H H' : Hp} (n : NoT H) (s : Same H H') : Shr H H H' := ⟨fun b o e => by rw [e, s b o e], s, fun a C dx fs e => .inl ⟨C, fs, e⟩, n⟩
/-- one new thing is kept, no instance -/
theorem Shr.one {H H' : Hp} {p : Addr} {o : HO} (n : NoT H) (s : Same H H') (hp : H p = Option.none) (e : H' p = some o) (hi : ∀ C dx fs, o ≠ .ins C dx fs) (ho : plainO o = true := by rfl) : Shr H (L2.upd H p o) H' := by
  refine ⟨fun b u q => ?_, fun b u q => ?_, fun a C dx fs q => ?_, n.upd ho⟩
  · rw [upd_ne (ne_of_none q hp), q, s b u q]
  · by_cases z : b = p
    · subst z
      rw [upd_same] at q
      cases q
      exact e
    · rw [upd_ne z] at q
      exact s b u q
  · by_cases z : a = p
    · subst z
      rw [upd_same] at q
      cases q
      exact absurd rfl (hi C dx fs)
    · rw [upd_ne z] at q
      exact .inl ⟨C, fs, q⟩
theorem ObjOk.shrink {P : Program} {w : World} {H' H'' : Hp} {h' : Heap} {a : Addr} {o : HO} (hi : ∀ C dx fs, o = .ins C dx fs → H'' dx = some (.own a)) (hp : plainO o = true) (x : ObjOk P w H' h' a o) : ObjOk P w H'' h' a o := by
  cases o with
  | ins C dx fs =>
    obtain ⟨_, r⟩ := x
    exact ⟨hi C dx fs rfl, r⟩
  | dT kvs => cases hp
  | frz ob u =>
    cases u with
    | lst xs => exact x
    | tup xs => exact x
    | _ => cases hp
  | _ => exact x
theorem HOk.shrink {P : Program} {w : World} {H H' H'' : Hp} {h h' : Heap} (x : HOk P w H h) (x' : HOk P w H' h') (s : Shr H H'' H') : HOk P w H'' h' := fun a o e => by
  refine ObjOk.shrink (fun C dx fs q => ?_) (s.noT a o e) (x' a o (s.sub a o e))
  subst q
  rcases s.own a C dx fs e with ⟨C0, fs0, q⟩ | q
  · obtain ⟨d, _⟩ := x a _ q
    obtain ⟨d', _⟩ := x' a _ (s.sub a _ e)
    rw [s.keep dx _ d, d']
  · exact q
theorem Un.shrink {fs ex : List Addr} {H H' H'' : Hp} {h h' : Heap} (u : Un fs ex H H' h h') (s : Shr H H'' H') : Un fs ex H H'' h h' where
  keep := u.keep
  slot := u.slot
  free := fun b o q n hx => by
    have z := u.free b o q n hx
    cases e : H'' b with
    | none => rfl
    | some v =>
      rw [s.sub b v e] at z
      cases z
  there := u.there
  tups := fun b xs q => by rw [s.keep b _ q]; exact u.tups b xs q
  frzs := fun b o v q => by rw [s.keep b _ q]; exact u.frzs b o v q
  tbls := fun b ps q => by
    obtain ⟨m, e⟩ := u.tbls b ps q
    exact ⟨m, by rw [s.keep b _ q]; exact e⟩
theorem Inv.shrink {X : Cx} {pins : List (Addr × Obj)} {σ : L2.St} {H H' H'' : Hp} {s s' : Shared} (I : Inv X pins σ H s) (I' : Inv X pins σ H' s') (S : Shr H H'' H') : Inv X pins σ H'' s' := by
  have fr : ∀ {b : Addr}, H' b = none → H'' b = none := fun {b} n => by
    cases e : H'' b with
    | none => rfl
    | some v =>
      rw [S.sub b v e] at n
      cases n
  refine ⟨I'.ok, I'.os, I'.bare, ⟨I'.base.keep, I'.base.slot, fun b o q n hx => fr (I'.base.free b o q n hx), I'.base.there, fun b xs q => ?_, fun b o v q => ?_, fun b ps q => ?_⟩, I'.loc, I'.cell, fr I'.free, fun x c e => fr (I'.freeC x c e), fun p hp => ?_, HOk.shrink I.hok I'.hok S, I'.len⟩
  · rw [S.keep b _ (I.base.tups b xs q)]; exact I'.base.tups b xs q
  · rw [S.keep b _ (I.base.frzs b o v q)]; exact I'.base.frzs b o v q
  · obtain ⟨m, e⟩ := I.base.tbls b ps q
    obtain ⟨m', e'⟩ := I'.base.tbls b ps q
    exact ⟨m', by rw [S.keep b _ e]; exact e'⟩
  · obtain ⟨a, b, c⟩ := I'.pin p hp
    exact ⟨a, fr b, c⟩
/-- an expression, what is new behind it forgotten -/
def tShr (t : TE) : TE := fun σ H Q => t σ H fun v H' => ∃ H'', Shr H H'' H' ∧ Q v H''
theorem pe_shr {X : Cx} {e : Expr} {t : TE} (h : PE X e t) : PE X e (tShr t) := by
  refine ⟨fun pins s σ H Q I q => ?_⟩
  refine thn (h.run pins s σ H _ I q) fun u s1 ⟨v, H', I', r, H'', S, z⟩ => ?_
  exact ⟨v, H'', Inv.shrink I I' S, r, z⟩
/-- .. behind a call -/
def spShr (sp : Sp) : Sp := fun vs H Q E => sp vs H (fun v H' => ∃ H'', Shr H H'' H' ∧ Q v H'') E
theorem FnOk.shrink {P : Program} {w : World} {K : PySem.W.Frag} {mg : Str → Option Value} {base : Heap} {CX : CXT} {k : Nat} {f : Addr} {fd : FuncData} {ps : List Str} {sp : Sp} (F : FnOk P w K mg base CX k f fd ps sp) : FnOk P w K mg base CX k f fd ps (spShr sp) := by
  refine ⟨fun vs H Q E h => F.len vs H _ E h, fun A outer s H args us vs Q E hr he hb hv hs => ?_⟩
  refine codeAny_mono (F.run A outer s H args us vs _ E hr he hb hv hs) fun r s' q => ?_
  cases r with
  | error e => exact q
  | ok fl =>
    cases fl with
    | ret u =>
      obtain ⟨v, H', os, ag, un, ho, rv, H'', S, z⟩ := q
      exact ⟨v, H'', os, ag, Un.shrink un S, HOk.shrink he.hok ho S, rv, z⟩
    | next => exact q
    | brk => exact q
    | cont => exact q
end Spn

namespace Spn
open PySem PySem.Spec PyProof.Rows L2
/-! ### defs by their places -/
structure FnB (P : Program) (w : World) (K : PySem.W.Frag) (mg : Str → Option Value) (base : Heap) (CX : CXT) (k : Nat) (p : Str × Option Str) (ps : List Str) (sp : Sp) : Prop where
  ex : ∃ fd, FnOk P w K mg base CX k (He.fAd K p) fd ps sp ∧ Binds K fd ps []
  kp : PySem.W.keepIn K (.ref (He.fAd K p)) = true
theorem FnB.mono {P : Program} {w : World} {K : PySem.W.Frag} {mg : Str → Option Value} {base : Heap} {CX : CXT} {j k : Nat} {p : Str × Option Str} {ps : List Str} {sp : Sp} (F : FnB P w K mg base CX j p ps sp) (h : j ≤ k) : FnB P w K mg base CX k p ps sp := by
  obtain ⟨⟨fd, F, b⟩, kp⟩ := F
  exact ⟨⟨fd, F.mono h, b⟩, kp⟩
theorem FnB.imp {P : Program} {w : World} {K : PySem.W.Frag} {mg : Str → Option Value} {base : Heap} {CX : CXT} {k : Nat} {p : Str × Option Str} {ps : List Str} {sp sp' : Sp} (F : FnB P w K mg base CX k p ps sp) (h : ∀ vs H Q E, sp' vs H Q E → sp vs H Q E) : FnB P w K mg base CX k p ps sp' := by
  obtain ⟨⟨fd, F, b⟩, kp⟩ := F
  exact ⟨⟨fd, F.imp h, b⟩, kp⟩
/-- the rule for a def whose new things are forgotten, by its function object -/
theorem fn_mk' {P : Program} {w : World} {K : PySem.W.Frag} {mg : Str → Option Value} {base : Heap} {CX : CXT} {k : Nat} {f : Addr} {fd : FuncData} {N ps : List Str} {sp : Sp} {x qual : Str} {st : Stmt}
    (F : FunD K x qual (defArgs st) (defBody st) (defScope st) [] [] f fd) (S : FnScope N ps (defScope st)) (len : ∀ vs H Q E, sp vs H Q E → vs.length = ps.length)
    (hbody : ∀ (cdv : Value) (A : Around) (outer : List Env) (s : Shared) (H : Hp) (vs : List V) (Q Q0 : VK) (E : XK), Room k (A.deeper (envOfC qual (defScope st) s.heap.objs.size f cdv)) → sp vs H Q E → (∀ v H' H'', Shr H H'' H' → Q v H'' → Q0 v H') →
      ∃ t, PSs (cxOf CX P w K mg base N qual (defScope st) f cdv A outer s H E) (defBody st) t ∧ t { nx := fun _ H' => Q0 .non H', rt := Q0 } (start N vs) H) : FnOk P w K mg base CX (k + 1) f fd ps sp := by
  have G : FnOk P w K mg base CX (k + 1) f fd ps (fun vs H Q0 E => ∃ Q : VK, sp vs H Q E ∧ ∀ v H' H'', Shr H H'' H' → Q v H'' → Q0 v H') := by
    refine FunD.ok F S (fun vs H Q E ⟨Q', h, _⟩ => len vs H Q' E h) fun cdv A outer s H vs Q0 E hr ⟨Q, h, fin⟩ => ?_
    exact hbody cdv A outer s H vs Q Q0 E hr h fin
  exact (Spn.FnOk.shrink G).imp fun vs H Q E h => ⟨Q, h, fun v H' H'' S q => ⟨H'', S, q⟩⟩
/-- .. by its place -/
theorem FnB.mk' {P : Program} {w : World} {K : PySem.W.Frag} {mg : Str → Option Value} {base : Heap} {CX : CXT} {k : Nat} {p : Str × Option Str} {N ps : List Str} {sp : Sp} {x qual : Str} {st : Stmt}
    (F : ∃ fd, FunD K x qual (defArgs st) (defBody st) (defScope st) [] [] (He.fAd K p) fd) (S : FnScope N ps (defScope st))
    (bd : ∀ (kV doc pm : Value) (an : Option Addr) (cdv ct : Value) (us : List Value), us.length = ps.length → bindArgs (PySem.W.fnOf x qual (defArgs st) (defBody st) (defScope st) .none kV doc pm an cdv ct) ⟨us, []⟩ = pure (ps.zip us))
    (len : ∀ vs H Q E, sp vs H Q E → vs.length = ps.length)
    (hbody : ∀ (cdv : Value) (A : Around) (outer : List Env) (s : Shared) (H : Hp) (vs : List V) (Q Q0 : VK) (E : XK), Room k (A.deeper (envOfC qual (defScope st) s.heap.objs.size (He.fAd K p) cdv)) → sp vs H Q E → (∀ v H' H'', Shr H H'' H' → Q v H'' → Q0 v H') →
      ∃ t, PSs (cxOf CX P w K mg base N qual (defScope st) (He.fAd K p) cdv A outer s H E) (defBody st) t ∧ t { nx := fun _ H' => Q0 .non H', rt := Q0 } (start N vs) H) : FnB P w K mg base CX (k + 1) p ps sp := by
  obtain ⟨fd, F⟩ := F
  exact ⟨⟨fd, fn_mk' F S len hbody, FunD.bindsN F bd⟩, F.kp⟩
section
variable {X : Cx} {CX : CXT} {k : Nat} {x m : Str} {ps : List Str} {sp : Sp} {E : XK} {p pos apos : Pos} {e o : Expr} {es : List Expr} {ta : TE} {t : TA}
theorem pe_callN (F : FnB X.prog X.w X.K X.mg X.base CX k (x, none) ps sp) (hm : X.mg x = some (.ref (He.ga X.K x))) (hr : Room k X.A) (hx : Passes CX X E) (ha : PA X (e :: es) t) (hg : Gl X x := by rfl)
    (hdb : (x == ("__debug__" : Str)) = false := by decide) (he : starEach (e :: es) X.env = (false, eval e X.env) :: starEach es X.env := by rfl) (hpl : (backTo pos (starEach es X.env)).any (·.1) = false := by rfl) :
    PE X (.Call (.Name x p) (e :: es) [] pos) (tCall sp [] E t) := by
  obtain ⟨⟨fd, F, b⟩, kp⟩ := F
  exact pe_call F hr hg hm kp b .nil hx ha hdb he hpl
theorem pe_methN {c : Str} {pl : Sem Bool} (he : PE X o ta) (cl : Cls X.K (He.ga X.K c)) (hm : Meth X.K (He.ga X.K c) m (He.ma X.K (He.ga X.K c) m)) (F : FnB X.prog X.w X.K X.mg X.base CX k (c, some m) ps sp) (hr : Room k X.A) (hx : Passes CX X E) (ha : PA X (e :: es) t)
    (hst : starEach (e :: es) X.env = (false, eval e X.env) :: starEach es X.env := by rfl) (hpl : (backTo pos (starEach es X.env)).any (·.1) = false := by rfl)
    (ht : eval (.Call (.Attribute o m apos) (e :: es) [] pos) X.env = (do
      let ov ← eval o X.env
      standAt apos.atName
      let (f, first) ← holding [ov] (getMethod ov m pl)
      callWith pos f first (backTo pos (starEach (e :: es) X.env)) (backToKw pos (keywordEach [] X.env))) := by rfl) :
    PE X (.Call (.Attribute o m apos) (e :: es) [] pos) (tMeth (He.ga X.K c) m sp [] E ta t) := by
  obtain ⟨⟨fd, F, b⟩, kp⟩ := F
  exact pe_meth he cl hm F hr b .nil hx ha hst hpl ht
theorem pe_methN0 {c : Str} {pl : Sem Bool} (he : PE X o ta) (cl : Cls X.K (He.ga X.K c)) (hm : Meth X.K (He.ga X.K c) m (He.ma X.K (He.ga X.K c) m)) (F : FnB X.prog X.w X.K X.mg X.base CX k (c, some m) ps sp) (hr : Room k X.A) (hx : Passes CX X E)
    (ht : eval (.Call (.Attribute o m apos) [] [] pos) X.env = (do
      let ov ← eval o X.env
      standAt apos.atName
      let (f, first) ← holding [ov] (getMethod ov m pl)
      callWith pos f first (backTo pos (starEach [] X.env)) (backToKw pos (keywordEach [] X.env))) := by rfl) :
    PE X (.Call (.Attribute o m apos) [] [] pos) (tMeth (He.ga X.K c) m sp [] E ta tNil) := by
  obtain ⟨⟨fd, F, b⟩, kp⟩ := F
  exact pe_meth0 he cl hm F hr b .nil hx ht
theorem pe_makeN (M : Mk X.K (He.ga X.K x) (He.ma X.K (He.ga X.K x) "__init__")) (F : FnB X.prog X.w X.K X.mg X.base CX k (x, some "__init__") ps sp) (hm : X.mg x = some (.ref (He.ga X.K x))) (hr : Room (k + 1) X.A) (hx : Passes CX X E) (ha : PA X (e :: es) t) (hg : Gl X x := by rfl)
    (hdb : (x == ("__debug__" : Str)) = false := by decide) (he : starEach (e :: es) X.env = (false, eval e X.env) :: starEach es X.env := by rfl) (hpl : (backTo pos (starEach es X.env)).any (·.1) = false := by rfl) :
    PE X (.Call (.Name x p) (e :: es) [] pos) (tMake (He.ga X.K x) sp [] E t) := by
  obtain ⟨⟨fd, F, b⟩, kp⟩ := F
  exact pe_make M F hr hg hm b .nil hx ha hdb he hpl
/-- a list's item at a place from nought on, for xs[i] op= e -/
def rGetL (K : PySem.W.Frag) : V → V → Hp → VK → Prop := fun o i H Q => ∃ (p : Addr) (xs : List V) (j : Nat) (z : V), o = .ref p ∧ i = .int (j : Int) ∧ SqL K H p xs ∧ xs[j]? = some z ∧ Q z H
theorem pget_list : PGet X (rGetL X.K) := by
  intro pins s σ H o i ov iv Q I ro ri h
  obtain ⟨p, xs, j, z, rfl, rfl, hq, he, q⟩ := h
  cases ro
  obtain ⟨tk, rfl⟩ := ri
  obtain ⟨its, rv, pl, hz⟩ := I.list hq
  obtain ⟨w, ew, rw'⟩ := rv.get he
  have hj : j < xs.length := (List.getElem?_eq_some_iff.mp he).1
  rw [sizeLine_eq] at hz
  exact wpAny_getItem_list pl.isList (Int.natCast_nonneg j) (by omega) (by simpa using ew) ⟨z, H, I, rw', q⟩
end
/-! ### sets of hin out of lists, sorted -/
/-- a new set with nothing in it -/
abbrev bareSet (w : World) : Obj := { cls := .type "set", dict := none, data := .set #[] 0 (.fresh 0 0 (!w.params.followText "set-order")) }
section
variable {P : Program} {w : World} {A : Around} {E : Value → Shared → Prop} {s : Shared}
theorem set_of_ints {l : Addr} {items : Array Value} (ns : List Int) {Q : Value → Shared → Prop} (calm : A.handled = none) (hl : s.heap.IsList l items) (hin : IntsAre items.toList ns) (small : ns.length + 1 < scanBound)
    (fin : ∀ (g : Heap) (tk c : Nat), SetR w g s.heap.objs.size (fun j => decide (j ∈ ns)) c → c ≤ ns.length → (∀ b o, s.heap.get? b = some o → g.get? b = some o) → Q (.ref s.heap.objs.size) { s with heap := g, toks := tk }) :
    wpAny (model P w) A (call (.type "set") [.ref l]) Q E s := by
  have many : items.size = ns.length := by
    rw [← Array.length_toList]
    exact IntsAre.length hin
  obtain ⟨c0, tl, hmro⟩ := PySem.F.called_set.mro
  have a1 := PySem.F.called_set.made
  have a2 := PySem.F.called_set.sub
  refine wpAny_call (codeAny_of_tree ?_)
  show wpAny _ _ (callAny (.type "set") _) _ _ _
  refine wpAny_pure ⟨Code.quiet_builtin _ (by decide +kernel), codeAny_builtin PySem.F.entry_type_call ?_⟩
  rw [Around.under_plain (weight_type_call_type "set" [.ref l] []) rfl]
  have a3 := PySem.F.called_set.notType
  have a4 := PySem.F.called_set.canCreate
  have a5 := PySem.F.typeCall_set_1 (.ref l)
  repeat (any_goals (first | assumption | wp_step))
  refine codeAny_mono (code_set_led1 (.ref l) (E := E) (Q₁ := fun obj s1 => obj = .ref s.heap.objs.size ∧ s1 = { s with heap := s.heap.push (bareSet w) }) ⟨rfl, rfl⟩) fun r s1 hr => ?_
  cases r with
  | error e => exact hr
  | ok fl =>
    cases fl with
    | ret obj =>
      obtain ⟨rfl, rfl⟩ := hr
      have at0 : (s.heap.push (bareSet w)).get? s.heap.objs.size = some (bareSet w) := Heap.get?_push_size _ rfl
      have ty0 : Shared.TypeIs { s with heap := s.heap.push (bareSet w) } (.ref s.heap.objs.size) "set" := ⟨_, at0, rfl⟩
      have b1 := PySem.F.called_set.init.lookup
      have b2 := PySem.F.called_set.init.bind (.ref s.heap.objs.size)
      repeat (any_goals (first | assumption | wp_step))
      refine codeAny_mono (codeAny_call_builtin (R := wants (fun r s2 => r = .none ∧ ∃ g tk c, s2 = { s with heap := g, toks := tk } ∧ SetR w g s.heap.objs.size (fun j => decide (j ∈ ns)) c ∧ c ≤ ns.length ∧ (∀ b o, s.heap.get? b = some o → g.get? b = some o)) E) PySem.F.called_set.init.plain PySem.F.entry_set_init (check_set_init_1 ty0 ?_)) fun r2 s2 hr2 => ?_
      · obtain ⟨ol, hol, hcl, nl, hdl⟩ := hl
        obtain ⟨oc, od, odt, osl⟩ := ol
        simp only at hcl hdl
        subst hcl; subst hdl
        have hol' : (s.heap.push (bareSet w)).get? l = some { cls := .type "list", dict := od, data := .seq items nl, slots := osl } := Heap.get?_push_of_some _ hol
        have n1 := PySem.F.sub_list_set
        have n2 := PySem.F.sub_list_frozenset
        have n3 : (Value.type "list" == Value.type "dict") = false := by decide
        have isl : (s.heap.push (bareSet w)).IsList l items := ⟨_, hol', rfl, nl, rfl⟩
        unfold Builtin.«set.__init__» noKeywords Builtin.Frozenset.updateFrom
        generalize hPI : pyIter = PI
        wp_walk
        subst hPI
        refine wpAny_pyIter_list isl ?_
        refine wpAny_bind (wpAny_runValue ?_)
        have lS : l < s.heap.objs.size := Heap.lt_size hol
        have calm3 : A.in1.in1.in1.handled = none := by simp [calm]
        have neI : l ≠ (s.heap.push (bareSet w)).objs.size := by
          rw [Heap.size_push]
          exact Nat.ne_of_lt (Nat.lt_succ_of_lt lS)
        have away : s.heap.objs.size ∉ [(s.heap.push (bareSet w)).objs.size, l] := by
          rw [Heap.size_push]
          simp only [List.mem_cons, List.not_mem_nil, or_false, not_or]
          exact ⟨Nat.ne_of_lt (Nat.lt_succ_self _), Nat.ne_of_gt lS⟩
        have each : ∀ (i : Nat) (v : Value), items[i]? = some v → ∃ k t, ns[i]? = some k ∧ v = .int k t := fun i v hv => by
          have hi : i < ns.length := by
            rw [← many]
            exact (Array.getElem?_eq_some_iff.mp hv).1
          obtain ⟨t, e⟩ := PyProof.Rows.IntsAre.int_at hin i v (by rw [Array.getElem?_toList]; exact hv)
          refine ⟨ns[i], t, List.getElem?_eq_getElem hi, ?_⟩
          rw [e, List.getD_eq_getElem?_getD, List.getElem?_eq_getElem hi] <;> rfl
        refine set_update_ints ((Walks.list calm3 _ l neI items).toS) s.heap.objs.size away ns many small each (items.size - 0) 0 _ (by omega) (Nat.zero_le _) ⟨⟨_, Heap.get?_push_size _ rfl, rfl, rfl⟩, (isl.push _)⟩ ?begins ?ends
        case begins =>
          have at1 : ((s.heap.push (bareSet w)).push { cls := .type "list_iterator", data := .fields #[.ref l, .int 0 0] }).get? s.heap.objs.size = some (bareSet w) := Heap.get?_push_of_some _ at0
          exact ⟨0, Nat.le_refl 0, setR_new_at at1⟩
        case ends =>
          intro z c' hm hc' hS'
          obtain ⟨g, gs, dr, tk, os⟩ := z
          have e1 : gs = s.gens := hm.gens
          have e2 : dr = s.drawn := hm.drawn
          have e3 : os = s.os := hm.os
          subst e1; subst e2; subst e3
          show wpAny _ _ _ _ _ _
          refine wpAny_pure ?_
          show wpAny _ _ (ret Value.none) _ _ _
          rw [many] at hc'
          refine wpAny_pure ⟨rfl, g, tk, c', rfl, hS', hc', fun b o e => ?_⟩
          have b0 : b < s.heap.objs.size := Heap.lt_size e
          have b1 : b ≠ s.heap.objs.size := Nat.ne_of_lt b0
          have b2 : b ≠ (s.heap.push (bareSet w)).objs.size := by
            rw [Heap.size_push]
            exact Nat.ne_of_lt (Nat.lt_succ_of_lt b0)
          exact hm.heap b o (by simp only [List.mem_cons, List.not_mem_nil, or_false, not_or]; exact ⟨b1, b2⟩) (Heap.get?_push_of_some _ (Heap.get?_push_of_some _ e))
      · cases r2 with
        | error e => exact hr2
        | ok fl2 =>
          cases fl2 with
          | ret r =>
            obtain ⟨rfl, g, tk, c', rfl, hS', hc', hk'⟩ := hr2
            repeat (any_goals (first | assumption | wp_step))
            exact fin _ _ _ hS' hc' hk'
          | _ => exact hr2.elim
    | _ => exact hr.elim
open SrtO in
/-- sorted(s) of a set of hin, of any size -/
theorem sorted_of_set {a : Addr} {S : Int → Bool} {n : Nat} {Q : Value → Shared → Prop} (R : SetR w s.heap a S n) (calm : A.handled = none)
    (fin : ∀ s' p (out : List Value) (c : Nat) (ns : List Int), (∀ b o, s.heap.get? b = some o → s'.heap.get? b = some o) → s'.gens = s.gens → s'.os = s.os → s.heap.objs.size ≤ p →
      s'.heap.get? p = some (seqObj "list" out.toArray c) → IntsAre out ns → ns.Pairwise (· < ·) → (∀ k, k ∈ ns ↔ S k = true) → ns.length ≤ sizeLine → Q (.ref p) s') :
    wpAny (model P w) A (call (.builtin "sorted") [.ref a]) Q E s := by
  obtain ⟨o, es, ep, t, ho, hex, hd, g, nd, hm, hb, hf, hn, hr, hl⟩ := R
  refine Calls.call_function_entry kind_sorted plain_sorted entry_sorted (args_sorted1 _) ?_
  unfold Builtin.«sorted»
  refine wpAny_bind (m := checkCount "sorted" 1 1 _) (wpAny_pure ?_)
  refine wpAny_bind (collect_set (A := A.in1) calm ⟨o, ho, hex.1, hd⟩ hf hb hr hl fun s1 vs k1 hz g1 o1 pm => ?_)
  have len : vs.length = es.size := by rw [pm.length_eq, List.length_map, Array.length_toList]
  have hin : IntsAre vs (vs.map Builtin.Re.reRawOf) := ints_of vs fun v hv => by
    obtain ⟨e, he, q⟩ := List.mem_map.mp (pm.mem_iff.mp hv)
    obtain ⟨k, tk, h1, _⟩ := g e he
    exact ⟨k, tk, by rw [← q]; exact h1⟩
  have keys : (vs.map Builtin.Re.reRawOf).Perm (es.toList.map keyOf) := by
    have q := pm.map Builtin.Re.reRawOf
    rw [List.map_map] at q
    exact q
  have hz2 : vs.length ≤ sizeLine := by
    have : es.size < 4096 := hb
    rw [len, sizeLine_eq]
    omega
  refine wpAny_bind (wpAny_newList ?_ hz2)
  have at1 : (s1.heap.push (seqObj "list" vs.toArray 0)).get? s1.heap.objs.size = some (seqObj "list" vs.toArray 0) := Heap.get?_push_size _ rfl
  refine wpAny_bind (wpAny_holding (wpAny_call_entry slot_list_sort ⟨_, at1, rfl⟩ entry_list_sort (list_sort_ord swo_int at1 hz2 (fun h2 => ints_sortable hin h2) fun out h1 h2 => ⟨_, rfl, ?_⟩) (args_list_sort _)))
  obtain ⟨q1, q2, q3⟩ := ints_out hin h1 h2
  obtain ⟨c, hc⟩ := sortedHeap_at (vs := vs) (out := out.toArray) at1
  have pn : (out.map iv).Perm (es.toList.map keyOf) := q2.trans keys
  refine wpAny_pure ⟨_, rfl, fin _ s1.heap.objs.size out c (out.map iv) (fun b u e => ?_) g1 o1 hz hc q1 (lt_of_le_nodup _ q3 (pn.nodup_iff.mpr nd)) (fun k => by rw [pn.mem_iff, ← hm k]) ?_⟩
  · have q := k1 b u e
    have lt := Heap.lt_size q
    show (sortedHeap (s1.heap.push (seqObj "list" vs.toArray 0)) s1.heap.objs.size vs out.toArray).get? b = some u
    rw [sortedHeap_old (Nat.ne_of_lt lt) (by rw [size_push']; exact Nat.lt_succ_of_lt lt)]
    exact Heap.get?_push_of_some _ q
  · rw [pn.length_eq, List.length_map, Array.length_toList, ← len]
    exact hz2
end
section
variable {X : Cx}
/-- set(xs), xs a list of hin -/
def rSetOf (K : PySem.W.Frag) (w : World) : List V → Hp → VK → Prop := fun vs H Q => ∃ (l : Addr) (ns : List Int), vs = [V.ref l] ∧ SqL K H l (ns.map V.int) ∧ ns.length ≤ 4000 ∧
  ∀ (p : Addr) (c : Nat), H p = none → Q (.ref p) (upd H p (SetO w p (fun j => decide (j ∈ ns)) c))
theorem cr_setL (hc : X.calm = true) : CallR X (.type "set") (rSetOf X.K X.w) := by
  intro pins s σ H vs us Q I r h
  obtain ⟨l, ns, rfl, hs, hb, q⟩ := h
  obtain ⟨its, rv, pl, hz⟩ := I.list hs
  rw [Vals.ref1 r]
  refine set_of_ints ns (I.ok.hd hc) pl.isList (by simpa using rv.ints) (by show ns.length + 1 < 4096; omega) fun g tk c R _ kp => ?_
  have hn : H s.heap.objs.size = none := I.hok.fresh (Nat.le_refl _)
  exact ⟨.ref _, _, I.laid (t' := tk) kp (Nat.le_refl _) (setO_new R), rfl, q _ c hn⟩
/-- sorted(s), s a set of hin -/
def rSortedSetI (w : World) : List V → Hp → VK → Prop := fun vs H Q => ∃ (a : Addr) (S : Int → Bool) (n : Nat), vs = [V.ref a] ∧ H a = some (SetO w a S n) ∧
  ∀ (ns : List Int) (p : Addr), ns.Pairwise (· < ·) → (∀ k : Int, k ∈ ns ↔ S k = true) → H p = none → Q (.ref p) (upd H p (.lst (ns.map V.int)))
theorem cr_sortedSetI (hc : X.calm = true) : CallR X (.builtin "sorted") (rSortedSetI X.w) := by
  intro pins s σ H vs us Q I r h
  obtain ⟨a, S, n, rfl, ha, q⟩ := h
  rw [Vals.ref1 r]
  refine sorted_of_set (setO_get I ha) (I.ok.hd hc) fun s' p out c ns k g o hp hg hi hs hm hl => ?_
  have hn : H p = none := I.hok.fresh hp
  have len : (ns.map V.int).length ≤ sizeLine := by rw [List.length_map]; exact hl
  have J : Inv X pins σ (upd H p (.lst (ns.map V.int))) { s with heap := s'.heap, gens := s'.gens, drawn := s'.drawn, toks := s'.toks } :=
    I.call (ch := []) (Un.laid k hp hn) (I.hok.laid k hp ⟨len, out, c, vals_of_ints hi, hg⟩) (by rw [g]; exact I.bare) (fun _ z => nomatch z)
  have e : s' = { s with heap := s'.heap, gens := s'.gens, drawn := s'.drawn, toks := s'.toks } := by
    cases s'
    cases s
    cases o
    rfl
  rw [e]
  exact ⟨.ref p, _, J, rfl, q ns p hs hm hn⟩
/-- sorted(xs), xs a list of alike data: some arrangement of them -/
def rSortedD (K : PySem.W.Frag) : List V → Hp → VK → Prop := fun vs H Q => ∃ (a : Addr) (xs : List V) (ds : List PyData), vs = [V.ref a] ∧ SqL K H a xs ∧ DpAll K H xs ds ∧ PySem.W.AllAlike ds ∧ PySem.W.Sortable ds ∧ (∀ d ∈ ds, d.depth ≤ 10) ∧
  ∀ (ys : List V) (p : Addr), ys.Perm xs → H p = none → Q (.ref p) (upd H p (.lst ys))
theorem each_of_dp {pins : List (Addr × Obj)} {σ : L2.St} {H : Hp} {s : Shared} (I : Inv X pins σ H s) : ∀ {xs : List V} {ds : List PyData} {its : List Value}, DpAll X.K H xs ds → Vals xs its →
    ∃ bs : List (V × PyData), bs.map (·.1) = xs ∧ bs.map (·.2) = ds ∧ PySem.W.EachIs (fun (v : Value) (b : V × PyData) => RelV b.1 v) its bs ∧ PySem.W.EachIs (fun (v : Value) (b : V × PyData) => ∃ as, Reads s.heap v b.2 as) its bs
  | _, _, _, .nil, .nil => ⟨[], rfl, rfl, .nil, .nil⟩
  | _, _, _, .cons h t, .cons r rr => by
    obtain ⟨bs, e1, e2, e3, e4⟩ := each_of_dp I t rr
    exact ⟨(_, _) :: bs, by rw [List.map_cons, e1], by rw [List.map_cons, e2], .cons r e3, .cons (Dp.reads I _ _ _ h r) e4⟩
theorem vals_of_each : ∀ {out : List Value} {bs : List (V × PyData)}, PySem.W.EachIs (fun (v : Value) (b : V × PyData) => RelV b.1 v) out bs → Vals (bs.map (·.1)) out
  | _, _, .nil => .nil
  | _, _, .cons r t => .cons r (vals_of_each t)
theorem cr_sortedD (hu : X.A.units + 64 < cLine) : CallR X (.builtin "sorted") (rSortedD X.K) := by
  intro pins s σ H vs us Q I r h
  obtain ⟨a, xs, ds, rfl, hs, hd, al, so, dp, q⟩ := h
  obtain ⟨its, rv, pl, hz⟩ := I.list hs
  rw [Vals.ref1 r]
  obtain ⟨bs, rfl, rfl, e1, e2⟩ := each_of_dp I hd rv
  have lb : bs.length ≤ sizeLine := by rw [List.length_map] at hz; exact hz
  refine PySem.W.sorted_data (vs := its) (bs := bs) (enc := fun b => b.2) (R := fun v b => RelV b.1 v) pl.isList e1 e2 al so lb (fun b hb => ?_) fun out hl ho => ?_
  · have := dp b.2 (List.mem_map.mpr ⟨b, hb, rfl⟩)
    omega
  · have pm : ((bs.mergeSort (PySem.W.dataLe false fun b => b.2)).map (·.1)).Perm (bs.map (·.1)) := (List.mergeSort_perm _ _).map _
    obtain ⟨ep, he⟩ := PyProof.Rows.sortedAll_at s.heap its out.toArray
    have hl2 : ((bs.mergeSort (PySem.W.dataLe false fun b => b.2)).map (·.1)).length ≤ sizeLine := by rw [pm.length_eq]; exact hz
    exact ⟨.ref _, upd H (s.heap.objs.size + 1) (.lst _), I.laid (t' := s.toks) (fun _ _ => PyProof.Rows.sortedAll_old) (Nat.le_succ _) ⟨hl2, out, ep, vals_of_each ho, he⟩, rfl, q _ _ pm (I.hok.fresh (Nat.le_succ _))⟩
end
end Spn

namespace Spn
open PySem PySem.Spec PyProof.Rows L2
/-! ### short names of what rules ask -/
abbrev qAdd : R2 := rI0 fun i j => .int (i + j)
abbrev qSub : R2 := rI0 fun i j => .int (i - j)
abbrev qMul : R2 := rI CMul fun i j => .int (i * j)
abbrev qDiv : R2 := rI CDiv fun i j => .int (i / j)
abbrev qMod : R2 := rI (fun _ j => 0 < j) fun i j => .int (i % j)
abbrev qPow : R2 := rI CPow fun i j => .int (i ^ j.toNat)
abbrev qLt : R2 := rI0 fun i j => .bl (decide (i < j))
abbrev qLe : R2 := rI0 fun i j => .bl (decide (i ≤ j))
abbrev qGt : R2 := rI0 fun i j => .bl (decide (j < i))
abbrev qGe : R2 := rI0 fun i j => .bl (decide (j ≤ i))
abbrev qNeg : V → Hp → VK → Prop := rU fun i => .int (-i)
abbrev qAddI : TIp := ipI fun i j => i + j
abbrev qLen (K : PySem.W.Frag) : List V → Hp → VK → Prop := fun xs H Q => ∃ p ys, xs = [.ref p] ∧ (SqL K H p ys ∨ SqT K H p ys) ∧ Q (.int ys.length) H
abbrev qList (K : PySem.W.Frag) : List V → Hp → VK → Prop := fun xs H Q => ∃ p ys, xs = [.ref p] ∧ (SqL K H p ys ∨ SqT K H p ys) ∧ ∀ l, H l = none → Q (.ref l) (upd H l (.lst ys))
abbrev qMax2 : List V → Hp → VK → Prop := fun xs H Q => ∃ i j, xs = [.int i, .int j] ∧ Q (.int (if j > i then j else i)) H
abbrev qMin2 : List V → Hp → VK → Prop := fun xs H Q => ∃ i j, xs = [.int i, .int j] ∧ Q (.int (if j < i then j else i)) H
abbrev qAbs : List V → Hp → VK → Prop := fun xs H Q => ∃ i, xs = [.int i] ∧ Q (.int (if i < 0 then -i else i)) H
abbrev tTru (K : PySem.W.Frag) (ta : TE) : TT := fun σ H Q => ta σ H fun x H' => ∃ k, TruV K x H' k ∧ Q k H'
/-! ### paired lists -/
theorem Paired.getL {α β : Type} {F : α → β → Prop} : ∀ {xs : List α} {ys : List β}, Paired F xs ys → ∀ {i : Nat} {y : β}, ys[i]? = some y → ∃ x, xs[i]? = some x ∧ F x y
  | _, _, .nil, i, y, h => by simp at h
  | _, _, .cons r t, 0, y, h => by
    have e := Option.some.inj h
    subst e
    exact ⟨_, rfl, r⟩
  | _, _, .cons r t, i + 1, y, h => Paired.getL t (i := i) h
theorem Paired.getR {α β : Type} {F : α → β → Prop} : ∀ {xs : List α} {ys : List β}, Paired F xs ys → ∀ {i : Nat} {x : α}, xs[i]? = some x → ∃ y, ys[i]? = some y ∧ F x y
  | _, _, .nil, i, y, h => by simp at h
  | _, _, .cons r t, 0, y, h => by
    have e := Option.some.inj h
    subst e
    exact ⟨_, rfl, r⟩
  | _, _, .cons r t, i + 1, y, h => Paired.getR t (i := i) h
theorem Paired.app {α β : Type} {F : α → β → Prop} : ∀ {xs xs' : List α} {ys ys' : List β}, Paired F xs ys → Paired F xs' ys' → Paired F (xs ++ xs') (ys ++ ys')
  | _, _, _, _, .nil, s => s
  | _, _, _, _, .cons r t, s => .cons r (Paired.app t s)
theorem Paired.rev {α β : Type} {F : α → β → Prop} : ∀ {xs : List α} {ys : List β}, Paired F xs ys → Paired F xs.reverse ys.reverse
  | _, _, .nil => .nil
  | _, _, .cons r t => by
    rw [List.reverse_cons, List.reverse_cons]
    exact Paired.app (Paired.rev t) (.cons r .nil)
theorem Paired.dropP {α β : Type} {F : α → β → Prop} : ∀ {xs : List α} {ys : List β} (n : Nat), Paired F xs ys → Paired F (xs.drop n) (ys.drop n)
  | _, _, 0, r => r
  | _, _, _ + 1, .nil => .nil
  | _, _, n + 1, .cons _ t => Paired.dropP n t
theorem Paired.takeP {α β : Type} {F : α → β → Prop} : ∀ {xs : List α} {ys : List β} (n : Nat), Paired F xs ys → Paired F (xs.take n) (ys.take n)
  | _, _, 0, _ => .nil
  | _, _, _ + 1, .nil => .nil
  | _, _, n + 1, .cons r t => .cons r (Paired.takeP n t)
theorem Paired.ofMap {α β : Type} {F : α → β → Prop} {f : β → α} (h : ∀ b, F (f b) b) : ∀ ys : List β, Paired F (ys.map f) ys
  | [] => .nil
  | y :: r => .cons (h y) (Paired.ofMap h r)
theorem Same.tup {K : PySem.W.Frag} {H H' : Hp} {a : Addr} {xs : List V} (e : Same H H') (h : SqT K H a xs) : SqT K H' a xs := by
  rcases h with (h | ⟨o, h⟩) | h
  · exact .inl (.inl (e _ _ h))
  · exact .inl (.inr ⟨o, e _ _ h⟩)
  · exact .inr h
def tShrT (t : TT) : TT := fun σ H Q => t σ H fun v H' => ∃ H'', Shr H H'' H' ∧ Q v H''
theorem pt_shr {X : Cx} {e : Expr} {t : TT} (h : PT X e t) : PT X e (tShrT t) := by
  refine ⟨fun pins s σ H Q I q => ?_⟩
  refine thn (h.run pins s σ H _ I q) fun u s1 ⟨H', I', H'', S, z⟩ => ?_
  exact ⟨H'', Inv.shrink I I' S, z⟩
theorem Same.upd {H : Hp} {p : Addr} {o : HO} (h : H p = none) : Same H (upd H p o) := fun b u e => by rw [upd_ne (ne_of_none e h)]; exact e
theorem Same.upd2 {H H' : Hp} {p : Addr} {o : HO} (s : Same H H') (h : H' p = none) : Same H (L2.upd H' p o) := fun b u e => by rw [upd_ne (ne_of_none (s b u e) h)]; exact s b u e
/-! ### requests, tolls, ints on the heap -/
def r3 (r : Rq) : List V := [.int r.1, .int r.2.1, .int r.2.2]
def t2 (t : Int × Int) : List V := [.int t.1, .int t.2]
def IsR (H : Hp) (v : V) (r : Rq) : Prop := ∃ t, v = .ref t ∧ H t = some (.tup (r3 r))
def IsP (H : Hp) (v : V) (r : Int × Int) : Prop := ∃ t, v = .ref t ∧ H t = some (.tup (t2 r))
def ReqsAt (H : Hp) (a : Addr) (rs : List Rq) : Prop := ∃ vs, H a = some (.lst vs) ∧ Paired (IsR H) vs rs
def TollsAt (H : Hp) (a : Addr) (τ : List (Int × Int)) : Prop := ∃ vs, H a = some (.lst vs) ∧ Paired (IsP H) vs τ
abbrev IntsAt (H : Hp) (a : Addr) (ns : List Int) : Prop := H a = some (.lst (ns.map V.int))
theorem IsR.same {H H' : Hp} {v : V} {r : Rq} (h : IsR H v r) (s : Same H H') : IsR H' v r := by
  obtain ⟨t, e, h⟩ := h
  exact ⟨t, e, s _ _ h⟩
theorem IsP.same {H H' : Hp} {v : V} {r : Int × Int} (h : IsP H v r) (s : Same H H') : IsP H' v r := by
  obtain ⟨t, e, h⟩ := h
  exact ⟨t, e, s _ _ h⟩
theorem ReqsAt.same {H H' : Hp} {a : Addr} {rs : List Rq} (h : ReqsAt H a rs) (s : Same H H') : ReqsAt H' a rs := by
  obtain ⟨vs, e, h⟩ := h
  exact ⟨vs, s _ _ e, h.mono fun _ _ q => q.same s⟩
theorem TollsAt.same {H H' : Hp} {a : Addr} {rs : List (Int × Int)} (h : TollsAt H a rs) (s : Same H H') : TollsAt H' a rs := by
  obtain ⟨vs, e, h⟩ := h
  exact ⟨vs, s _ _ e, h.mono fun _ _ q => q.same s⟩
theorem at_int {xs : List V} {z : Int} {v : V} (h0 : 0 ≤ z) (h : xs[z.toNat]? = some v) : atI xs z = some v := at_of (j := z.toNat) (by omega) h
theorem getR_some {rs : List Rq} {a : Int} (h0 : 0 ≤ a) (h1 : a < rs.length) : rs[a.toNat]? = some (getR rs a) := by
  unfold getR
  rw [List.getD_eq_getElem?_getD, List.getElem?_eq_getElem (by omega : a.toNat < rs.length)]
  rfl
/-- requests[at] -/
theorem rd_req {H : Hp} {a : Addr} {rs : List Rq} {n : Int} (h : ReqsAt H a rs) (h0 : 0 ≤ n) (h1 : n < rs.length) : ∃ (vs : List V) (t : Addr), H a = some (.lst vs) ∧ atI vs n = some (.ref t) ∧ H t = some (.tup (r3 (getR rs n))) := by
  obtain ⟨vs, e, p⟩ := h
  obtain ⟨x, hx, t, rfl, q⟩ := Paired.getL p (getR_some h0 h1)
  exact ⟨vs, t, e, at_int h0 hx, q⟩
/-- requests[at][k] -/
theorem rd_part {K : PySem.W.Frag} {H : Hp} {a : Addr} {rs : List Rq} {n : Int} {ta ti : TE} {σ : L2.St} {Q : VK} (k : Nat) {z : V} (h : ReqsAt H a rs) (h0 : 0 ≤ n) (h1 : n < rs.length) (hk : (r3 (getR rs n))[k]? = some z)
    (ea : ∀ Q : VK, Q (.ref a) H → ta σ H Q) (ei : ∀ Q : VK, Q (.int n) H → ti σ H Q) (q : Q z H) : tOp (rIxT K) (tOp (rIxL K) ta ti) (tC (.int (k : Int))) σ H Q := by
  obtain ⟨vs, t, e, i, c⟩ := rd_req h h0 h1
  exact ea _ (ei _ ⟨_, _, _, _, rfl, rfl, SqL.of e, i, _, _, _, _, rfl, rfl, SqT.of c, atI_nat hk, q⟩)
theorem ReqsAt.len {H : Hp} {a : Addr} {rs : List Rq} (h : ReqsAt H a rs) : ∃ vs, H a = some (.lst vs) ∧ vs.length = rs.length := by
  obtain ⟨vs, e, p⟩ := h
  exact ⟨vs, e, p.length⟩
/-! ### comprehensions whose turns leave the heap as it is -/
section
variable {K : PySem.W.Frag} {a : Addr} {xs : List V} {g : TG} {tt : TT} {te : TE} {vs : List Nat} {σ : L2.St} {H1 : Hp} {D : Addr} {Qd : Hp → Prop} {α : Type} {R : V → α → Prop}
theorem take_snoc {β : Type} : ∀ {l : List β} {i : Nat} {x : β}, l[i]? = some x → l.take (i + 1) = l.take i ++ [x]
  | [], i, x, h => by simp at h
  | b :: l, 0, x, h => by
    have e := Option.some.inj h
    subst e
    rfl
  | b :: l, i + 1, x, h => by
    rw [List.take_succ_cons, take_snoc (l := l) (i := i) h]
    rfl
/-- over a list that stands still: f tells what is added at an item, none: nothing -/
theorem lc_fm (ys : List α) (f : α → Option V) (hs : SqL K H1 a xs) (hp : Paired R xs ys) (hz : ys.length ≤ sizeLine) (hD : H1 D = none)
    (turn : ∀ x y acc (Nx : Hp → Prop), R x y → y ∈ ys → (∀ z, f y = some z → ∃ acc', (upd H1 D (.lst acc)) D = some (.lst acc') ∧ acc'.length < sizeLine ∧ Nx (upd (upd H1 D (.lst acc)) D (.lst (acc' ++ [z])))) → (f y = none → Nx (upd H1 D (.lst acc))) →
      g x (wipe σ vs) (upd H1 D (.lst acc)) fun σ2 H2 => wipe σ2 vs = wipe σ vs ∧ tt σ2 H2 fun b H3 =>
        if b = true then te σ2 H3 fun y H4 => ∃ acc, H4 D = some (.lst acc) ∧ acc.length < sizeLine ∧ Nx (upd H4 D (.lst (acc ++ [y]))) else Nx H3)
    (fin : Qd (upd H1 D (.lst (ys.filterMap f)))) :
    ∃ W : Nat → Nat → Hp → Prop, (∃ m, W 0 m (upd H1 D (.lst []))) ∧ ∀ i m H, W i m H →
      ((Itl K a).stop i H ∧ Qd H) ∨ ((Itl K a).go i H ∧ ∃ Nx : Hp → Prop, (∀ H', Nx H' → ∃ m', m' < m ∧ W (i + 1) m' H') ∧ ∀ x H', (Itl K a).yld i H x H' → g x (wipe σ vs) H' fun σ2 H2 => wipe σ2 vs = wipe σ vs ∧ tt σ2 H2 fun b H3 =>
        if b = true then te σ2 H3 fun y H4 => ∃ acc, H4 D = some (.lst acc) ∧ acc.length < sizeLine ∧ Nx (upd H4 D (.lst (acc ++ [y]))) else Nx H3) := by
  refine lc_list (K := K) (a := a) (xs := xs) (fun i H => H = upd H1 D (.lst ((ys.take i).filterMap f))) rfl (fun i H _ e => by rw [e]; exact (Same.upd hD).seq hs) ?_ fun H e => ?_
  · rintro i x H hx rfl
    obtain ⟨y, hy, r⟩ := Paired.getR hp hx
    have ym : y ∈ ys := List.mem_of_getElem? hy
    have il : i < ys.length := (List.getElem?_eq_some_iff.mp hy).1
    refine turn x y _ (fun H => H = upd H1 D (.lst ((ys.take (i + 1)).filterMap f))) r ym (fun z e => ⟨_, upd_same, ?_, ?_⟩) fun e => ?_
    · refine Nat.lt_of_le_of_lt (List.length_filterMap_le _ _) ?_
      rw [List.length_take]
      omega
    · show _ = _
      rw [upd_upd, take_snoc hy, List.filterMap_append]
      simp [e]
    · show _ = _
      rw [take_snoc hy, List.filterMap_append]
      simp [e]
  · rw [e, show (ys.take xs.length) = ys by rw [hp.length, List.take_length]]
    exact fin
/-- .. over a tuple -/
theorem lc_fmT (ys : List α) (f : α → Option V) (hs : SqT K H1 a xs) (hp : Paired R xs ys) (hz : ys.length ≤ sizeLine) (hD : H1 D = none)
    (turn : ∀ x y acc (Nx : Hp → Prop), R x y → y ∈ ys → (∀ z, f y = some z → ∃ acc', (upd H1 D (.lst acc)) D = some (.lst acc') ∧ acc'.length < sizeLine ∧ Nx (upd (upd H1 D (.lst acc)) D (.lst (acc' ++ [z])))) → (f y = none → Nx (upd H1 D (.lst acc))) →
      g x (wipe σ vs) (upd H1 D (.lst acc)) fun σ2 H2 => wipe σ2 vs = wipe σ vs ∧ tt σ2 H2 fun b H3 =>
        if b = true then te σ2 H3 fun y H4 => ∃ acc, H4 D = some (.lst acc) ∧ acc.length < sizeLine ∧ Nx (upd H4 D (.lst (acc ++ [y]))) else Nx H3)
    (fin : Qd (upd H1 D (.lst (ys.filterMap f)))) :
    ∃ W : Nat → Nat → Hp → Prop, (∃ m, W 0 m (upd H1 D (.lst []))) ∧ ∀ i m H, W i m H →
      ((Itt K a).stop i H ∧ Qd H) ∨ ((Itt K a).go i H ∧ ∃ Nx : Hp → Prop, (∀ H', Nx H' → ∃ m', m' < m ∧ W (i + 1) m' H') ∧ ∀ x H', (Itt K a).yld i H x H' → g x (wipe σ vs) H' fun σ2 H2 => wipe σ2 vs = wipe σ vs ∧ tt σ2 H2 fun b H3 =>
        if b = true then te σ2 H3 fun y H4 => ∃ acc, H4 D = some (.lst acc) ∧ acc.length < sizeLine ∧ Nx (upd H4 D (.lst (acc ++ [y]))) else Nx H3) := by
  refine lc_tup (K := K) (a := a) (xs := xs) (fun i H => H = upd H1 D (.lst ((ys.take i).filterMap f))) rfl (fun i H _ e => by rw [e]; exact Same.tup (Same.upd hD) hs) ?_ fun H e => ?_
  · rintro i x H hx rfl
    obtain ⟨y, hy, r⟩ := Paired.getR hp hx
    have ym : y ∈ ys := List.mem_of_getElem? hy
    have il : i < ys.length := (List.getElem?_eq_some_iff.mp hy).1
    refine turn x y _ (fun H => H = upd H1 D (.lst ((ys.take (i + 1)).filterMap f))) r ym (fun z e => ⟨_, upd_same, ?_, ?_⟩) fun e => ?_
    · refine Nat.lt_of_le_of_lt (List.length_filterMap_le _ _) ?_
      rw [List.length_take]
      omega
    · show _ = _
      rw [upd_upd, take_snoc hy, List.filterMap_append]
      simp [e]
    · show _ = _
      rw [take_snoc hy, List.filterMap_append]
      simp [e]
  · rw [e, show (ys.take xs.length) = ys by rw [hp.length, List.take_length]]
    exact fin
/-- .. over a range from nought -/
theorem lc_fmR {lo : Int} {n : Nat} (f : Nat → Option V) (hz : n ≤ sizeLine) (hD : H1 D = none)
    (turn : ∀ i acc (Nx : Hp → Prop), i < n → (∀ z, f i = some z → ∃ acc', (upd H1 D (.lst acc)) D = some (.lst acc') ∧ acc'.length < sizeLine ∧ Nx (upd (upd H1 D (.lst acc)) D (.lst (acc' ++ [z])))) → (f i = none → Nx (upd H1 D (.lst acc))) →
      g (.int (lo + i)) (wipe σ vs) (upd H1 D (.lst acc)) fun σ2 H2 => wipe σ2 vs = wipe σ vs ∧ tt σ2 H2 fun b H3 =>
        if b = true then te σ2 H3 fun y H4 => ∃ acc, H4 D = some (.lst acc) ∧ acc.length < sizeLine ∧ Nx (upd H4 D (.lst (acc ++ [y]))) else Nx H3)
    (fin : Qd (upd H1 D (.lst ((List.range n).filterMap f)))) :
    ∃ W : Nat → Nat → Hp → Prop, (∃ m, W 0 m (upd H1 D (.lst []))) ∧ ∀ i m H, W i m H →
      ((Itr lo n).stop i H ∧ Qd H) ∨ ((Itr lo n).go i H ∧ ∃ Nx : Hp → Prop, (∀ H', Nx H' → ∃ m', m' < m ∧ W (i + 1) m' H') ∧ ∀ x H', (Itr lo n).yld i H x H' → g x (wipe σ vs) H' fun σ2 H2 => wipe σ2 vs = wipe σ vs ∧ tt σ2 H2 fun b H3 =>
        if b = true then te σ2 H3 fun y H4 => ∃ acc, H4 D = some (.lst acc) ∧ acc.length < sizeLine ∧ Nx (upd H4 D (.lst (acc ++ [y]))) else Nx H3) := by
  refine lc_range (lo := lo) (n := n) (fun i H => H = upd H1 D (.lst ((List.range i).filterMap f))) rfl ?_ fun H e => by rw [e]; exact fin
  rintro i H hi rfl
  refine turn i _ (fun H => H = upd H1 D (.lst ((List.range (i + 1)).filterMap f))) hi (fun z e => ⟨_, upd_same, ?_, ?_⟩) fun e => ?_
  · refine Nat.lt_of_le_of_lt (List.length_filterMap_le _ _) ?_
    rw [List.length_range]
    omega
  · show _ = _
    rw [upd_upd, List.range_succ, List.filterMap_append]
    simp [e]
  · show _ = _
    rw [List.range_succ, List.filterMap_append]
    simp [e]
theorem fm_map {β : Type} (p : α → β) (c : β → V) (ys : List α) : ys.filterMap (fun y => some (c (p y))) = (ys.map p).map c := by
  induction ys with
  | nil => rfl
  | cons y r ih => simp [ih]
theorem fm_filter (p : α → Bool) (c : α → V) (ys : List α) : ys.filterMap (fun y => if p y = true then some (c y) else none) = (ys.filter p).map c := by
  induction ys with
  | nil => rfl
  | cons y r ih =>
    rw [List.filterMap_cons, List.filter_cons]
    by_cases h : p y = true
    · simp [h, ih]
    · simp [h, ih]
end
end Spn

local macro_rules | `(tactic| walk_at "rd") => `(tactic| simp only [L2.tVar, L2.tC, L2.tCons, L2.tNil, L2.tOp, L2.tUn, L2.tCB, L2.tAndV, L2.tOrV, L2.tNotV, L2.tAnd, L2.tOr, L2.tNot, L2.tB, L2.tTest, L2.tChain, L2.tRet, L2.tAsg, L2.gName, L2.tNext, L2.tDrop, L2.tCall, L2.tTup, L2.tLst, L2.tIsN, L2.tNotN, L2.tIf, L2.tBM, L2.tBM0, L2.tSl, L2.tPart, L2.tNoPart, L2.tYes, L2.wipe, Spn.tShr, Spn.tShrT,
  L2.rI, L2.rI0, L2.rU, L2.ipI, L2.tAug, L2.tPar, L2.start, List.map_cons, List.map_nil, List.length_cons, List.length_nil, List.cons_append, List.nil_append, List.append_nil, List.getElem?_cons_zero, List.getElem?_cons_succ, List.set_cons_zero, List.set_cons_succ, List.replicate, Nat.reduceAdd, Nat.reduceSub,
  Option.some.injEq, L2.V.int.injEq, L2.V.bl.injEq, L2.V.ref.injEq, L2.V.str.injEq, exists_eq_left', exists_eq_left, exists_eq_right', exists_eq_right, and_true, true_and, exists_and_left, exists_and_right, Bool.not_true, Bool.not_false, decide_eq_true_eq, if_true, if_false, Bool.false_eq_true, ite_true, ite_false, reduceIte])

namespace Spn
open PySem PySem.Spec PyProof.Rows L2
/-! ### what the defs promise: requests, choices, tolls -/
/-- whether it is a whole number -/
def IsWh (H : Hp) (v : V) (b : Bool) : Prop :=
  ((∃ i, v = .int i) ∧ b = true) ∨ (((∃ x, v = .bl x) ∨ v = .non ∨ (∃ x, v = .str x) ∨ (∃ a xs, v = .ref a ∧ H a = some (.lst xs)) ∨ (∃ a xs, v = .ref a ∧ H a = some (.tup xs))) ∧ b = false)
theorem IsWh.int {H : Hp} {i : Int} : IsWh H (.int i) true := .inl ⟨⟨i, rfl⟩, rfl⟩
def sp_is_whole (K : PySem.W.Frag) (w : World) : Sp := fun vs H Q _ => ∃ v b, vs = [v] ∧ IsWh H v b ∧ NoT H ∧ Q (.bl b) H
def sp_is_request (K : PySem.W.Frag) (w : World) : Sp := fun vs H Q _ => ∃ v r, vs = [v] ∧ IsR H v r ∧ NoT H ∧ Q (.bl (decide (r.1 ≤ r.2.1) && decide (0 ≤ r.2.2))) H
def sp_check_requests (K : PySem.W.Frag) (w : World) : Sp := fun vs H Q _ => ∃ a rs, vs = [.ref a] ∧ ReqsAt H a rs ∧ OkR rs ∧ rs.length ≤ 1000 ∧ NoT H ∧ Q .non H
def sp_check_rooms (K : PySem.W.Frag) (w : World) : Sp := fun vs H Q _ => ∃ m l : Int, vs = [.int m, .int l] ∧ l ≤ m ∧ NoT H ∧ Q .non H
/-- counts of requests -/
def InR (n : Nat) (ns : List Int) : Prop := ∀ z ∈ ns, 0 ≤ z ∧ z < n
def sp_for_day (K : PySem.W.Frag) (w : World) : Sp := fun vs H Q _ => ∃ a b d rs ns, vs = [.ref a, .ref b, .int d] ∧ ReqsAt H a rs ∧ IntsAt H b ns ∧ InR rs.length ns ∧ ns.length ≤ 1000 ∧ NoT H ∧
  ∀ p, H p = none → Q (.ref p) (upd H p (.lst ((forDay rs ns d).map V.int)))
def sp_is_choice (K : PySem.W.Frag) (w : World) : Sp := fun vs H Q _ => ∃ a b rs ns, vs = [.ref a, .ref b] ∧ ReqsAt H a rs ∧ IntsAt H b ns ∧ NoT H ∧ Q (.bl (isChoice rs.length ns)) H
def sp_fits (K : PySem.W.Frag) (w : World) : Sp := fun vs H Q _ => ∃ a k b rs ns, vs = [.ref a, .int k, .ref b] ∧ ReqsAt H a rs ∧ IntsAt H b ns ∧ InR rs.length ns ∧ ns.length ≤ 1000 ∧ NoT H ∧ Q (.bl (fits rs k ns)) H
def sp_are_tolls (K : PySem.W.Frag) (w : World) : Sp := fun vs H Q _ => ∃ a τ, vs = [.ref a] ∧ TollsAt H a τ ∧ τ.length ≤ 1000 ∧ NoT H ∧ Q (.bl (areTolls τ)) H
def sp_worth_of (K : PySem.W.Frag) (w : World) : Sp := fun vs H Q _ => ∃ a b rs ns, vs = [.ref a, .ref b] ∧ ReqsAt H a rs ∧ IntsAt H b ns ∧ InR rs.length ns ∧ ns.length ≤ 1000 ∧ NoT H ∧ Q (.int (worth rs ns)) H
def sp_bound_by (K : PySem.W.Frag) (w : World) : Sp := fun vs H Q _ => ∃ a k b rs τ, vs = [.ref a, .int k, .ref b] ∧ ReqsAt H a rs ∧ TollsAt H b τ ∧ rs.length ≤ 1000 ∧ τ.length ≤ 1000 ∧ (-(2 ^ 64) < k ∧ k < 2 ^ 64) ∧ NoT H ∧ Q (.int (bound rs k τ)) H
def sp_is_best (K : PySem.W.Frag) (w : World) : Sp := fun vs H Q _ => ∃ a k b c rs ns τ, vs = [.ref a, .int k, .ref b, .ref c] ∧ ReqsAt H a rs ∧ IntsAt H b ns ∧ TollsAt H c τ ∧ rs.length ≤ 1000 ∧ ns.length ≤ 1000 ∧ τ.length ≤ 1000 ∧ (-(2 ^ 64) < k ∧ k < 2 ^ 64) ∧ NoT H ∧ Q (.bl (isBest rs k ns τ)) H
/-! ### answers -/
def bestF (p q : Addr) : List (Str × V) := [("taken", .ref p), ("tolls", .ref q)]
/-- a Best at x, as it stands -/
def BestAt (K : PySem.W.Frag) (H : Hp) (x p q : Addr) (ns : List Int) (τ : List (Int × Int)) : Prop := (∃ dx, H x = some (.ins (He.ga K "Best") dx (bestF p q))) ∧ IntsAt H p ns ∧ TollsAt H q τ
/-- a Best that is just made -/
def BestNew (K : PySem.W.Frag) (H H' : Hp) (x p q : Addr) (ns : List Int) (τ : List (Int × Int)) : Prop := Same H H' ∧ NoT H' ∧ H x = none ∧ H p = none ∧ H q = none ∧ p ≠ q ∧ BestAt K H' x p q ns τ
def sp_Best___init__ (K : PySem.W.Frag) (w : World) : Sp := fun vs H Q _ => ∃ x dx a b ts us, vs = [.ref x, .ref a, .ref b] ∧ H x = some (.ins (He.ga K "Best") dx []) ∧ H a = some (.lst ts) ∧ H b = some (.lst us) ∧ NoT H ∧
  ∀ H' p q, H p = none → H q = none → p ≠ q → H' x = some (.ins (He.ga K "Best") dx (bestF p q)) → H' p = some (.lst ts) → H' q = some (.lst us) → (∀ b o, H b = some o → b ≠ x → H' b = some o) → NoT H' → Q .non H'
def sp_Best_shows (K : PySem.W.Frag) (w : World) : Sp := fun vs H Q _ => ∃ x p q a k rs ns τ, vs = [.ref x, .ref a, .int k] ∧ BestAt K H x p q ns τ ∧ ReqsAt H a rs ∧ rs.length ≤ 1000 ∧ ns.length ≤ 1000 ∧ τ.length ≤ 1000 ∧ (-(2 ^ 64) < k ∧ k < 2 ^ 64) ∧ NoT H ∧
  Q (.bl (isBest rs k ns τ)) H
end Spn

namespace Spn
open PySem PySem.Spec PyProof.Rows L2
/-! ### readings -/
/-- is_whole -/
def t_is_whole (K : PySem.W.Frag) (w : World) : TS :=
  (tRet (tAndV (tCB (rIsi K) (tCons (tVar 0) (tCons (tC (.ty "int")) tNil))) (tNotV (tCB (rIsi K) (tCons (tVar 0) (tCons (tC (.ty "bool")) tNil))))))

/-- is_request -/
def t_is_request (K : PySem.W.Frag) (w : World) : TS :=
  (tSeq (tIfS (tOr (tNot (tB (tCB (rIsi K) (tCons (tVar 0) (tCons (tC (.ty "tuple")) tNil))))) (tOr (tTest (tOp rNe (tCB (qLen K) (tCons (tVar 0) tNil)) (tC (.int 3)))) (tNot (tB (tCB (rAll K) (tCons (tLc (iTup K (tVar 0)) (gName 1) tYes (tCall (sp_is_whole K w) [] E0 (tCons (tVar 1) tNil)) [1]) tNil)))))) (tRet (tC (.bl false))) tNext)
  (tRet (tAndV (tOp qLe (tOp (rIxT K) (tVar 0) (tC (.int 0))) (tOp (rIxT K) (tVar 0) (tC (.int 1)))) (tOp qGe (tOp (rIxT K) (tVar 0) (tC (.int 2))) (tC (.int 0))))))

/-- check_requests -/
def t_check_requests (K : PySem.W.Frag) (w : World) : TS :=
  (tIfS (tOr (tNot (tB (tCB (rIsi K) (tCons (tVar 0) (tCons (tC (.ty "list")) tNil))))) (tNot (tB (tCB (rAll K) (tCons (tLc (iList K (tVar 0)) (gName 1) tYes (tCall (sp_is_request K w) [] E0 (tCons (tVar 1) tNil)) [1]) tNil))))) tNever tNext)

/-- check_rooms -/
def t_check_rooms (K : PySem.W.Frag) (w : World) : TS :=
  (tIfS (tOr (tNot (tB (tCall (sp_is_whole K w) [] E0 (tCons (tVar 0) tNil)))) (tTest (tOp qLt (tVar 0) (tVar 1)))) tNever tNext)

/-- for_day -/
def t_for_day (K : PySem.W.Frag) (w : World) : TS :=
  (tRet (tLc (iList K (tVar 1)) (gName 3) (tTest (tChain qLe qLe (tOp (rIxT K) (tOp (rIxL K) (tVar 0) (tVar 3)) (tC (.int 0))) (tVar 2) (tOp (rIxT K) (tOp (rIxL K) (tVar 0) (tVar 3)) (tC (.int 1))))) (tVar 3) [3]))

/-- is_choice -/
def t_is_choice (K : PySem.W.Frag) (w : World) : TS :=
  (tSeq (tAsg (tUn qNeg (tC (.int 1))) (gName 2))
  (tSeq (tFor (iList K (tVar 1)) (gName 3) (tSeq (tIfS (tOr (tNot (tB (tCall (sp_is_whole K w) [] E0 (tCons (tVar 3) tNil)))) (tNot (tTest (tChain qLt qLt (tVar 2) (tVar 3) (tCB (qLen K) (tCons (tVar 0) tNil)))))) (tRet (tC (.bl false))) tNext)
  (tAsg (tVar 3) (gName 2))))
  (tRet (tC (.bl true)))))

/-- fits -/
def t_fits (K : PySem.W.Frag) (w : World) : TS :=
  (tRet (tCB (rAll K) (tCons (tLc (iList K (tVar 2)) (gName 3) tYes (tShr (tOp qLe (tCB (qLen K) (tCons (tCall (sp_for_day K w) [] E0 (tCons (tVar 0) (tCons (tVar 2) (tCons (tOp (rIxT K) (tOp (rIxL K) (tVar 0) (tVar 3)) (tC (.int 0))) tNil)))) tNil)) (tVar 1))) [3]) tNil)))

/-- are_tolls -/
def t_are_tolls (K : PySem.W.Frag) (w : World) : TS :=
  (tSeq (tIfS (tNot (tB (tCB (rAll K) (tCons (tLc (iList K (tVar 0)) (gTup K 2 (gCons (gName 2) (gCons (gName 3) gNil))) tYes (tAndV (tCall (sp_is_whole K w) [] E0 (tCons (tVar 2) tNil)) (tAndV (tCall (sp_is_whole K w) [] E0 (tCons (tVar 3) tNil)) (tOp qGe (tVar 3) (tC (.int 0))))) [2, 3]) tNil)))) (tRet (tC (.bl false))) tNext)
  (tRet (tCB (rAll K) (tCons (tLc (iRng2 (tCons (tC (.int 1)) (tCons (tCB (qLen K) (tCons (tVar 0) tNil)) tNil))) (gName 1) tYes (tOp qLt (tOp (rIxT K) (tOp (rIxL K) (tVar 0) (tOp qSub (tVar 1) (tC (.int 1)))) (tC (.int 0))) (tOp (rIxT K) (tOp (rIxL K) (tVar 0) (tVar 1)) (tC (.int 0)))) [1]) tNil))))

/-- worth_of -/
def t_worth_of (K : PySem.W.Frag) (w : World) : TS :=
  (tRet (tCB (rSum K) (tCons (tLc (iList K (tVar 1)) (gName 2) tYes (tOp (rIxT K) (tOp (rIxL K) (tVar 0) (tVar 2)) (tC (.int 2))) [2]) tNil)))

/-- bound_by -/
def t_bound_by (K : PySem.W.Frag) (w : World) : TS :=
  (tSeq (tAsg (tOp qMul (tVar 1) (tCB (rSum K) (tCons (tLc (iList K (tVar 2)) (gTup K 2 (gCons (gName 8) (gCons (gName 9) gNil))) tYes (tVar 9) [8, 9]) tNil))) (gName 3))
  (tSeq (tFor (iList K (tVar 0)) (gTup K 3 (gCons (gName 4) (gCons (gName 5) (gCons (gName 6) gNil)))) (tSeq (tAsg (tCB (rSum K) (tCons (tLc (iList K (tVar 2)) (gTup K 2 (gCons (gName 8) (gCons (gName 9) gNil))) (tTest (tChain qLe qLe (tVar 4) (tVar 8) (tVar 5))) (tVar 9) [8, 9]) tNil)) (gName 7))
  (tAug 3 (tCB qMax2 (tCons (tC (.int 0)) (tCons (tOp qSub (tVar 6) (tVar 7)) tNil))) qAddI)))
  (tRet (tVar 3))))

/-- is_best -/
def t_is_best (K : PySem.W.Frag) (w : World) : TS :=
  (tSeq (tIfS (tOr (tNot (tB (tCall (sp_is_choice K w) [] E0 (tCons (tVar 0) (tCons (tVar 2) tNil))))) (tOr (tNot (tB (tCall (sp_fits K w) [] E0 (tCons (tVar 0) (tCons (tVar 1) (tCons (tVar 2) tNil)))))) (tNot (tB (tCall (sp_are_tolls K w) [] E0 (tCons (tVar 3) tNil)))))) (tRet (tC (.bl false))) tNext)
  (tRet (tOp rEq (tCall (sp_worth_of K w) [] E0 (tCons (tVar 0) (tCons (tVar 2) tNil))) (tCall (sp_bound_by K w) [] E0 (tCons (tVar 0) (tCons (tVar 1) (tCons (tVar 3) tNil)))))))

/-- Best.__init__ -/
def t_Best___init__ (K : PySem.W.Frag) (w : World) : TS :=
  (tSeq (sFld K (tVar 0) (tCB (qList K) (tCons (tVar 1) tNil)) "taken")
  (sFld K (tVar 0) (tCB (qList K) (tCons (tVar 2) tNil)) "tolls"))

/-- Best.shows -/
def t_Best_shows (K : PySem.W.Frag) (w : World) : TS :=
  (tRet (tCall (sp_is_best K w) [] E0 (tCons (tVar 1) (tCons (tVar 2) (tCons (tFld K (tVar 0) "taken") (tCons (tFld K (tVar 0) "tolls") tNil))))))

end Spn

namespace Spn
open PySem PySem.Spec PyProof.Rows L2
abbrev Fin (H : Hp) (Q Q0 : VK) : Prop := ∀ v H' H'', Shr H H'' H' → Q v H'' → Q0 v H'
theorem Fin.same {H : Hp} {Q Q0 : VK} (fin : Fin H Q Q0) (n : NoT H) {v : V} {H' : Hp} (s : Same H H') (q : Q v H) : Q0 v H' := fin _ _ _ (Shr.none n s) q
/-- the end of a def's body -/
abbrev endS (Q0 : VK) : Ends := { nx := fun _ H' => Q0 .non H', rt := Q0 }
theorem seq_i {t u : TS} {D : Ends} {σ : L2.St} {H : Hp} (h : ∀ nx : L2.St → Hp → Prop, (∀ σ' H', u D σ' H' → nx σ' H') → t { D with nx := nx } σ H) : tSeq t u D σ H := h (u D) (fun _ _ h => h)
theorem if_i {c : TT} {t u : TS} {D : Ends} {σ : L2.St} {H : Hp} (h : ∀ th el : Hp → Prop, (∀ H1, t D σ H1 → th H1) → (∀ H1, u D σ H1 → el H1) → c σ H fun b H1 => if b = true then th H1 else el H1) : tIfS c t u D σ H := h _ _ (fun _ h => h) (fun _ h => h)
section
variable {K : PySem.W.Frag} {w : World} {vs : List V} {H : Hp} {Q Q0 : VK} {E : XK}
/-! ### comprehensions as expressions -/
section
variable {a : Addr} {xs : List V} {g : TG} {tt : TT} {te : TE} {vs : List Nat} {σ : L2.St} {α : Type} {R : V → α → Prop} {ta : TE}
theorem tLc_list (ys : List α) (f : α → Option V) (ea : ∀ R : VK, R (.ref a) H → ta σ H R) (hs : H a = some (.lst xs)) (hp : Paired R xs ys) (hz : ys.length ≤ sizeLine)
    (turn : ∀ D x y acc (Nx : Hp → Prop), H D = none → R x y → y ∈ ys → (∀ z, f y = some z → ∃ acc', (upd H D (.lst acc)) D = some (.lst acc') ∧ acc'.length < sizeLine ∧ Nx (upd (upd H D (.lst acc)) D (.lst (acc' ++ [z])))) → (f y = none → Nx (upd H D (.lst acc))) →
      g x (wipe σ vs) (upd H D (.lst acc)) fun σ2 H2 => wipe σ2 vs = wipe σ vs ∧ tt σ2 H2 fun b H3 =>
        if b = true then te σ2 H3 fun y H4 => ∃ acc, H4 D = some (.lst acc) ∧ acc.length < sizeLine ∧ Nx (upd H4 D (.lst (acc ++ [y]))) else Nx H3)
    (fin : ∀ D, H D = none → Q (.ref D) (upd H D (.lst (ys.filterMap f)))) : tLc (iList K ta) g tt te vs σ H Q :=
  ea _ ⟨a, rfl, ⟨xs, SqL.of hs⟩, fun D hD => lc_fm ys f (SqL.of hs) hp hz hD (fun x y acc Nx => turn D x y acc Nx hD) (fin D hD)⟩
theorem tLc_tup (ys : List α) (f : α → Option V) (ea : ∀ R : VK, R (.ref a) H → ta σ H R) (hs : H a = some (.tup xs)) (hp : Paired R xs ys) (hz : ys.length ≤ sizeLine)
    (turn : ∀ D x y acc (Nx : Hp → Prop), H D = none → R x y → y ∈ ys → (∀ z, f y = some z → ∃ acc', (upd H D (.lst acc)) D = some (.lst acc') ∧ acc'.length < sizeLine ∧ Nx (upd (upd H D (.lst acc)) D (.lst (acc' ++ [z])))) → (f y = none → Nx (upd H D (.lst acc))) →
      g x (wipe σ vs) (upd H D (.lst acc)) fun σ2 H2 => wipe σ2 vs = wipe σ vs ∧ tt σ2 H2 fun b H3 =>
        if b = true then te σ2 H3 fun y H4 => ∃ acc, H4 D = some (.lst acc) ∧ acc.length < sizeLine ∧ Nx (upd H4 D (.lst (acc ++ [y]))) else Nx H3)
    (fin : ∀ D, H D = none → Q (.ref D) (upd H D (.lst (ys.filterMap f)))) : tLc (iTup K ta) g tt te vs σ H Q :=
  ea _ ⟨a, rfl, ⟨xs, SqT.of hs⟩, fun D hD => lc_fmT ys f (SqT.of hs) hp hz hD (fun x y acc Nx => turn D x y acc Nx hD) (fin D hD)⟩
theorem tLc_rng1 {n : Nat} (f : Nat → Option V) {ta : TA} (ea : ∀ R : List V → Hp → Prop, R [.int n] H → ta σ H R) (hz : n ≤ sizeLine)
    (turn : ∀ D i acc (Nx : Hp → Prop), H D = none → i < n → (∀ z, f i = some z → ∃ acc', (upd H D (.lst acc)) D = some (.lst acc') ∧ acc'.length < sizeLine ∧ Nx (upd (upd H D (.lst acc)) D (.lst (acc' ++ [z])))) → (f i = none → Nx (upd H D (.lst acc))) →
      g (.int (0 + i)) (wipe σ vs) (upd H D (.lst acc)) fun σ2 H2 => wipe σ2 vs = wipe σ vs ∧ tt σ2 H2 fun b H3 =>
        if b = true then te σ2 H3 fun y H4 => ∃ acc, H4 D = some (.lst acc) ∧ acc.length < sizeLine ∧ Nx (upd H4 D (.lst (acc ++ [y]))) else Nx H3)
    (fin : ∀ D, H D = none → Q (.ref D) (upd H D (.lst ((List.range n).filterMap f)))) : tLc (iRng1 ta) g tt te vs σ H Q := by
  refine ea _ ⟨n, rfl, by omega, by rw [sizeLine_eq] at hz; omega, fun D hD => ?_⟩
  rw [Int.toNat_natCast]
  exact lc_fmR f hz hD (fun i acc Nx => turn D i acc Nx hD) (fin D hD)
theorem tLc_rng2 {lo hi : Int} {n : Nat} (f : Nat → Option V) {ta : TA} (ea : ∀ R : List V → Hp → Prop, R [.int lo, .int hi] H → ta σ H R) (b1 : -(2 ^ 62) ≤ lo ∧ lo < 2 ^ 62 ∧ -(2 ^ 62) ≤ hi ∧ hi < 2 ^ 62) (en : (hi - lo).toNat = n) (hz : n ≤ sizeLine)
    (turn : ∀ D i acc (Nx : Hp → Prop), H D = none → i < n → (∀ z, f i = some z → ∃ acc', (upd H D (.lst acc)) D = some (.lst acc') ∧ acc'.length < sizeLine ∧ Nx (upd (upd H D (.lst acc)) D (.lst (acc' ++ [z])))) → (f i = none → Nx (upd H D (.lst acc))) →
      g (.int (lo + i)) (wipe σ vs) (upd H D (.lst acc)) fun σ2 H2 => wipe σ2 vs = wipe σ vs ∧ tt σ2 H2 fun b H3 =>
        if b = true then te σ2 H3 fun y H4 => ∃ acc, H4 D = some (.lst acc) ∧ acc.length < sizeLine ∧ Nx (upd H4 D (.lst (acc ++ [y]))) else Nx H3)
    (fin : ∀ D, H D = none → Q (.ref D) (upd H D (.lst ((List.range n).filterMap f)))) : tLc (iRng2 ta) g tt te vs σ H Q := by
  refine ea _ ⟨lo, hi, rfl, b1, fun D hD => ?_⟩
  rw [en]
  exact lc_fmR f hz hD (fun i acc Nx => turn D i acc Nx hD) (fin D hD)
end
theorem le1000 {n : Nat} (h : n ≤ 1000) : n ≤ sizeLine := Nat.le_of_lt (small1000 h)
/-- all(..) of a new list of truths -/
theorem all_new {D : Addr} {bs : List Bool} {l : List V} (e : l = bs.map V.bl) (q : Q (.bl (bs.all id)) (upd H D (.lst l))) : rAll K [.ref D] (upd H D (.lst l)) Q := ⟨D, bs, rfl, by rw [e]; exact SqL.of upd_same, q⟩
theorem any_new {D : Addr} {bs : List Bool} {l : List V} (e : l = bs.map V.bl) (q : Q (.bl (bs.any id)) (upd H D (.lst l))) : rAny K [.ref D] (upd H D (.lst l)) Q := ⟨D, bs, rfl, by rw [e]; exact SqL.of upd_same, q⟩
theorem sum_new {D : Addr} {bs : List Int} {l : List V} (e : l = bs.map V.int) (q : Q (.int bs.sum) (upd H D (.lst l))) : rSum K [.ref D] (upd H D (.lst l)) Q := ⟨D, bs, rfl, by rw [e]; exact SqL.of upd_same, q⟩
/-- an item, by its place -/
theorem rix_tup {t : Addr} {xs : List V} {z : Int} {v : V} {Q : VK} (h : H t = some (.tup xs)) (h0 : 0 ≤ z) (e : xs[z.toNat]? = some v) (q : Q v H) : rIxT K (.ref t) (.int z) H Q := ⟨_, _, _, _, rfl, rfl, SqT.of h, at_int h0 e, q⟩
theorem rix_lst {t : Addr} {xs : List V} {z : Int} {v : V} {Q : VK} (h : H t = some (.lst xs)) (h0 : 0 ≤ z) (e : xs[z.toNat]? = some v) (q : Q v H) : rIxL K (.ref t) (.int z) H Q := ⟨_, _, _, _, rfl, rfl, SqL.of h, at_int h0 e, q⟩
theorem rlen_lst {t : Addr} {xs : List V} {n : Nat} {Q : VK} (h : H t = some (.lst xs)) (e : xs.length = n) (q : Q (.int n) H) : qLen K [.ref t] H Q := ⟨_, _, rfl, .inl (SqL.of h), by rw [e]; exact q⟩
theorem rlen_tup {t : Addr} {xs : List V} {n : Nat} {Q : VK} (h : H t = some (.tup xs)) (e : xs.length = n) (q : Q (.int n) H) : qLen K [.ref t] H Q := ⟨_, _, rfl, .inr (SqT.of h), by rw [e]; exact q⟩
/-- requests[at], requests[at][k] -/
theorem rix_req {a : Addr} {rs : List Rq} {n : Int} {Q : VK} (h : ReqsAt H a rs) (h0 : 0 ≤ n) (h1 : n < rs.length) (q : ∀ t, H t = some (.tup (r3 (getR rs n))) → Q (.ref t) H) : rIxL K (.ref a) (.int n) H Q := by
  obtain ⟨vs, t, e, i, c⟩ := rd_req h h0 h1
  exact ⟨_, _, _, _, rfl, rfl, SqL.of e, i, q t c⟩
/-- a tuple into names -/
theorem gtup2 {t : Addr} {x y : V} {i j : Nat} {σ : L2.St} {P : L2.St → Hp → Prop} (h : H t = some (.tup [x, y])) (p : P ((σ.set i (some x)).set j (some y)) H) : gTup K 2 (gCons (gName i) (gCons (gName j) gNil)) (.ref t) σ H P := ⟨_, _, rfl, SqT.of h, rfl, _, _, rfl, _, _, rfl, rfl, p⟩
theorem gtup3 {t : Addr} {x y z : V} {i j l : Nat} {σ : L2.St} {P : L2.St → Hp → Prop} (h : H t = some (.tup [x, y, z])) (p : P (((σ.set i (some x)).set j (some y)).set l (some z)) H) : gTup K 3 (gCons (gName i) (gCons (gName j) (gCons (gName l) gNil))) (.ref t) σ H P := ⟨_, _, rfl, SqT.of h, rfl, _, _, rfl, _, _, rfl, _, _, rfl, rfl, p⟩
theorem gtup4 {t : Addr} {x y z u : V} {i j l m : Nat} {σ : L2.St} {P : L2.St → Hp → Prop} (h : H t = some (.tup [x, y, z, u])) (p : P ((((σ.set i (some x)).set j (some y)).set l (some z)).set m (some u)) H) : gTup K 4 (gCons (gName i) (gCons (gName j) (gCons (gName l) (gCons (gName m) gNil)))) (.ref t) σ H P := ⟨_, _, rfl, SqT.of h, rfl, _, _, rfl, _, _, rfl, _, _, rfl, _, _, rfl, rfl, p⟩
theorem rne_int {i j : Int} {Q : VK} (q : Q (.bl (!decide (i = j))) H) : rNe (.int i) (.int j) H Q := ⟨rfl, by
  have e : decide (V.int i = V.int j) = decide (i = j) := by simp
  rw [e]; exact q⟩
theorem req_int {i j : Int} {Q : VK} (q : Q (.bl (decide (i = j))) H) : rEq (.int i) (.int j) H Q := ⟨rfl, by
  have e : decide (V.int i = V.int j) = decide (i = j) := by simp
  rw [e]; exact q⟩
/-- isinstance(v, T), T built in, by the type's name -/
theorem isi_of {v : V} {S T : String} {b : Bool} {Q : VK} (ty : TyX K H v (.type S)) (k : kitB S T = some b) (q : Q (.bl b) H) : rIsi K [v, .ty T] H Q := ⟨v, .ty T, _, _, b, rfl, .ty T, ty, kit_ty k, q⟩
theorem pure_is_whole (h : sp_is_whole K w vs H Q E) (fin : Fin H Q Q0) : t_is_whole K w (endS Q0) (start ["thing"] vs) H := by
  obtain ⟨v, b, rfl, hb, n, q⟩ := h
  unfold t_is_whole
  try walk_at "rd"
  have go : ∀ (S : String) (b1 b2 : Bool), TyX K H v (.type S) → kitB S "int" = some b1 → kitB S "bool" = some b2 → (b1 && !b2) = b → rIsi K [v, .ty "int"] H fun x H1 => ∃ c, x = .bl c ∧ if c = true then rIsi K [v, .ty "bool"] H1 fun x H1 => ∃ c, x = .bl c ∧ Q0 (.bl !c) H1 else Q0 (.bl false) H1 := fun S b1 b2 ty k1 k2 eb => by
    refine isi_of ty k1 ⟨_, rfl, ?_⟩
    cases b1 with
    | false =>
      rw [if_neg Bool.false_ne_true]
      exact fin.same n (Same.refl H) (by rw [← eb] at q; exact q)
    | true =>
      rw [if_pos rfl]
      exact isi_of ty k2 ⟨_, rfl, fin.same n (Same.refl H) (by rw [← eb] at q; exact q)⟩
  rcases hb with ⟨⟨i, rfl⟩, rfl⟩ | ⟨(⟨x, rfl⟩ | rfl | ⟨x, rfl⟩ | ⟨a, xs, rfl, ea⟩ | ⟨a, xs, rfl, ea⟩), rfl⟩
  · exact go "int" true false (.base (.int i)) (by decide +kernel) (by decide +kernel) rfl
  · exact go "bool" true true (.base (.bl x)) (by decide +kernel) (by decide +kernel) rfl
  · exact go "NoneType" false false (.base .non) (by decide +kernel) (by decide +kernel) rfl
  · exact go "str" false false (.base (.str x)) (by decide +kernel) (by decide +kernel) rfl
  · exact go "list" false false (.base (.lst ea)) (by decide +kernel) (by decide +kernel) rfl
  · exact go "tuple" false false (.base (.tup ea)) (by decide +kernel) (by decide +kernel) rfl
theorem pure_is_request (h : sp_is_request K w vs H Q E) (fin : Fin H Q Q0) : t_is_request K w (endS Q0) (start ["thing", "one"] vs) H := by
  obtain ⟨v, r, rfl, ⟨t, rfl, ht⟩, n, q⟩ := h
  refine seq_i fun nx k => if_i fun th el h1 h2 => ?_
  try walk_at "rd"
  refine isi_of (.base (.tup ht)) (by decide +kernel : kitB "tuple" "tuple" = some true) ⟨_, rfl, iteF ?_⟩
  refine rlen_tup ht (n := 3) rfl (rne_int ⟨_, rfl, ?_⟩)
  rw [if_neg (by decide)]
  refine tLc_tup (R := fun v i => v = V.int i) [r.1, r.2.1, r.2.2] (fun _ => some (.bl true)) (fun R h => ⟨_, rfl, h⟩) ht (.cons rfl (.cons rfl (.cons rfl .nil))) (le1000 (by show 3 ≤ 1000; decide)) ?_ ?_
  · rintro D _ i acc Nx hD rfl _ add _
    try walk_at "rd"
    exact ⟨_, _, rfl, IsWh.int, n.upd, add _ rfl⟩
  · intro D hD
    refine all_new (bs := [true, true, true]) rfl ⟨_, rfl, ?_⟩
    refine iteF (h2 _ (k _ _ ?_))
    have s := Same.upd (o := .lst ([r.1, r.2.1, r.2.2].filterMap fun _ => some (V.bl true))) hD
    try walk_at "rd"
    refine rix_tup (s _ _ ht) (by decide) rfl ?_
    try walk_at "rd"
    refine rix_tup (s _ _ ht) (by decide) rfl ?_
    try walk_at "rd"
    by_cases c : r.1 ≤ r.2.1
    · rw [decide_eq_true c] at q
      rw [if_pos c]
      refine rix_tup (s _ _ ht) (by decide) rfl ?_
      try walk_at "rd"
      exact fin.same n s q
    · rw [decide_eq_false c] at q
      rw [if_neg c]
      exact fin.same n s q
theorem pure_check_requests (h : sp_check_requests K w vs H Q E) (fin : Fin H Q Q0) : t_check_requests K w (endS Q0) (start ["requests", "request"] vs) H := by
  obtain ⟨a, rs, rfl, ⟨ts, ea, pr⟩, ok, hz, n, q⟩ := h
  refine if_i fun th el h1 h2 => ?_
  try walk_at "rd"
  refine isi_of (.base (.lst ea)) (by decide +kernel : kitB "list" "list" = some true) ⟨_, rfl, iteF ?_⟩
  refine tLc_list rs (fun _ => some (.bl true)) (fun R h => ⟨_, rfl, h⟩) ea pr (le1000 hz) ?_ ?_
  · rintro D v r acc Nx hD ⟨t, rfl, ht⟩ hr add _
    try walk_at "rd"
    refine ⟨_, r, rfl, ⟨t, rfl, Same.upd hD _ _ ht⟩, n.upd, ?_⟩
    rw [decide_eq_true (ok r hr).1, decide_eq_true (ok r hr).2]
    exact add _ rfl
  · intro D hD
    refine all_new (bs := rs.map fun _ => true) (by rw [fm_map (fun _ => true) V.bl]) ⟨_, rfl, ?_⟩
    have e : (rs.map fun _ => true).all id = true := by simp
    rw [e]
    exact iteF (h2 _ (fin.same n (Same.upd hD) q))
theorem pure_check_rooms (h : sp_check_rooms K w vs H Q E) (fin : Fin H Q Q0) : t_check_rooms K w (endS Q0) (start ["rooms", "least"] vs) H := by
  obtain ⟨m, l, rfl, le, n, q⟩ := h
  refine if_i fun th el h1 h2 => ?_
  try walk_at "rd"
  refine ⟨_, _, rfl, IsWh.int, n, _, rfl, ?_⟩
  rw [if_neg (by decide), if_neg (by omega)]
  exact h2 _ (fin.same n (Same.refl H) q)
theorem ints_paired (ns : List Int) : Paired (fun v i => v = V.int i) (ns.map V.int) ns := Paired.ofMap (F := fun v i => v = V.int i) (fun _ => rfl) ns
theorem pure_for_day (h : sp_for_day K w vs H Q E) (fin : Fin H Q Q0) : t_for_day K w (endS Q0) (start ["requests", "some", "day", "at"] vs) H := by
  obtain ⟨a, b, d, rs, ns, rfl, hr, hb, hin, hz, n, q⟩ := h
  unfold t_for_day
  try walk_at "rd"
  refine tLc_list ns (fun i => if covers (getR rs i) d = true then some (.int i) else none) (fun R h => ⟨_, rfl, h⟩) hb (ints_paired ns) (le1000 hz) ?_ ?_
  · rintro D _ i acc Nx hD rfl hi add skip
    obtain ⟨i0, i1⟩ := hin i hi
    have hr' := hr.same (Same.upd (o := .lst acc) hD)
    try walk_at "rd"
    refine rix_req hr' i0 i1 fun t ht => rix_tup ht (by decide) rfl ?_
    try walk_at "rd"
    by_cases c : (getR rs i).1 ≤ d
    · rw [if_pos c]
      refine rix_req hr' i0 i1 fun t ht => rix_tup ht (by decide) rfl ?_
      try walk_at "rd"
      by_cases c2 : d ≤ (getR rs i).2.1
      · have z : covers (getR rs i) d = true := covers_iff.mpr ⟨c, c2⟩
        rw [if_pos c2]
        exact add _ (if_pos z)
      · have z : ¬ covers (getR rs i) d = true := fun z => c2 (covers_iff.mp z).2
        rw [if_neg c2]
        exact skip (if_neg z)
    · have z : ¬ covers (getR rs i) d = true := fun z => c (covers_iff.mp z).1
      rw [if_neg c]
      exact skip (if_neg z)
  · intro D hD
    rw [fm_filter (fun i => covers (getR rs i) d) V.int]
    exact fin _ _ _ (Shr.one n (Same.upd hD) hD upd_same (fun _ _ _ z => by cases z)) (q D hD)
theorem pure_is_choice (h : sp_is_choice K w vs H Q E) (fin : Fin H Q Q0) : t_is_choice K w (endS Q0) (start ["requests", "some", "last", "at"] vs) H := by
  obtain ⟨a, b, rs, ns, rfl, hr, hb, n, q⟩ := h
  obtain ⟨ts, ea, pr⟩ := hr
  have el := pr.length
  refine seq_i fun nx k => ?_
  try walk_at "rd"
  refine k _ _ (seq_i fun nx2 k2 => ?_)
  refine ⟨_, rfl, b, rfl, ⟨_, SqL.of hb⟩, for_list (K := K) (a := b) (xs := ns.map V.int) (fun i σ H' => H' = H ∧ ∃ (l : Int) (v : Option V), σ = [some (.ref a), some (.ref b), some (.int l), v] ∧ isChoice rs.length ns = choiceFrom rs.length l (ns.drop i)) ⟨rfl, -1, none, rfl, by rw [List.drop_zero] <;> rfl⟩ (fun i σ H' _ ⟨e, _⟩ => by rw [e]; exact SqL.of hb) ?_ ?_⟩
  · rintro i y σ H' hi ⟨rfl, l, v, rfl, ec⟩
    obtain ⟨z, hz, rfl⟩ := Paired.getR (ints_paired ns) hi
    have hd : ns.drop i = z :: ns.drop (i + 1) := by
      obtain ⟨h1, h2⟩ := List.getElem?_eq_some_iff.mp hz
      rw [List.drop_eq_getElem_cons h1, h2]
    rw [hd] at ec
    unfold choiceFrom at ec
    refine seq_i fun nx3 k3 => if_i fun th el' h1 h2 => ?_
    try walk_at "rd"
    refine ⟨_, _, rfl, IsWh.int, n, _, rfl, ?_⟩
    rw [if_neg (by decide)]
    have ret : (decide (l < z ∧ z < (rs.length : Int)) = false) → th H' := fun e => h1 _ (by
      rw [e] at ec
      try walk_at "rd"
      rw [Bool.false_and] at ec
      rw [ec] at q
      exact fin.same n (Same.refl H') q)
    by_cases c : l < z
    · rw [if_pos c]
      refine rlen_lst ea el ?_
      try walk_at "rd"
      by_cases c2 : z < (rs.length : Int)
      · rw [if_neg (by rw [decide_eq_true c2]; decide)]
        refine h2 _ (k3 _ _ ?_)
        refine ⟨_, rfl, rfl, z, some (.int z), rfl, ?_⟩
        rw [ec, decide_eq_true ⟨c, c2⟩, Bool.true_and]
      · rw [if_pos (by rw [decide_eq_false c2]; rfl)]
        exact ret (decide_eq_false fun z => c2 z.2)
    · rw [if_neg c]
      exact ret (decide_eq_false fun z => c z.1)
  · rintro σ H' ⟨rfl, l, v, rfl, ec⟩
    refine k2 _ _ ?_
    try walk_at "rd"
    rw [List.length_map, List.drop_length] at ec
    rw [ec] at q
    exact fin.same n (Same.refl H') q
end
end Spn

namespace Spn
open PySem PySem.Spec PyProof.Rows L2
section
variable {K : PySem.W.Frag} {w : World} {vs : List V} {H : Hp} {Q Q0 : VK} {E : XK}
theorem fm_mem {α : Type} {f g : α → Option V} {ys : List α} (h : ∀ y ∈ ys, f y = g y) : ys.filterMap f = ys.filterMap g := by
  induction ys with
  | nil => rfl
  | cons y r ih => rw [List.filterMap_cons, List.filterMap_cons, h y List.mem_cons_self, ih fun z hz => h z (List.mem_cons_of_mem _ hz)]
theorem pure_fits (h : sp_fits K w vs H Q E) (fin : Fin H Q Q0) : t_fits K w (endS Q0) (start ["requests", "rooms", "some", "at"] vs) H := by
  obtain ⟨a, m, b, rs, ns, rfl, hr, hb, hin, hz, n, q⟩ := h
  unfold t_fits
  try walk_at "rd"
  refine tLc_list ns (fun i => some (.bl (decide (((forDay rs ns (getR rs i).1).length : Int) ≤ m)))) (fun R h => ⟨_, rfl, h⟩) hb (ints_paired ns) (le1000 hz) ?_ ?_
  · rintro D _ i acc Nx hD rfl hi add skip
    obtain ⟨i0, i1⟩ := hin i hi
    have s := Same.upd (o := .lst acc) hD
    have hr' := hr.same s
    try walk_at "rd"
    refine rix_req hr' i0 i1 fun t ht => rix_tup ht (by decide) rfl ?_
    refine ⟨a, b, _, rs, ns, rfl, hr', s _ _ hb, hin, hz, n.upd, fun p hp => ?_⟩
    refine rlen_lst upd_same (List.length_map _) ?_
    try walk_at "rd"
    exact ⟨_, Shr.none n.upd (Same.upd hp), add _ rfl⟩
  · intro D hD
    refine all_new (bs := ns.map fun i => decide (((forDay rs ns (getR rs i).1).length : Int) ≤ m)) (fm_map _ V.bl ns) ?_
    refine fin.same n (Same.upd hD) ?_
    have e : (ns.map fun i => decide (((forDay rs ns (getR rs i).1).length : Int) ≤ m)).all id = fits rs m ns := by
      rw [List.all_map]
      rfl
    rw [e]
    exact q
theorem all_rising : ∀ (τ : List (Int × Int)), ((List.range (τ.length - 1)).map fun k => decide ((τ.getD k (0, 0)).1 < (τ.getD (k + 1) (0, 0)).1)).all id = risingT τ
  | [] => rfl
  | [_] => rfl
  | x :: y :: r => by
    have ih := all_rising (y :: r)
    show ((List.range (r.length + 1)).map _).all id = (decide (x.1 < y.1) && risingT (y :: r))
    rw [← ih, List.range_succ_eq_map, List.map_cons, List.all_cons, List.map_map]
    rfl
theorem rd_toll {a : Addr} {τ : List (Int × Int)} {n : Nat} (h : TollsAt H a τ) (h1 : n < τ.length) : ∃ (vs : List V) (t : Addr), H a = some (.lst vs) ∧ vs[n]? = some (.ref t) ∧ H t = some (.tup (t2 (τ.getD n (0, 0)))) := by
  obtain ⟨vs, e, p⟩ := h
  have g : τ[n]? = some (τ.getD n (0, 0)) := by
    rw [List.getD_eq_getElem?_getD, List.getElem?_eq_getElem h1]
    rfl
  obtain ⟨x, hx, t, rfl, q⟩ := Paired.getL p g
  exact ⟨vs, t, e, hx, q⟩
theorem rix_toll {a : Addr} {τ : List (Int × Int)} {z : Int} {n : Nat} {Q : VK} (h : TollsAt H a τ) (e : z = n) (h1 : n < τ.length) (q : ∀ t, H t = some (.tup (t2 (τ.getD n (0, 0)))) → Q (.ref t) H) : rIxL K (.ref a) (.int z) H Q := by
  obtain ⟨vs, t, ea, i, c⟩ := rd_toll h h1
  exact rix_lst ea (by omega) (by rw [show z.toNat = n by omega]; exact i) (q t c)
theorem pure_are_tolls (h : sp_are_tolls K w vs H Q E) (fin : Fin H Q Q0) : t_are_tolls K w (endS Q0) (start ["tolls", "day", "amount", "k"] vs) H := by
  obtain ⟨a, τ, rfl, ⟨ts, ea, pr⟩, hz, n, q⟩ := h
  refine seq_i fun nx k => if_i fun th el h1 h2 => ?_
  try walk_at "rd"
  refine tLc_list τ (fun t => some (.bl (decide (0 ≤ t.2)))) (fun R h => ⟨_, rfl, h⟩) ea pr (le1000 hz) ?_ ?_
  · rintro D _ t acc Nx hD ⟨p, rfl, hp⟩ ht add skip
    refine gtup2 (Same.upd hD _ _ hp) ?_
    try walk_at "rd"
    refine ⟨_, _, rfl, IsWh.int, n.upd, ?_⟩
    try walk_at "rd"
    refine ⟨_, _, rfl, IsWh.int, n.upd, ?_⟩
    try walk_at "rd"
    exact add _ rfl
  · intro D hD
    have s := Same.upd (o := .lst (τ.filterMap fun t => some (.bl (decide (0 ≤ t.2))))) hD
    refine all_new (bs := τ.map fun t => decide (0 ≤ t.2)) (fm_map _ V.bl τ) ⟨_, rfl, ?_⟩
    have e : (τ.map fun t => decide (0 ≤ t.2)).all id = τ.all fun t => decide (0 ≤ t.2) := by
      rw [List.all_map]
      rfl
    rw [e]
    unfold areTolls at q
    cases c : τ.all fun t => decide (0 ≤ t.2) with
    | false =>
      refine iteT (h1 _ ?_)
      try walk_at "rd"
      rw [c, Bool.false_and] at q
      exact fin.same n s q
    | true =>
      rw [c, Bool.true_and] at q
      refine iteF (h2 _ (k _ _ ?_))
      try walk_at "rd"
      have ta : TollsAt H a τ := ⟨ts, ea, pr⟩
      refine tLc_rng2 (lo := 1) (hi := (τ.length : Int)) (n := τ.length - 1) (fun i => some (.bl (decide ((τ.getD i (0, 0)).1 < (τ.getD (i + 1) (0, 0)).1)))) (fun R h => ?_) (by omega) (by omega) (by rw [sizeLine_eq]; omega) ?_ ?_
      · try walk_at "rd"
        refine rlen_lst (s _ _ ea) pr.length ?_
        exact h
      · rintro D2 i acc Nx hD2 hi add skip
        have s2 := Same.upd2 (o := .lst acc) s hD2
        try walk_at "rd"
        refine rix_toll (ta.same s2) (n := i) (by omega) (by omega) fun t ht => rix_tup ht (by decide) rfl ?_
        try walk_at "rd"
        refine rix_toll (ta.same s2) (n := i + 1) (by omega) (by omega) fun t ht => rix_tup ht (by decide) rfl ?_
        try walk_at "rd"
        exact add _ rfl
      · intro D2 hD2
        refine all_new (bs := (List.range (τ.length - 1)).map fun i => decide ((τ.getD i (0, 0)).1 < (τ.getD (i + 1) (0, 0)).1)) (fm_map _ V.bl _) ?_
        rw [all_rising]
        exact fin.same n (Same.upd2 s hD2) q
theorem pure_worth_of (h : sp_worth_of K w vs H Q E) (fin : Fin H Q Q0) : t_worth_of K w (endS Q0) (start ["requests", "some", "at"] vs) H := by
  obtain ⟨a, b, rs, ns, rfl, hr, hb, hin, hz, n, q⟩ := h
  unfold t_worth_of
  try walk_at "rd"
  refine tLc_list ns (fun i => some (.int (getR rs i).2.2)) (fun R h => ⟨_, rfl, h⟩) hb (ints_paired ns) (le1000 hz) ?_ ?_
  · rintro D _ i acc Nx hD rfl hi add skip
    obtain ⟨i0, i1⟩ := hin i hi
    try walk_at "rd"
    refine rix_req (hr.same (Same.upd hD)) i0 i1 fun t ht => rix_tup ht (by decide) rfl ?_
    exact add _ rfl
  · intro D hD
    refine sum_new (bs := ns.map fun i => (getR rs i).2.2) (fm_map _ V.int ns) ?_
    exact fin.same n (Same.upd hD) q
theorem tollOf_fm (τ : List (Int × Int)) (r : Rq) : τ.filterMap (fun t => if covers r t.1 = true then some (V.int t.2) else none) = ((τ.filter fun t => covers r t.1).map (·.2)).map V.int := by
  rw [fm_filter (fun t : Int × Int => covers r t.1) (fun t : Int × Int => V.int t.2), List.map_map]
  rfl
theorem pure_bound_by (h : sp_bound_by K w vs H Q E) (fin : Fin H Q Q0) : t_bound_by K w (endS Q0) (start ["requests", "rooms", "tolls", "total", "first", "last", "price", "toll", "day", "amount"] vs) H := by
  obtain ⟨a, m, b, rs, τ, rfl, hr, hb, hz, hzt, hm, n, q⟩ := h
  obtain ⟨ts, ea, pr⟩ := hr
  obtain ⟨us, eb, pt⟩ := hb
  refine seq_i fun nx k => ?_
  try walk_at "rd"
  refine tLc_list τ (fun t => some (.int t.2)) (fun R h => ⟨_, rfl, h⟩) eb pt (le1000 hzt) ?_ ?_
  · rintro D _ t acc Nx hD ⟨p, rfl, hp⟩ ht add skip
    refine gtup2 (Same.upd hD _ _ hp) ?_
    try walk_at "rd"
    exact add _ rfl
  intro D hD
  have s := Same.upd (o := .lst (τ.filterMap fun t => some (.int t.2))) hD
  refine sum_new (bs := τ.map (·.2)) (fm_map _ V.int τ) ?_
  refine ⟨_, rfl, .inl hm, k _ _ (seq_i fun nx2 k2 => ?_)⟩
  try walk_at "rd"
  refine ⟨_, rfl, a, rfl, ⟨_, SqL.of (s _ _ ea)⟩, for_list (K := K) (a := a) (xs := ts) (fun i σ H' => Same H H' ∧ ∃ x1 x2 x3 x4 x5 x6, σ = [some (.ref a), some (.int m), some (.ref b), some (.int (m * tollSum τ + ((rs.take i).map (gainOf τ)).sum)), x1, x2, x3, x4, x5, x6]) ?_ (fun i σ H' _ ⟨e, _⟩ => SqL.of (e _ _ ea)) ?_ ?_⟩
  · refine ⟨s, none, none, none, none, none, none, ?_⟩
    simp [tollSum]
  · rintro i v σ H' hi ⟨s', x1, x2, x3, x4, x5, x6, rfl⟩
    obtain ⟨r, hr, p, rfl, hp⟩ := Paired.getR pr hi
    refine gtup3 (s' _ _ hp) (seq_i fun nx3 k3 => ?_)
    try walk_at "rd"
    refine tLc_list τ (fun t => if covers r t.1 = true then some (.int t.2) else none) (fun R h => ⟨_, rfl, h⟩) (s' _ _ eb) (pt.mono fun _ _ q => q.same s') (le1000 hzt) ?_ ?_
    · rintro D2 _ t acc Nx hD2 ⟨p2, rfl, hp2⟩ ht add skip
      refine gtup2 (Same.upd hD2 _ _ hp2) ?_
      try walk_at "rd"
      by_cases c : r.1 ≤ t.1
      · rw [if_pos c]
        by_cases c2 : t.1 ≤ r.2.1
        · rw [if_pos c2]
          exact add _ (if_pos (covers_iff.mpr ⟨c, c2⟩))
        · rw [if_neg c2]
          exact skip (if_neg fun z => c2 (covers_iff.mp z).2)
      · rw [if_neg c]
        try walk_at "rd"
        exact skip (if_neg fun z => c (covers_iff.mp z).1)
    · intro D2 hD2
      rw [tollOf_fm]
      refine sum_new (bs := (τ.filter fun t => covers r t.1).map (·.2)) rfl (k3 _ _ ?_)
      try walk_at "rd"
      refine ⟨_, _, rfl, ?_⟩
      try walk_at "rd"
      refine ⟨Same.upd2 s' hD2, ?_⟩
      rw [take_snoc hr, List.map_append, List.sum_append]
      refine ⟨_, _, _, _, _, _, congrArg (fun z => [some (V.ref a), some (V.int m), some (V.ref b), some (V.int z), _, _, _, _, _, _]) ?_⟩
      simp only [List.map_cons, List.map_nil, List.sum_cons, List.sum_nil, gainOf, tollOf]
      rw [Int.max_def]
      split <;> split <;> omega
  · rintro σ H' ⟨s', x1, x2, x3, x4, x5, x6, rfl⟩
    refine k2 _ _ ?_
    try walk_at "rd"
    rw [pr.length, List.take_length]
    exact fin.same n s' q
end
end Spn

namespace Spn
open PySem PySem.Spec PyProof.Rows L2
section
variable {K : PySem.W.Frag} {w : World} {vs : List V} {H : Hp} {Q Q0 : VK} {E : XK}
theorem choice_in {n : Nat} {ns : List Int} (h : isChoice n ns = true) : InR n ns := fun z hz => by
  obtain ⟨ks, rfl, _, hb⟩ := choice_nat h
  obtain ⟨k, hk, rfl⟩ := List.mem_map.mp hz
  have := hb k hk
  show 0 ≤ (k : Int) ∧ (k : Int) < n
  omega
theorem pure_is_best (h : sp_is_best K w vs H Q E) (fin : Fin H Q Q0) : t_is_best K w (endS Q0) (start ["requests", "rooms", "some", "tolls"] vs) H := by
  obtain ⟨a, m, b, c, rs, ns, τ, rfl, hr, hb, ht, hz, hzn, hzt, hm, n, q⟩ := h
  refine seq_i fun nx k => if_i fun th el h1 h2 => ?_
  have s := Same.refl H
  unfold isBest at q
  have no : ((isChoice rs.length ns && fits rs m ns && areTolls τ && decide (worth rs ns = bound rs m τ)) = false) → th H := fun e => h1 _ (by
    try walk_at "rd"
    rw [e] at q
    exact fin.same n s q)
  try walk_at "rd"
  refine ⟨_, _, _, _, rfl, hr, hb, n, _, rfl, ?_⟩
  cases c1 : isChoice rs.length ns with
  | false => exact iteT (no (by rw [c1]; rfl))
  | true =>
    have hin := choice_in c1
    refine iteF ⟨_, _, _, _, _, rfl, hr, hb, hin, hzn, n, _, rfl, ?_⟩
    cases c2 : fits rs m ns with
    | false => exact iteT (no (by rw [c1, c2]; rfl))
    | true =>
      refine iteF ⟨_, _, rfl, ht, hzt, n, _, rfl, ?_⟩
      cases c3 : areTolls τ with
      | false => exact iteT (no (by rw [c1, c2, c3]; rfl))
      | true =>
        refine iteF (h2 _ (k _ _ ?_))
        try walk_at "rd"
        refine ⟨_, _, _, _, rfl, hr, hb, hin, hzn, n, ?_⟩
        refine ⟨_, _, _, _, _, rfl, hr, ht, hz, hzt, hm, n, req_int ?_⟩
        rw [c1, c2, c3] at q
        exact fin.same n s q
theorem ne_tk : ¬ (("taken" : Str) = "tolls") := by decide +kernel
theorem putF_nil (f : Str) (v : V) : putF f v [] = [(f, v)] := rfl
theorem putF_here {f : Str} {v x : V} {r : List (Str × V)} : putF f v ((f, x) :: r) = (f, v) :: r := if_pos rfl
theorem putF_past {f g : Str} {v x : V} {r : List (Str × V)} (h : ¬ g = f) : putF f v ((g, x) :: r) = (g, x) :: putF f v r := if_neg h
theorem lk_here {k : Str} {v : V} {r : List (Str × V)} : List.lookup k ((k, v) :: r) = some v := by
  have e : (k == k) = true := beq_self_eq_true k
  simp only [List.lookup, e]
theorem lk_past {k g : Str} {v : V} {r : List (Str × V)} (h : (k == g) = false) : List.lookup k ((g, v) :: r) = List.lookup k r := by
  simp only [List.lookup, h]
theorem pure_Best___init__ (cl : Cls K (He.ga K "Best")) (n1 : NoAttr K (He.ga K "Best") "taken") (n2 : NoAttr K (He.ga K "Best") "tolls") (h : sp_Best___init__ K w vs H Q E) (fin : Fin H Q Q0) : t_Best___init__ K w (endS Q0) (start ["self", "taken", "tolls"] vs) H := by
  obtain ⟨x, dx, a, b, ts, us, rfl, hx, ha, hb, n, q⟩ := h
  refine seq_i fun nx k => ?_
  refine ⟨_, rfl, a, ts, rfl, .inl (SqL.of ha), fun p hp => ?_⟩
  have nxp : x ≠ p := ne_of_none hx hp
  refine ⟨_, rfl, x, _, dx, _, rfl, by rw [upd_ne nxp]; exact hx, cl, n1, by show 0 < 1000; decide, k _ _ ?_⟩
  have hb' : (upd (upd H p (.lst ts)) x (.ins (He.ga K "Best") dx [("taken", .ref p)])) b = some (.lst us) := by
    have nbx : b ≠ x := ne_of hb hx (by intro z; cases z)
    rw [upd_ne nbx, upd_ne (ne_of_none hb hp)]
    exact hb
  refine ⟨_, rfl, b, us, rfl, .inl (SqL.of hb'), fun p2 hp2 => ?_⟩
  have nxp2 : x ≠ p2 := fun z => by rw [← z, upd_same] at hp2; cases hp2
  have npp : p ≠ p2 := fun z => by rw [← z, upd_ne nxp.symm, upd_same] at hp2; cases hp2
  have hp20 : H p2 = none := by rw [upd_ne nxp2.symm, upd_ne npp.symm] at hp2; exact hp2
  refine ⟨_, rfl, x, _, dx, _, rfl, by rw [upd_ne nxp2, upd_same], cl, n2, by show 1 < 1000; decide, ?_⟩
  rw [putF_nil, putF_past ne_tk, putF_nil]
  have keep : ∀ b' o, H b' = some o → b' ≠ x → (upd (upd (upd (upd H p (.lst ts)) x (.ins (He.ga K "Best") dx [("taken", .ref p)])) p2 (.lst us)) x (.ins (He.ga K "Best") dx [("taken", .ref p), ("tolls", .ref p2)])) b' = some o := fun b' o e ne => by
    rw [upd_ne ne, upd_ne (ne_of_none e hp20), upd_ne ne, upd_ne (ne_of_none e hp)]
    exact e
  have nt : NoT (upd (upd (upd (upd H p (.lst ts)) x (.ins (He.ga K "Best") dx [("taken", .ref p)])) p2 (.lst us)) x (.ins (He.ga K "Best") dx [("taken", .ref p), ("tolls", .ref p2)])) := (((n.upd).upd).upd).upd
  refine fin _ _ _ ⟨fun b o e => rfl, fun b o e => e, fun a' C0 dx0 fs e => ?_, nt⟩ (q _ p p2 hp hp20 npp upd_same (by rw [upd_ne nxp.symm, upd_ne npp, upd_ne nxp.symm, upd_same]) (by rw [upd_ne nxp2.symm, upd_same]) keep nt)
  by_cases z : a' = x
  · subst z
    rw [upd_same] at e
    cases e
    exact .inl ⟨_, _, hx⟩
  · rw [upd_ne z] at e
    by_cases z2 : a' = p2
    · subst z2
      rw [upd_same] at e
      cases e
    · rw [upd_ne z2, upd_ne z] at e
      by_cases z3 : a' = p
      · subst z3
        rw [upd_same] at e
        cases e
      · rw [upd_ne z3] at e
        exact .inl ⟨_, _, e⟩
theorem bf_taken (p q : Addr) : (bestF p q).lookup ("taken" : Str) = some (.ref p) := lk_here
theorem bf_tolls (p q : Addr) : (bestF p q).lookup ("tolls" : Str) = some (.ref q) := (lk_past (by decide +kernel)).trans lk_here
/-- a field of an instance -/
theorem rfld {C dx a : Addr} {fs : List (Str × V)} {f : Str} {v : V} {ta : TE} {σ : L2.St} {Q : VK} (ea : ∀ Q : VK, Q (.ref a) H → ta σ H Q) (h : H a = some (.ins C dx fs)) (cl : Cls K C) (n : NoAttr K C f) (l : fs.lookup f = some v) (q : Q v H) : tFld K ta f σ H Q := ea _ ⟨a, C, dx, fs, v, rfl, h, cl, n, l, q⟩
theorem pure_Best_shows (cl : Cls K (He.ga K "Best")) (n1 : NoAttr K (He.ga K "Best") "taken") (n2 : NoAttr K (He.ga K "Best") "tolls") (h : sp_Best_shows K w vs H Q E) (fin : Fin H Q Q0) : t_Best_shows K w (endS Q0) (start ["self", "requests", "rooms"] vs) H := by
  obtain ⟨x, p, r, a, m, rs, ns, τ, rfl, ⟨⟨dx, hx⟩, hp, hq⟩, hr, hz, hzn, hzt, hm, n, q⟩ := h
  unfold t_Best_shows
  try walk_at "rd"
  refine rfld (fun Q h => ⟨_, rfl, h⟩) hx cl n1 (bf_taken p r) (rfld (fun Q h => ⟨_, rfl, h⟩) hx cl n2 (bf_tolls p r) ?_)
  exact ⟨_, _, _, _, _, _, _, rfl, hr, hp, hq, hz, hzn, hzt, hm, n, fin.same n (Same.refl H) q⟩
end
end Spn

namespace Spn
open PySem PySem.Spec PyProof.Rows L2
/-! ### rooms led along days -/
def waysF (ld le lt li : Addr) : List (Str × V) := [("days", .ref ld), ("ends", .ref le), ("taken", .ref lt), ("idle", .ref li)]
def IsE (H : Hp) (v : V) (e : Nat × Nat × Int) : Prop := ∃ t, v = .ref t ∧ H t = some (.tup [.int e.1, .int e.2.1, .int e.2.2])
def tkF (tk : List Bool) (i : Nat) : Bool := tk.getD i false
def idF (id : List Int) (j : Nat) : Int := id.getD j 0
/-- a Ways at a, its four lists -/
structure WA (K : PySem.W.Frag) (H : Hp) (N : Net) (a ld le lt li : Addr) (ds : List Int) (es : List (Nat × Nat × Int)) (tk : List Bool) (id : List Int) : Prop where
  ins : ∃ dx, H a = some (.ins (He.ga K "Ways") dx (waysF ld le lt li))
  days : IntsAt H ld ds
  ends : ∃ vs, H le = some (.lst vs) ∧ Paired (IsE H) vs es
  taken : H lt = some (.lst (tk.map V.bl))
  idle : IntsAt H li id
  ne : li ≠ ld
  nt : lt ≠ li
  lds : ds.length = N.L + 1
  lid : id.length = N.L
  ltk : tk.length = N.n
  les : es.length = N.n
  es : ∀ i, i < N.n → es[i]? = some (N.fi i, N.ei i, N.p i)
  zn : N.n ≤ 450
  zL : N.L ≤ 900
structure WaysC (K : PySem.W.Frag) : Prop where
  cl : Cls K (He.ga K "Ways")
  nd : NoAttr K (He.ga K "Ways") "days"
  ne : NoAttr K (He.ga K "Ways") "ends"
  nt : NoAttr K (He.ga K "Ways") "taken"
  ni : NoAttr K (He.ga K "Ways") "idle"
def IsSt (H : Hp) (v : V) (st : Net.Stp) : Prop := ∃ t u, v = .ref t ∧ H t = some (.tup [.int st.s, .int st.e, .int st.m, .ref u]) ∧ H u = some (.tup [.int st.kd, .int st.ix])
def IsO (H : Hp) (v : V) (o : Option Net.Stp) : Prop := match o with
  | none => v = .non
  | some st => IsSt H v st
def StepsAt (H : Hp) (p : Addr) (sts : List Net.Stp) : Prop := ∃ vs, H p = some (.lst vs) ∧ Paired (IsSt H) vs sts
def CameAt (H : Hp) (p : Addr) (cm : List (Option Net.Stp)) : Prop := ∃ vs, H p = some (.lst vs) ∧ Paired (IsO H) vs cm
def sp_Ways_steps (K : PySem.W.Frag) (w : World) : Sp := fun vs H Q _ => ∃ a N ld le lt li ds es tk id, vs = [.ref a] ∧ WA K H N a ld le lt li ds es tk id ∧ NoT H ∧
  ∀ H' p sts, Same H H' → NoT H' → H p = none → StepsAt H' p sts → (∀ st, st ∈ sts ↔ N.IsStep (idF id) (tkF tk) st) → sts.length ≤ 4000 → Q (.ref p) H'
def sp_Ways_most (K : PySem.W.Frag) (w : World) : Sp := fun vs H Q _ => ∃ a N ld le lt li ds es tk id, vs = [.ref a] ∧ WA K H N a ld le lt li ds es tk id ∧ NoT H ∧ (∃ φ, N.Feas φ (idF id) (tkF tk)) ∧
  ∀ H' t pb pc ψ cm, Same H H' → NoT H' → H' t = some (.tup [.ref pb, .ref pc]) → H pc = none → H' pb = some (.lst ((List.range (N.L + 1)).map fun v => V.int (ψ v))) → CameAt H' pc cm → N.Done (idF id) (tkF tk) ψ cm → Q (.ref t) H'
def sp_Ways_lead (K : PySem.W.Frag) (w : World) : Sp := fun vs H Q _ => ∃ a N ld le lt li ds es tk id k, vs = [.ref a] ∧ WA K H N a ld le lt li ds es tk id ∧ NoT H ∧ N.Flow (idF id) (tkF tk) k ∧ (∃ φ, N.Feas φ (idF id) (tkF tk)) ∧
  ∀ tk' id', tk'.length = N.n → id'.length = N.L → N.Flow (idF id') (tkF tk') (k + 1) → (∃ φ, N.Feas φ (idF id') (tkF tk')) → Q .non (upd (upd H lt (.lst (tk'.map V.bl))) li (.lst (id'.map V.int)))
def sp_Ways_choice (K : PySem.W.Frag) (w : World) : Sp := fun vs H Q _ => ∃ a N ld le lt li ds es tk id, vs = [.ref a] ∧ WA K H N a ld le lt li ds es tk id ∧ NoT H ∧
  ∀ p, H p = none → Q (.ref p) (upd H p (.lst ((takenOf N.n (tkF tk)).map V.int)))
def sp_Ways_amounts (K : PySem.W.Frag) (w : World) : Sp := fun vs H Q _ => ∃ a N ld le lt li ds es tk id, vs = [.ref a] ∧ WA K H N a ld le lt li ds es tk id ∧ NoT H ∧ (∃ φ, N.Feas φ (idF id) (tkF tk)) ∧
  ∀ H' p φ, Same H H' → NoT H' → H p = none → TollsAt H' p (tollsOf N.L (idF ds) φ) → N.Feas φ (idF id) (tkF tk) → Q (.ref p) H'
def sp_Ways___init__ (K : PySem.W.Frag) (w : World) : Sp := fun vs H Q _ => ∃ x dx a m rs, vs = [.ref x, .ref a, .int m] ∧ H x = some (.ins (He.ga K "Ways") dx []) ∧ ReqsAt H a rs ∧ OkR rs ∧ rs ≠ [] ∧ rs.length ≤ 450 ∧ 0 ≤ m ∧ NoT H ∧
  ∀ H' N ld le lt li ds es tk id, (∀ b o, H b = some o → b ≠ x → H' b = some o) → NoT H' → WA K H' N x ld le lt li ds es tk id → NetOf N rs (idF ds) → N.Flow (idF id) (tkF tk) m → (∃ φ, N.Feas φ (idF id) (tkF tk)) → Q .non H'
def sp_best_of (K : PySem.W.Frag) (w : World) : Sp := fun vs H Q _ => ∃ a m rs, vs = [.ref a, .int m] ∧ ReqsAt H a rs ∧ OkR rs ∧ rs.length ≤ 450 ∧ 0 ≤ m ∧ NoT H ∧
  ∀ H' t p q ns τ, Same H H' → NoT H' → H t = none → H p = none → H q = none → p ≠ q → H' t = some (.tup [.ref p, .ref q]) → IntsAt H' p ns → TollsAt H' q τ → isBest rs m ns τ = true → τ.length ≤ 900 → Q (.ref t) H'
def sp_best (K : PySem.W.Frag) (w : World) : Sp := fun vs H Q _ => ∃ a m rs, vs = [.ref a, .int m] ∧ ReqsAt H a rs ∧ OkR rs ∧ rs.length ≤ 450 ∧ 0 ≤ m ∧ NoT H ∧
  ∀ H' x p q ns τ, BestNew K H H' x p q ns τ → isBest rs m ns τ = true → τ.length ≤ 900 → Q (.ref x) H'
end Spn

namespace Spn
open PySem PySem.Spec PyProof.Rows L2
/-! ### readings -/
/-- Ways.__init__ -/
def t_Ways___init__ (K : PySem.W.Frag) (w : World) : TS :=
  (tSeq (tAsg (tOp rCat (tLc (iList K (tVar 1)) (gName 8) tYes (tOp (rIxT K) (tVar 8) (tC (.int 0))) [8]) (tLc (iList K (tVar 1)) (gName 8) tYes (tOp qAdd (tOp (rIxT K) (tVar 8) (tC (.int 1))) (tC (.int 1))) [8])) (gName 3))
  (tSeq (sFld K (tVar 0) (tCB (rSortedSetI w) (tCons (tCB (rSetOf K w) (tCons (tVar 3) tNil)) tNil)) "days")
  (tSeq (sFld K (tVar 0) (tLc (iList K (tVar 1)) (gTup K 3 (gCons (gName 5) (gCons (gName 6) (gCons (gName 7) gNil)))) tYes (tTup (tCons (tBM K "list" (rIndex K) (tFld K (tVar 0) "days") (tCons (tVar 5) tNil)) (tCons (tBM K "list" (rIndex K) (tFld K (tVar 0) "days") (tCons (tOp qAdd (tVar 6) (tC (.int 1))) tNil)) (tCons (tVar 7) tNil)))) [5, 6, 7]) "ends")
  (tSeq (sFld K (tVar 0) (tLc (iList K (tVar 1)) (gName 8) tYes (tC (.bl false)) [8]) "taken")
  (tSeq (sFld K (tVar 0) (tLc (iList K (L2.tSl (rSlL K) (tFld K (tVar 0) "days") (tPart (tC (.int 1))) tNoPart)) (gName 9) tYes (tC (.int 0)) [9]) "idle")
  (tSeq (tFor (iRng1 (tCons (tCB qMin2 (tCons (tVar 2) (tCons (tCB (qLen K) (tCons (tVar 1) tNil)) tNil))) tNil)) (gName 4) (tDrop (tMeth (He.ga K "Ways") "lead" (sp_Ways_lead K w) [] E0 (tVar 0) tNil)))
  (tIfS (tTest (tOp qGt (tVar 2) (tCB (qLen K) (tCons (tVar 1) tNil)))) (sFld K (tVar 0) (tLc (iList K (tFld K (tVar 0) "idle")) (gName 10) tYes (tOp qSub (tOp qAdd (tVar 10) (tVar 2)) (tCB (qLen K) (tCons (tVar 1) tNil))) [10]) "idle") tNext)))))))

/-- Ways.steps -/
def t_Ways_steps (K : PySem.W.Frag) (w : World) : TS :=
  (tSeq (tAsg (tLst tNil) (gName 1))
  (tSeq (tAsg (tLst tNil) (gName 2))
  (tSeq (tFor (iRng1 (tCons (tCB (qLen K) (tCons (tFld K (tVar 0) "idle") tNil)) tNil)) (gName 3) (tSeq (tDrop (tBM K "list" rAppend (tVar 1) (tCons (tTup (tCons (tVar 3) (tCons (tOp qAdd (tVar 3) (tC (.int 1))) (tCons (tC (.int 0)) (tCons (tTup (tCons (tC (.int 0)) (tCons (tVar 3) tNil))) tNil))))) tNil)))
  (tIfS (tTest (tOp qGt (tOp (rIxL K) (tFld K (tVar 0) "idle") (tVar 3)) (tC (.int 0)))) (tDrop (tBM K "list" rAppend (tVar 2) (tCons (tTup (tCons (tOp qAdd (tVar 3) (tC (.int 1))) (tCons (tVar 3) (tCons (tC (.int 0)) (tCons (tTup (tCons (tC (.int 1)) (tCons (tVar 3) tNil))) tNil))))) tNil))) tNext)))
  (tSeq (tFor (iEnum K (tCons (tFld K (tVar 0) "ends") tNil)) (gTup K 2 (gCons (gName 3) (gCons (gName 4) gNil))) (tSeq (tAsg (tVar 4) (gTup K 3 (gCons (gName 5) (gCons (gName 6) (gCons (gName 7) gNil)))))
  (tIfS (tB (tOp (rIxL K) (tFld K (tVar 0) "taken") (tVar 3))) (tDrop (tBM K "list" rAppend (tVar 2) (tCons (tTup (tCons (tVar 6) (tCons (tVar 5) (tCons (tUn qNeg (tVar 7)) (tCons (tTup (tCons (tC (.int 3)) (tCons (tVar 3) tNil))) tNil))))) tNil))) (tDrop (tBM K "list" rAppend (tVar 1) (tCons (tTup (tCons (tVar 5) (tCons (tVar 6) (tCons (tVar 7) (tCons (tTup (tCons (tC (.int 2)) (tCons (tVar 3) tNil))) tNil))))) tNil))))))
  (tRet (tOp rCat (tCB (rSortedD K) (tCons (tVar 1) tNil)) (tRevL K (tCB (rSortedD K) (tCons (tVar 2) tNil)))))))))

/-- Ways.most -/
def t_Ways_most (K : PySem.W.Frag) (w : World) : TS :=
  (tSeq (tAsg (tMeth (He.ga K "Ways") "steps" (sp_Ways_steps K w) [] E0 (tVar 0) tNil) (gName 1))
  (tSeq (tAsg (tLc (iList K (tFld K (tVar 0) "days")) (gName 10) tYes (tC .non) [10]) (gName 2))
  (tSeq (tAsg (tC (.int 0)) (gSub (tVar 2) (tC (.int 0)) L2.rSetL))
  (tSeq (tAsg (tLc (iList K (tFld K (tVar 0) "days")) (gName 10) tYes (tC .non) [10]) (gName 3))
  (tSeq (tAsg (tC (.bl true)) (gName 4))
  (tSeq (tWhile (tB (tVar 4)) (tSeq (tAsg (tC (.bl false)) (gName 4))
  (tFor (iList K (tVar 1)) (gName 5) (tSeq (tAsg (tVar 5) (gTup K 4 (gCons (gName 6) (gCons (gName 7) (gCons (gName 8) (gCons (gName 9) gNil))))))
  (tIfS (tAnd (tB (tNotN (tOp (rIxL K) (tVar 2) (tVar 6)))) (tOr (tB (tIsN (tOp (rIxL K) (tVar 2) (tVar 7)))) (tTest (tOp qGt (tOp qAdd (tOp (rIxL K) (tVar 2) (tVar 6)) (tVar 8)) (tOp (rIxL K) (tVar 2) (tVar 7)))))) (tSeq (tAsg (tOp qAdd (tOp (rIxL K) (tVar 2) (tVar 6)) (tVar 8)) (gSub (tVar 2) (tVar 7) L2.rSetL))
  (tSeq (tAsg (tVar 5) (gSub (tVar 3) (tVar 7) L2.rSetL))
  (tAsg (tC (.bl true)) (gName 4)))) tNext)))))
  (tRet (tTup (tCons (tVar 2) (tCons (tVar 3) tNil))))))))))

/-- Ways.lead -/
def t_Ways_lead (K : PySem.W.Frag) (w : World) : TS :=
  (tSeq (tAsg (tMeth (He.ga K "Ways") "most" (sp_Ways_most K w) [] E0 (tVar 0) tNil) (gTup K 2 (gCons (gName 1) (gCons (gName 2) gNil))))
  (tSeq (tAsg (tOp qSub (tCB (qLen K) (tCons (tFld K (tVar 0) "days") tNil)) (tC (.int 1))) (gName 3))
  (tWhile (tTest (tOp qGt (tVar 3) (tC (.int 0)))) (tSeq (tAsg (tOp (rIxL K) (tVar 2) (tVar 3)) (gTup K 4 (gCons (gName 4) (gCons (gName 5) (gCons (gName 6) (gCons (gName 7) gNil))))))
  (tSeq (tAsg (tVar 7) (gTup K 2 (gCons (gName 8) (gCons (gName 9) gNil))))
  (tSeq (tIfS (tTest (tOp qLt (tVar 8) (tC (.int 2)))) (tAugS (tFld K (tVar 0) "idle") (tVar 9) (tOp qSub (tC (.int 1)) (tOp qMul (tC (.int 2)) (tVar 8))) (rGetL K) qAddI L2.rSetL) (tAsg (tOp rEq (tVar 8) (tC (.int 2))) (gSub (tFld K (tVar 0) "taken") (tVar 9) L2.rSetL)))
  (tAsg (tVar 4) (gName 3))))))))

/-- Ways.choice -/
def t_Ways_choice (K : PySem.W.Frag) (w : World) : TS :=
  (tRet (tLc (iEnum K (tCons (tFld K (tVar 0) "taken") tNil)) (gTup K 2 (gCons (gName 1) (gCons (gName 2) gNil))) (tB (tVar 2)) (tVar 1) [1, 2]))

/-- Ways.amounts -/
def t_Ways_amounts (K : PySem.W.Frag) (w : World) : TS :=
  (tSeq (tAsg (tMeth (He.ga K "Ways") "most" (sp_Ways_most K w) [] E0 (tVar 0) tNil) (gTup K 2 (gCons (gName 1) (gCons (gName 2) gNil))))
  (tSeq (tAsg (tLst tNil) (gName 3))
  (tSeq (tFor (iRng1 (tCons (tCB (qLen K) (tCons (tFld K (tVar 0) "idle") tNil)) tNil)) (gName 4) (tIfS (tTest (tOp qGt (tOp (rIxL K) (tVar 1) (tOp qAdd (tVar 4) (tC (.int 1)))) (tOp (rIxL K) (tVar 1) (tVar 4)))) (tDrop (tBM K "list" rAppend (tVar 3) (tCons (tTup (tCons (tOp (rIxL K) (tFld K (tVar 0) "days") (tVar 4)) (tCons (tOp qSub (tOp (rIxL K) (tVar 1) (tOp qAdd (tVar 4) (tC (.int 1)))) (tOp (rIxL K) (tVar 1) (tVar 4))) tNil))) tNil))) tNext))
  (tRet (tVar 3)))))

/-- best_of -/
def t_best_of (K : PySem.W.Frag) (w : World) : TS :=
  (tSeq (tIfS (tTest (tOp rEq (tCB (qLen K) (tCons (tVar 0) tNil)) (tC (.int 0)))) (tRet (tTup (tCons (tLst tNil) (tCons (tLst tNil) tNil)))) tNext)
  (tSeq (tAsg (tMake (He.ga K "Ways") (sp_Ways___init__ K w) [] E0 (tCons (tVar 0) (tCons (tVar 1) tNil))) (gName 2))
  (tRet (tTup (tCons (tMeth (He.ga K "Ways") "choice" (sp_Ways_choice K w) [] E0 (tVar 2) tNil) (tCons (tMeth (He.ga K "Ways") "amounts" (sp_Ways_amounts K w) [] E0 (tVar 2) tNil) tNil))))))

/-- best -/
def t_best (K : PySem.W.Frag) (w : World) : TS :=
  (tSeq (tDrop (tCall (sp_check_requests K w) [] E0 (tCons (tVar 0) tNil)))
  (tSeq (tDrop (tCall (sp_check_rooms K w) [] E0 (tCons (tVar 1) (tCons (tC (.int 0)) tNil))))
  (tSeq (tAsg (tCall (sp_best_of K w) [] E0 (tCons (tVar 0) (tCons (tVar 1) tNil))) (gTup K 2 (gCons (gName 2) (gCons (gName 3) gNil))))
  (tRet (tMake (He.ga K "Best") (sp_Best___init__ K w) [] E0 (tCons (tVar 2) (tCons (tVar 3) tNil)))))))

end Spn

namespace Spn
open PySem PySem.Spec PyProof.Rows L2
/-! ### for i, x in enumerate(xs) -/
theorem for_enum {K : PySem.W.Frag} {a : Addr} {xs : List V} {g : TG} {tb : TS} {D : Ends} {σ : L2.St} {H : Hp} (Pv : Nat → L2.St → Hp → Prop) (h0 : Pv 0 σ H) (hl : ∀ i σ H, i ≤ xs.length → Pv i σ H → SqL K H a xs)
    (hs : ∀ i x σ H T, xs[i]? = some x → Pv i σ H → H T = none → g (.ref T) σ (upd H T (.tup [.int (i : Nat), x])) fun σ2 H2 => tb { D with nx := Pv (i + 1), ct := Pv (i + 1), bk := D.nx } σ2 H2) (hd : ∀ σ H, Pv xs.length σ H → D.nx σ H) :
    ∃ W : Nat → Nat → L2.St → Hp → Prop, (∃ m, W 0 m σ H) ∧ ∀ i m σ H, W i m σ H →
      ((Ite K a).stop i H ∧ D.nx σ H) ∨ ((Ite K a).go i H ∧ ∃ N : L2.St → Hp → Prop, (∀ σ' H', N σ' H' → ∃ m', m' < m ∧ W (i + 1) m' σ' H') ∧ ∀ x H', (Ite K a).yld i H x H' → g x σ H' fun σ2 H2 => tb { D with nx := N, ct := N, bk := D.nx } σ2 H2) := by
  refine ⟨fun i m σ H => m = xs.length - i ∧ i ≤ xs.length ∧ Pv i σ H, ⟨xs.length, by simp, Nat.zero_le _, h0⟩, ?_⟩
  rintro i m σ H ⟨rfl, hi, p⟩
  have q := hl i σ H hi p
  by_cases hlt : i < xs.length
  · refine .inr ⟨⟨xs, xs[i], q, by simp [hlt]⟩, Pv (i + 1), fun σ' H' p' => ⟨xs.length - (i + 1), by omega, rfl, hlt, p'⟩, fun x H' y => ?_⟩
    obtain ⟨T, z, rfl, hT, rfl, hz⟩ := y
    exact hs i z σ H T (hz xs q) p hT
  · have e : i = xs.length := by omega
    subst e
    exact .inl ⟨⟨xs, q, Nat.le_refl _⟩, hd σ H p⟩
theorem tFor_rng1 {n : Nat} {ta : TA} {g : TG} {tb : TS} {D : Ends} {σ : L2.St} {H : Hp} (ea : ∀ R : List V → Hp → Prop, R [.int n] H → ta σ H R) (hz : n < 2 ^ 62) (Pv : Nat → L2.St → Hp → Prop) (h0 : Pv 0 σ H)
    (hs : ∀ i σ H (nx : L2.St → Hp → Prop), (∀ σ' H', Pv (i + 1) σ' H' → nx σ' H') → i < n → Pv i σ H → g (.int i) σ H fun σ2 H2 => tb { D with nx := nx, ct := nx, bk := D.nx } σ2 H2) (hd : ∀ σ H, Pv n σ H → D.nx σ H) : tFor (iRng1 ta) g tb D σ H := by
  refine ea _ ⟨n, rfl, by omega, by omega, ?_⟩
  rw [Int.toNat_natCast]
  refine for_range Pv h0 (fun i σ H hi p => ?_) hd
  rw [Int.zero_add]
  exact hs i σ H _ (fun _ _ h => h) hi p
theorem tFor_lst {K : PySem.W.Frag} {a : Addr} {xs : List V} {ta : TE} {g : TG} {tb : TS} {D : Ends} {σ : L2.St} {H : Hp} (ea : ∀ R : VK, R (.ref a) H → ta σ H R) (Pv : Nat → L2.St → Hp → Prop) (h0 : Pv 0 σ H) (hl : ∀ i σ H, Pv i σ H → H a = some (.lst xs))
    (hs : ∀ i x σ H (nx : L2.St → Hp → Prop), (∀ σ' H', Pv (i + 1) σ' H' → nx σ' H') → xs[i]? = some x → Pv i σ H → g x σ H fun σ2 H2 => tb { D with nx := nx, ct := nx, bk := D.nx } σ2 H2) (hd : ∀ σ H, Pv xs.length σ H → D.nx σ H) : tFor (iList K ta) g tb D σ H :=
  ea _ ⟨a, rfl, ⟨xs, SqL.of (hl 0 σ H h0)⟩, for_list (K := K) (a := a) (xs := xs) Pv h0 (fun i σ H _ p => SqL.of (hl i σ H p)) (fun i x σ H => hs i x σ H _ (fun _ _ h => h)) hd⟩
theorem tFor_tup {K : PySem.W.Frag} {a : Addr} {xs : List V} {ta : TE} {g : TG} {tb : TS} {D : Ends} {σ : L2.St} {H : Hp} (ea : ∀ R : VK, R (.ref a) H → ta σ H R) (Pv : Nat → L2.St → Hp → Prop) (h0 : Pv 0 σ H) (hl : ∀ i σ H, Pv i σ H → H a = some (.tup xs))
    (hs : ∀ i x σ H (nx : L2.St → Hp → Prop), (∀ σ' H', Pv (i + 1) σ' H' → nx σ' H') → xs[i]? = some x → Pv i σ H → g x σ H fun σ2 H2 => tb { D with nx := nx, ct := nx, bk := D.nx } σ2 H2) (hd : ∀ σ H, Pv xs.length σ H → D.nx σ H) : tFor (iTup K ta) g tb D σ H :=
  ea _ ⟨a, rfl, ⟨xs, SqT.of (hl 0 σ H h0)⟩, for_tup (K := K) (a := a) (xs := xs) Pv h0 (fun i σ H _ p => SqT.of (hl i σ H p)) (fun i x σ H => hs i x σ H _ (fun _ _ h => h)) hd⟩
theorem tFor_enum {K : PySem.W.Frag} {a : Addr} {xs : List V} {ta : TA} {g : TG} {tb : TS} {D : Ends} {σ : L2.St} {H : Hp} (ea : ∀ R : List V → Hp → Prop, R [.ref a] H → ta σ H R) (Pv : Nat → L2.St → Hp → Prop) (h0 : Pv 0 σ H) (hl : ∀ i σ H, Pv i σ H → H a = some (.lst xs))
    (hs : ∀ i x σ H T (nx : L2.St → Hp → Prop), (∀ σ' H', Pv (i + 1) σ' H' → nx σ' H') → xs[i]? = some x → Pv i σ H → H T = none → g (.ref T) σ (upd H T (.tup [.int (i : Nat), x])) fun σ2 H2 => tb { D with nx := nx, ct := nx, bk := D.nx } σ2 H2) (hd : ∀ σ H, Pv xs.length σ H → D.nx σ H) : tFor (iEnum K ta) g tb D σ H :=
  ea _ ⟨a, xs, rfl, SqL.of (hl 0 σ H h0), for_enum (K := K) (a := a) (xs := xs) Pv h0 (fun i σ H _ p => SqL.of (hl i σ H p)) (fun i x σ H T => hs i x σ H T _ (fun _ _ h => h)) hd⟩
/-! ### what stays under new things and lists that change -/
abbrev TK (H H' : Hp) : Prop := ∀ b xs, H b = some (.tup xs) → H' b = some (.tup xs)
theorem TK.refl (H : Hp) : TK H H := fun _ _ h => h
theorem TK.trans {H H1 H2 : Hp} (a : TK H H1) (b : TK H1 H2) : TK H H2 := fun c xs h => b c xs (a c xs h)
theorem TK.same {H H' : Hp} (s : Same H H') : TK H H' := fun b xs h => s b _ h
theorem TK.lst {H H' : Hp} {a : Addr} {l : List V} {o : HO} (s : TK H H') (h : H' a = some (.lst l)) : TK H (upd H' a o) := fun b xs e => by
  rw [upd_ne (ne_of (s b xs e) h (by intro z; cases z))]
  exact s b xs e
theorem TK.new {H H' : Hp} {a : Addr} {o : HO} (s : TK H H') (h : H' a = none) : TK H (upd H' a o) := fun b xs e => by
  rw [upd_ne (ne_of_none (s b xs e) h)]
  exact s b xs e
theorem Same.upd3 {H H' : Hp} {p : Addr} {o : HO} (s : Same H H') (h : H p = none) : Same H (L2.upd H' p o) := fun b u e => by rw [upd_ne (ne_of_none e h)]; exact s b u e
theorem IsSt.keep {H H' : Hp} {v : V} {st : Net.Stp} (h : IsSt H v st) (k : TK H H') : IsSt H' v st := by
  obtain ⟨t, u, e, h1, h2⟩ := h
  exact ⟨t, u, e, k _ _ h1, k _ _ h2⟩
theorem IsE.keep {H H' : Hp} {v : V} {st : Nat × Nat × Int} (h : IsE H v st) (k : TK H H') : IsE H' v st := by
  obtain ⟨t, e, h1⟩ := h
  exact ⟨t, e, k _ _ h1⟩
theorem IsP.keep {H H' : Hp} {v : V} {st : Int × Int} (h : IsP H v st) (k : TK H H') : IsP H' v st := by
  obtain ⟨t, e, h1⟩ := h
  exact ⟨t, e, k _ _ h1⟩
theorem IsR.keep {H H' : Hp} {v : V} {st : Rq} (h : IsR H v st) (k : TK H H') : IsR H' v st := by
  obtain ⟨t, e, h1⟩ := h
  exact ⟨t, e, k _ _ h1⟩
theorem IsO.keep {H H' : Hp} {v : V} {o : Option Net.Stp} (h : IsO H v o) (k : TK H H') : IsO H' v o := by
  cases o with
  | none => exact h
  | some st => exact IsSt.keep h k
/-- what stood, and the new lists and tuples -/
def ltH (H H4 : Hp) : Hp := fun b => match H b, H4 b with
  | some _, o => o
  | none, some (.lst l) => some (.lst l)
  | none, some (.tup l) => some (.tup l)
  | none, _ => none
theorem ltH_old {H H4 : Hp} {b : Addr} {o : HO} (h : H b = some o) : ltH H H4 b = H4 b := by
  unfold ltH
  rw [h]
theorem ltH_lst {H H4 : Hp} {b : Addr} {l : List V} (h : H4 b = some (.lst l)) : ltH H H4 b = some (.lst l) := by
  unfold ltH
  rw [h]
  cases H b <;> rfl
theorem ltH_tup {H H4 : Hp} {b : Addr} {l : List V} (h : H4 b = some (.tup l)) : ltH H H4 b = some (.tup l) := by
  unfold ltH
  rw [h]
  cases H b <;> rfl
theorem ltH_tk (H H4 : Hp) : TK H4 (ltH H H4) := fun _ _ h => ltH_tup h
theorem ltH_same {H H4 : Hp} (s : Same H H4) : Same H (ltH H H4) := fun b o h => by rw [ltH_old h]; exact s b o h
theorem ltH_new {H H4 : Hp} {b : Addr} {o : HO} (h : H b = none) (e : ltH H H4 b = some o) : (∃ l, o = .lst l) ∨ ∃ l, o = .tup l := by
  unfold ltH at e
  rw [h] at e
  cases q : H4 b with
  | none => rw [q] at e; cases e
  | some u =>
    rw [q] at e
    cases u with
    | lst l => exact .inl ⟨l, (Option.some.inj e).symm⟩
    | tup l => exact .inr ⟨l, (Option.some.inj e).symm⟩
    | _ => cases e
theorem ltH_noT {H H4 : Hp} (n : NoT H) (s : Same H H4) : NoT (ltH H H4) := fun b o e => by
  cases h : H b with
  | some u =>
    rw [ltH_old h, s b u h] at e
    cases e
    exact n b _ h
  | none =>
    rcases ltH_new h e with ⟨l, rfl⟩ | ⟨l, rfl⟩ <;> rfl
theorem ltH_shr {H H4 : Hp} (n : NoT H) (s : Same H H4) : Shr H (ltH H H4) H4 := by
  refine ⟨fun b o h => ltH_old h, fun b o e => ?_, fun a C dx fs e => ?_, ltH_noT n s⟩
  · cases h : H b with
    | some u => rw [ltH_old h] at e; exact e
    | none =>
      unfold ltH at e
      rw [h] at e
      cases q : H4 b with
      | none => rw [q] at e; cases e
      | some u =>
        rw [q] at e
        cases u with
        | lst l => exact e
        | tup l => exact e
        | _ => cases e
  · cases h : H a with
    | some u =>
      rw [ltH_old h, s a u h] at e
      cases e
      exact .inl ⟨_, _, rfl⟩
    | none =>
      rcases ltH_new h e with ⟨l, z⟩ | ⟨l, z⟩ <;> cases z
theorem Fin.new {H : Hp} {Q Q0 : VK} (fin : Fin H Q Q0) (n : NoT H) {v : V} {H4 : Hp} (s : Same H H4) (q : Q v (ltH H H4)) : Q0 v H4 := fin _ _ _ (ltH_shr n s) q
/-- xs.append(x) -/
theorem rapp {K : PySem.W.Frag} {H : Hp} {l : Addr} {xs : List V} {y : V} {Q : VK} (h : H l = some (.lst xs)) (hz : xs.length < sizeLine) (q : Q .non (upd H l (.lst (xs ++ [y])))) : rAppend (.ref l) [y] H Q := ⟨l, xs, y, rfl, rfl, h, hz, q⟩
theorem ty_lst {K : PySem.W.Frag} {H : Hp} {l : Addr} {xs : List V} (h : H l = some (.lst xs)) : tyV K "list" (.ref l) H := .inl ⟨rfl, _, SqL.of h⟩
/-! ### sorted steps -/
theorem perm_paired {α β : Type} {F : α → β → Prop} {ys xs : List α} (p : ys.Perm xs) : ∀ {bs : List β}, Paired F xs bs → ∃ cs : List β, cs.Perm bs ∧ Paired F ys cs := by
  induction p with
  | nil => intro bs h; exact ⟨bs, List.Perm.refl _, h⟩
  | cons x p ih =>
    intro bs h
    cases h with
    | cons r t =>
      obtain ⟨cs, q, z⟩ := ih t
      exact ⟨_ :: cs, q.cons _, .cons r z⟩
  | swap x y l =>
    intro bs h
    cases h with
    | cons r t =>
      cases t with
      | cons r' t =>
        exact ⟨_ :: _ :: _, List.Perm.swap _ _ _, .cons r' (.cons r t)⟩
  | trans p q ih1 ih2 =>
    intro bs h
    obtain ⟨cs, a, b⟩ := ih2 h
    obtain ⟨es, c, d⟩ := ih1 b
    exact ⟨es, c.trans a, d⟩
def stD (st : Net.Stp) : PyData := .tuple [.int st.s, .int st.e, .int st.m, .tuple [.int st.kd, .int st.ix]]
theorem st_dp {K : PySem.W.Frag} {H : Hp} {v : V} {st : Net.Stp} (h : IsSt H v st) : Dp K H v (stD st) := by
  obtain ⟨t, u, rfl, h1, h2⟩ := h
  exact .tup (SqT.of h1) (.cons (.int _) (.cons (.int _) (.cons (.int _) (.cons (.tup (SqT.of h2) (.cons (.int _) (.cons (.int _) .nil))) .nil))))
theorem st_dps {K : PySem.W.Frag} {H : Hp} : ∀ {vs : List V} {sts : List Net.Stp}, Paired (IsSt H) vs sts → DpAll K H vs (sts.map stD)
  | _, _, .nil => .nil
  | _, _, .cons r t => .cons (st_dp r) (st_dps t)
theorem st_depth (st : Net.Stp) : (stD st).depth ≤ 10 := by
  simp [stD, PyData.depth, PyData.depthAll]
theorem rsort_st {K : PySem.W.Frag} {H : Hp} {p : Addr} {sts : List Net.Stp} {Q : VK} (h : StepsAt H p sts) (q : ∀ (vs : List V) (sts' : List Net.Stp) (d : Addr), H d = none → sts'.Perm sts → Paired (IsSt H) vs sts' → Q (.ref d) (upd H d (.lst vs))) : rSortedD K [.ref p] H Q := by
  obtain ⟨vs, e, pr⟩ := h
  refine ⟨p, vs, sts.map stD, rfl, SqL.of e, st_dps pr, PySem.W.AllAlike.of fun a b => ?_, PySem.W.Sortable.tuples fun b => ⟨_, _, rfl⟩, fun d hd => ?_, fun ys d hp hd => ?_⟩
  · simp [stD, PySem.W.alike, PySem.W.alikeAll]
  · obtain ⟨st, _, rfl⟩ := List.mem_map.mp hd
    exact st_depth st
  · obtain ⟨cs, a, b⟩ := perm_paired hp pr
    exact q ys cs d hd a b
end Spn

namespace Spn
open PySem PySem.Spec PyProof.Rows L2
section
variable {K : PySem.W.Frag} {w : World} {vs : List V} {H : Hp} {Q Q0 : VK} {E : XK}
theorem wf_days (a b c d : Addr) : (waysF a b c d).lookup ("days" : Str) = some (.ref a) := lk_here
theorem wf_ends (a b c d : Addr) : (waysF a b c d).lookup ("ends" : Str) = some (.ref b) := (lk_past (by decide +kernel)).trans lk_here
theorem wf_taken (a b c d : Addr) : (waysF a b c d).lookup ("taken" : Str) = some (.ref c) := (lk_past (by decide +kernel)).trans ((lk_past (by decide +kernel)).trans lk_here)
theorem wf_idle (a b c d : Addr) : (waysF a b c d).lookup ("idle" : Str) = some (.ref d) := (lk_past (by decide +kernel)).trans ((lk_past (by decide +kernel)).trans ((lk_past (by decide +kernel)).trans lk_here))
/-- a step laid and put behind a list -/
theorem app_new {H' : Hp} {c : Addr} {xs : List V} {s e m kd ix : Int} {nx : Hp → Prop} (hc : H' c = some (.lst xs)) (hz : xs.length < sizeLine) (n : NoT H')
    (k : ∀ H3 v, (∀ st : Net.Stp, (st.s : Int) = s → (st.e : Int) = e → st.m = m → st.kd = kd → (st.ix : Int) = ix → IsSt H3 v st) → TK H' H3 → (∀ b o, H' b = some o → b ≠ c → H3 b = some o) → H3 c = some (.lst (xs ++ [v])) → NoT H3 → nx H3) :
    tyV K "list" (.ref c) H' ∧ 2 ≤ sizeLine ∧ ∀ p, H' p = none → 4 ≤ sizeLine ∧ ∀ t, upd H' p (.tup [.int kd, .int ix]) t = none → rAppend (.ref c) [.ref t] (upd (upd H' p (.tup [.int kd, .int ix])) t (.tup [.int s, .int e, .int m, .ref p])) fun x H1 => nx H1 := by
  refine ⟨ty_lst (K := K) hc, by decide, fun p hp => ⟨by decide, fun t ht => ?_⟩⟩
  have s1 := Same.upd (o := .tup [.int kd, .int ix]) hp
  have s2 := Same.upd2 (o := .tup [.int s, .int e, .int m, .ref p]) s1 ht
  have hc2 := s2 _ _ hc
  refine rapp (K := K) hc2 hz (k _ (.ref t) (fun st e1 e2 e3 e4 e5 => ?_) ((TK.same s2).lst hc2) (fun b o h ne => by rw [upd_ne ne]; exact s2 b o h) upd_same ((n.upd).upd).upd)
  have ntp : t ≠ p := fun z => by rw [z, upd_same] at ht; cases ht
  refine ⟨t, p, rfl, ?_, ?_⟩
  · rw [upd_ne (ne_of (H := upd (upd H' p (.tup [.int kd, .int ix])) t (.tup [.int s, .int e, .int m, .ref p])) upd_same hc2 (by intro z; cases z)), upd_same, e1, e2, e3]
  · have hp2 : (upd (upd H' p (.tup [.int kd, .int ix])) t (.tup [.int s, .int e, .int m, .ref p])) p = some (.tup [.int kd, .int ix]) := by rw [upd_ne ntp.symm, upd_same]
    rw [upd_ne (ne_of hp2 hc2 (by intro z; cases z)), hp2, e4, e5]
structure SI (H H' : Hp) (pf pb : Addr) (F B : List Net.Stp) : Prop where
  s : Same H H'
  n : NoT H'
  f : StepsAt H' pf F
  b : StepsAt H' pb B
theorem SI.addF {H H' H3 : Hp} {pf pb : Addr} {F B : List Net.Stp} {st : Net.Stp} {xs : List V} {v : V} (I : SI H H' pf pb F B) (hf : H pf = none) (ne : pf ≠ pb) (hx : H' pf = some (.lst xs)) (px : Paired (IsSt H') xs F) (is : IsSt H3 v st) (tk : TK H' H3) (keep : ∀ b o, H' b = some o → b ≠ pf → H3 b = some o) (e : H3 pf = some (.lst (xs ++ [v]))) (n3 : NoT H3) : SI H H3 pf pb (F ++ [st]) B := by
  obtain ⟨ys, hy, py⟩ := I.b
  exact ⟨fun b o h => keep b o (I.s b o h) (ne_of_none h hf), n3, ⟨_, e, (px.mono fun _ _ q => q.keep tk).snoc is⟩, ⟨ys, keep _ _ hy ne.symm, py.mono fun _ _ q => q.keep tk⟩⟩
theorem SI.addB {H H' H3 : Hp} {pf pb : Addr} {F B : List Net.Stp} {st : Net.Stp} {xs : List V} {v : V} (I : SI H H' pf pb F B) (hf : H pb = none) (ne : pf ≠ pb) (hx : H' pb = some (.lst xs)) (px : Paired (IsSt H') xs B) (is : IsSt H3 v st) (tk : TK H' H3) (keep : ∀ b o, H' b = some o → b ≠ pb → H3 b = some o) (e : H3 pb = some (.lst (xs ++ [v]))) (n3 : NoT H3) : SI H H3 pf pb F (B ++ [st]) := by
  obtain ⟨ys, hy, py⟩ := I.f
  exact ⟨fun b o h => keep b o (I.s b o h) (ne_of_none h hf), n3, ⟨ys, keep _ _ hy ne, py.mono fun _ _ q => q.keep tk⟩, ⟨_, e, (px.mono fun _ _ q => q.keep tk).snoc is⟩⟩
/-- the steps so far -/
def Part (N : Net) (id : List Int) (tk : List Bool) (i r : Nat) (st : Net.Stp) : Prop :=
  (∃ j, j < i ∧ st = ⟨j, j + 1, 0, 0, j⟩) ∨ (∃ j, j < i ∧ 0 < idF id j ∧ st = ⟨j + 1, j, 0, 1, j⟩) ∨ (∃ j, j < r ∧ tkF tk j = false ∧ st = ⟨N.fi j, N.ei j, N.p j, 2, j⟩) ∨ (∃ j, j < r ∧ tkF tk j = true ∧ st = ⟨N.ei j, N.fi j, -N.p j, 3, j⟩)
theorem part_iff {N : Net} {id : List Int} {tk : List Bool} {st : Net.Stp} : Part N id tk N.L N.n st ↔ N.IsStep (idF id) (tkF tk) st := by
  constructor
  · rintro (⟨j, h, rfl⟩ | ⟨j, h, h2, rfl⟩ | ⟨j, h, h2, rfl⟩ | ⟨j, h, h2, rfl⟩)
    · exact .on j h
    · exact .off j h h2
    · exact .take j h h2
    · exact .give j h h2
  · intro h
    cases h with
    | on j h => exact .inl ⟨j, h, rfl⟩
    | off j h h2 => exact .inr (.inl ⟨j, h, h2, rfl⟩)
    | take j h h2 => exact .inr (.inr (.inl ⟨j, h, h2, rfl⟩))
    | give j h h2 => exact .inr (.inr (.inr ⟨j, h, h2, rfl⟩))
theorem part_on {N : Net} {id : List Int} {tk : List Bool} {i : Nat} {st : Net.Stp} : Part N id tk (i + 1) 0 st ↔ Part N id tk i 0 st ∨ st = ⟨i, i + 1, 0, 0, i⟩ ∨ (0 < idF id i ∧ st = ⟨i + 1, i, 0, 1, i⟩) := by
  constructor
  · rintro (⟨j, h, rfl⟩ | ⟨j, h, h2, rfl⟩ | ⟨j, h, h2, rfl⟩ | ⟨j, h, h2, rfl⟩)
    · by_cases c : j = i
      · subst c; exact .inr (.inl rfl)
      · exact .inl (.inl ⟨j, by omega, rfl⟩)
    · by_cases c : j = i
      · subst c; exact .inr (.inr ⟨h2, rfl⟩)
      · exact .inl (.inr (.inl ⟨j, by omega, h2, rfl⟩))
    · omega
    · omega
  · rintro ((⟨j, h, rfl⟩ | ⟨j, h, h2, rfl⟩ | ⟨j, h, h2, rfl⟩ | ⟨j, h, h2, rfl⟩) | rfl | ⟨h2, rfl⟩)
    · exact .inl ⟨j, by omega, rfl⟩
    · exact .inr (.inl ⟨j, by omega, h2, rfl⟩)
    · omega
    · omega
    · exact .inl ⟨i, by omega, rfl⟩
    · exact .inr (.inl ⟨i, by omega, h2, rfl⟩)
theorem part_take {N : Net} {id : List Int} {tk : List Bool} {L i : Nat} {st : Net.Stp} : Part N id tk L (i + 1) st ↔ Part N id tk L i st ∨ (tkF tk i = false ∧ st = ⟨N.fi i, N.ei i, N.p i, 2, i⟩) ∨ (tkF tk i = true ∧ st = ⟨N.ei i, N.fi i, -N.p i, 3, i⟩) := by
  constructor
  · rintro (⟨j, h, rfl⟩ | ⟨j, h, h2, rfl⟩ | ⟨j, h, h2, rfl⟩ | ⟨j, h, h2, rfl⟩)
    · exact .inl (.inl ⟨j, h, rfl⟩)
    · exact .inl (.inr (.inl ⟨j, h, h2, rfl⟩))
    · by_cases c : j = i
      · subst c; exact .inr (.inl ⟨h2, rfl⟩)
      · exact .inl (.inr (.inr (.inl ⟨j, by omega, h2, rfl⟩)))
    · by_cases c : j = i
      · subst c; exact .inr (.inr ⟨h2, rfl⟩)
      · exact .inl (.inr (.inr (.inr ⟨j, by omega, h2, rfl⟩)))
  · rintro ((⟨j, h, rfl⟩ | ⟨j, h, h2, rfl⟩ | ⟨j, h, h2, rfl⟩ | ⟨j, h, h2, rfl⟩) | ⟨h2, rfl⟩ | ⟨h2, rfl⟩)
    · exact .inl ⟨j, h, rfl⟩
    · exact .inr (.inl ⟨j, h, h2, rfl⟩)
    · exact .inr (.inr (.inl ⟨j, by omega, h2, rfl⟩))
    · exact .inr (.inr (.inr ⟨j, by omega, h2, rfl⟩))
    · exact .inr (.inr (.inl ⟨i, by omega, h2, rfl⟩))
    · exact .inr (.inr (.inr ⟨i, by omega, h2, rfl⟩))
theorem idF_get {id : List Int} {j : Nat} (h : j < id.length) : (id.map V.int)[j]? = some (.int (idF id j)) := by
  rw [List.getElem?_map, List.getElem?_eq_getElem h]
  unfold idF
  rw [List.getD_eq_getElem?_getD, List.getElem?_eq_getElem h]
  rfl
theorem tkF_get {tk : List Bool} {j : Nat} (h : j < tk.length) : (tk.map V.bl)[j]? = some (.bl (tkF tk j)) := by
  rw [List.getElem?_map, List.getElem?_eq_getElem h]
  unfold tkF
  rw [List.getD_eq_getElem?_getD, List.getElem?_eq_getElem h]
  rfl
theorem pure_Ways_steps (C : WaysC K) (h : sp_Ways_steps K w vs H Q E) (fin : Fin H Q Q0) : t_Ways_steps K w (endS Q0) (start ["self", "forth", "back", "at", "request", "first", "end", "price"] vs) H := by
  obtain ⟨a, N, ld, le, lt, li, ds, es, tk, id, rfl, W, n, q⟩ := h
  obtain ⟨dx, hx⟩ := W.ins
  obtain ⟨vE, hE, pE⟩ := W.ends
  have zL := W.zL
  have zn := W.zn
  have big : ∀ m, m ≤ 4000 → m < sizeLine := fun m hm => by rw [sizeLine_eq]; omega
  refine seq_i fun nx k => ?_
  try walk_at "rd"
  refine ⟨Nat.zero_le _, fun pf hpf => k _ _ (seq_i fun nx2 k2 => ?_)⟩
  try walk_at "rd"
  refine ⟨Nat.zero_le _, fun pb hpb => k2 _ _ (seq_i fun nx3 k3 => ?_)⟩
  have s1 := Same.upd (o := .lst []) hpf
  have s2 := Same.upd2 (o := .lst []) s1 hpb
  have npf : pf ≠ pb := fun z => by rw [← z, upd_same] at hpb; cases hpb
  have hpb0 : H pb = none := s1.free hpb
  refine tFor_rng1 (n := N.L) (fun R h => ?_) (by omega) (fun i σ H' => ∃ F B x, σ = [some (.ref a), some (.ref pf), some (.ref pb), x, none, none, none, none] ∧ SI H H' pf pb F B ∧ (∀ st, (st ∈ F ∨ st ∈ B) ↔ Part N id tk i 0 st) ∧ F.length + B.length ≤ 2 * i) ?_ ?_ ?_
  · try walk_at "rd"
    exact rfld (fun Q h => ⟨_, rfl, h⟩) (s2 _ _ hx) C.cl C.ni (wf_idle ld le lt li) (rlen_lst (s2 _ _ W.idle) ((List.length_map _).trans W.lid) h)
  · refine ⟨[], [], none, rfl, ⟨s2, (n.upd).upd, ⟨[], ?_, .nil⟩, ⟨[], upd_same, .nil⟩⟩, fun st => ?_, by simp⟩
    · rw [upd_ne npf, upd_same]
    · constructor
      · rintro (h | h) <;> cases h
      · rintro (⟨j, h, _⟩ | ⟨j, h, _⟩ | ⟨j, h, _⟩ | ⟨j, h, _⟩) <;> omega
  · rintro i σ H' nxL kL hi ⟨F, B, x, rfl, I, mem, len⟩
    refine seq_i fun nx4 k4 => ?_
    obtain ⟨xf, ef, pF⟩ := I.f
    try walk_at "rd"
    refine app_new (nx := nx4 _) ef (big _ (by rw [pF.length]; omega)) I.n fun H3 v is tk3 keep e3 n3 => k4 _ _ (if_i fun th el h1 h2 => ?_)
    have I3 := I.addF hpf npf ef pF (is ⟨i, i + 1, 0, 0, i⟩ rfl rfl rfl rfl rfl) tk3 keep e3 n3
    try walk_at "rd"
    refine rfld (fun Q h => ⟨_, rfl, h⟩) (I3.s _ _ hx) C.cl C.ni (wf_idle ld le lt li) ?_
    refine rix_lst (I3.s _ _ W.idle) (Int.natCast_nonneg i) (by rw [Int.toNat_natCast]; exact idF_get (by rw [W.lid]; exact hi)) ?_
    try walk_at "rd"
    by_cases c : 0 < idF id i
    · rw [if_pos c]
      refine h1 _ ?_
      obtain ⟨xb, eb, pB⟩ := I3.b
      try walk_at "rd"
      refine app_new (nx := nxL _) eb (big _ (by rw [pB.length]; omega)) I3.n fun H4 v is tk4 keep e4 n4 => ?_
      have I4 := I3.addB hpb0 npf eb pB (is ⟨i + 1, i, 0, 1, i⟩ rfl rfl rfl rfl rfl) tk4 keep e4 n4
      refine kL _ _ ⟨_, _, _, rfl, I4, fun st => ?_, by simp; omega⟩
      rw [part_on, ← mem st]
      simp only [List.mem_append, List.mem_singleton, c, true_and]
      constructor
      · rintro ((h | h) | (h | h))
        · exact .inl (.inl h)
        · exact .inr (.inl h)
        · exact .inl (.inr h)
        · exact .inr (.inr h)
      · rintro ((h | h) | (h | h))
        · exact .inl (.inl h)
        · exact .inr (.inl h)
        · exact .inl (.inr h)
        · exact .inr (.inr h)
    · rw [if_neg c]
      refine h2 _ ?_
      refine kL _ _ ⟨_, _, _, rfl, I3, fun st => ?_, by simp; omega⟩
      rw [part_on, ← mem st]
      simp only [List.mem_append, List.mem_singleton, c, false_and, or_false]
      constructor
      · rintro ((h | h) | h)
        · exact .inl (.inl h)
        · exact .inr h
        · exact .inl (.inr h)
      · rintro ((h | h) | h)
        · exact .inl (.inl h)
        · exact .inr h
        · exact .inl (.inr h)
  · rintro σ H' ⟨F, B, x, rfl, I, mem, len⟩
    refine k3 _ _ (seq_i fun nx4 k4 => ?_)
    refine tFor_enum (K := K) (a := le) (xs := vE) (fun R h => ?_) (fun i σ H' => ∃ F B x1 x2 x3 x4 x5, σ = [some (.ref a), some (.ref pf), some (.ref pb), x1, x2, x3, x4, x5] ∧ SI H H' pf pb F B ∧ (∀ st, (st ∈ F ∨ st ∈ B) ↔ Part N id tk N.L i st) ∧ F.length + B.length ≤ 2 * N.L + i) ?_ ?_ ?_ ?_
    · try walk_at "rd"
      exact rfld (fun Q h => ⟨_, rfl, h⟩) (I.s _ _ hx) C.cl C.ne (wf_ends ld le lt li) h
    · exact ⟨F, B, _, _, _, _, _, rfl, I, mem, by omega⟩
    · rintro i σ H' ⟨F, B, _, _, _, _, _, rfl, I, _⟩
      exact I.s _ _ hE
    · rintro i v σ H' T nxL kL hv ⟨F, B, x1, x2, x3, x4, x5, rfl, I, mem, len⟩ hT
      obtain ⟨e, he, t, rfl, ht⟩ := Paired.getR pE hv
      have hin : i < N.n := by rw [← W.les]; exact (List.getElem?_eq_some_iff.mp he).1
      have e2 := W.es i hin
      rw [he] at e2
      have e2 := Option.some.inj e2
      subst e2
      have I1 : SI H (upd H' T (.tup [.int i, .ref t])) pf pb F B := by
        have s := Same.upd (o := .tup [.int i, .ref t]) hT
        obtain ⟨xf, ef, pF⟩ := I.f
        obtain ⟨xb, eb, pB⟩ := I.b
        exact ⟨fun b o h => s _ _ (I.s b o h), I.n.upd, ⟨xf, s _ _ ef, pF.mono fun _ _ q => q.keep (TK.same s)⟩, ⟨xb, s _ _ eb, pB.mono fun _ _ q => q.keep (TK.same s)⟩⟩
      refine gtup2 upd_same (seq_i fun nx5 k5 => ?_)
      try walk_at "rd"
      refine gtup3 (I1.s _ _ ht) (k5 _ _ (if_i fun th el h1 h2 => ?_))
      try walk_at "rd"
      refine rfld (fun Q h => ⟨_, rfl, h⟩) (I1.s _ _ hx) C.cl C.nt (wf_taken ld le lt li) ?_
      refine rix_lst (I1.s _ _ W.taken) (Int.natCast_nonneg i) (by rw [Int.toNat_natCast]; exact tkF_get (by rw [W.ltk]; exact hin)) ⟨_, rfl, ?_⟩
      cases c : tkF tk i with
      | true =>
        refine iteT (h1 _ ?_)
        obtain ⟨xb, eb, pB⟩ := I1.b
        try walk_at "rd"
        refine app_new (nx := nxL _) eb (big _ (by rw [pB.length]; omega)) I1.n fun H4 v is tk4 keep e4 n4 => ?_
        have I4 := I1.addB hpb0 npf eb pB (is ⟨N.ei i, N.fi i, -N.p i, 3, i⟩ rfl rfl rfl rfl rfl) tk4 keep e4 n4
        refine kL _ _ ⟨_, _, _, _, _, _, _, rfl, I4, fun st => ?_, by simp; omega⟩
        rw [part_take, ← mem st]
        simp only [List.mem_append, List.mem_singleton, c, true_and, Bool.true_eq_false, false_and, false_or, or_assoc]
      | false =>
        refine iteF (h2 _ ?_)
        obtain ⟨xf, ef, pF⟩ := I1.f
        try walk_at "rd"
        refine app_new (nx := nxL _) ef (big _ (by rw [pF.length]; omega)) I1.n fun H4 v is tk4 keep e4 n4 => ?_
        have I4 := I1.addF hpf npf ef pF (is ⟨N.fi i, N.ei i, N.p i, 2, i⟩ rfl rfl rfl rfl rfl) tk4 keep e4 n4
        refine kL _ _ ⟨_, _, _, _, _, _, _, rfl, I4, fun st => ?_, by simp; omega⟩
        rw [part_take, ← mem st]
        simp only [List.mem_append, List.mem_singleton, c, true_and, Bool.false_eq_true, false_and, or_false]
        constructor
        · rintro ((h | h) | h)
          · exact .inl (.inl h)
          · exact .inr h
          · exact .inl (.inr h)
        · rintro ((h | h) | h)
          · exact .inl (.inl h)
          · exact .inr h
          · exact .inl (.inr h)
    · rintro σ H' ⟨F, B, x1, x2, x3, x4, x5, rfl, I, mem, len⟩
      refine k4 _ _ ?_
      rw [pE.length, W.les] at mem len
      try walk_at "rd"
      refine rsort_st I.f fun vF F' d1 hd1 pm1 pF => ?_
      have sd1 := Same.upd (o := .lst vF) hd1
      obtain ⟨xb, eb, pB⟩ := I.b
      unfold tRevL
      try walk_at "rd"
      refine rsort_st (⟨xb, sd1 _ _ eb, pB.mono fun _ _ q => q.keep (TK.same sd1)⟩ : StepsAt _ pb B) fun vB B' d2 hd2 pm2 pB' => ⟨d2, rfl, vB, SqL.of upd_same, fun d3 hd3 => ?_⟩
      have sd2 := Same.upd2 (o := .lst vB) sd1 hd2
      have sd3 := Same.upd2 (o := .lst vB.reverse) sd2 hd3
      have l1 : vF.length = F.length := by rw [pF.length, pm1.length_eq]
      have l2 : vB.length = B.length := by rw [pB'.length, pm2.length_eq]
      have hd13 : upd (upd (upd H' d1 (.lst vF)) d2 (.lst vB)) d3 (.lst vB.reverse) d1 = some (.lst vF) := (Same.upd2 (o := .lst vB.reverse) (Same.upd (o := .lst vB) hd2) hd3) _ _ upd_same
      refine ⟨d1, d3, vF, vB.reverse, rfl, rfl, hd13, upd_same, by rw [List.length_reverse, sizeLine_eq]; omega, fun d4 hd4 => ?_⟩
      have sd4 := Same.upd2 (o := .lst (vF ++ vB.reverse)) sd3 hd4
      have sAll : Same H _ := I.s.trans sd4
      have kF : TK (upd H' d1 (.lst vF)) _ := TK.same ((Same.upd2 (o := .lst (vF ++ vB.reverse)) (Same.upd2 (o := .lst vB.reverse) (Same.upd (o := .lst vB) hd2) hd3) hd4))
      have pFin : Paired (IsSt (upd (upd (upd (upd H' d1 (.lst vF)) d2 (.lst vB)) d3 (.lst vB.reverse)) d4 (.lst (vF ++ vB.reverse)))) (vF ++ vB.reverse) (F' ++ B'.reverse) :=
        Paired.app ((pF.mono fun _ _ q => q.keep (TK.same (Same.upd hd1))).mono fun _ _ q => q.keep kF) ((Paired.rev pB').mono fun _ _ q => q.keep kF)
      have hd40 : H d4 = none := (I.s.trans sd3).free hd4
      refine fin.new n sAll (q _ d4 (F' ++ B'.reverse) (ltH_same sAll) (ltH_noT n sAll) hd40 ⟨_, ltH_lst upd_same, pFin.mono fun _ _ q => q.keep (ltH_tk _ _)⟩ (fun st => ?_) ?_)
      · rw [← part_iff, ← mem st, List.mem_append, List.mem_reverse, pm1.mem_iff, pm2.mem_iff]
      · rw [List.length_append, List.length_reverse, pm1.length_eq, pm2.length_eq]
        omega
end
end Spn

namespace Spn
open PySem PySem.Spec PyProof.Rows L2
theorem tWhile_i {c : TT} {tb : TS} {D : Ends} {σ : L2.St} {H : Hp} (W : Nat → L2.St → Hp → Prop) (h0 : ∃ m, W m σ H)
    (hs : ∀ m σ H (th el : Hp → Prop), (∀ H1, (∀ nx : L2.St → Hp → Prop, (∀ σ' H' m', m' < m → W m' σ' H' → nx σ' H') → tb { D with nx := nx, ct := nx, bk := D.nx } σ H1) → th H1) → (∀ H1, D.nx σ H1 → el H1) → W m σ H → c σ H fun b H1 => if b = true then th H1 else el H1) : tWhile c tb D σ H := by
  refine ⟨W, h0, fun m σ H w => ?_⟩
  exact hs m σ H (fun H1 => ∃ N : L2.St → Hp → Prop, (∀ σ' H', N σ' H' → ∃ m', m' < m ∧ W m' σ' H') ∧ tb { D with nx := N, ct := N, bk := D.nx } σ H1) (fun H1 => D.nx σ H1) (fun H1 h => ⟨fun σ' H' => ∃ m', m' < m ∧ W m' σ' H', fun _ _ h => h, h _ fun σ' H' m' l w => ⟨m', l, w⟩⟩) (fun _ h => h) w
theorem rset {H : Hp} {p : Addr} {xs : List V} {k : Int} {j : Nat} {v : V} {Q : Hp → Prop} (h : H p = some (.lst xs)) (e : k = (j : Int)) (hj : j < xs.length) (q : Q (upd H p (.lst (xs.set j v)))) : L2.rSetL (.ref p) (.int k) v H Q := by
  have a : ixN xs.length k = some j := by
    rw [e]
    unfold ixN
    rw [if_pos (by omega)]
    simp
    omega
  exact ⟨p, xs, k, j, rfl, rfl, h, a, q⟩
theorem gsub_set {to ti : TE} {v : V} {σ : L2.St} {H : Hp} {P : L2.St → Hp → Prop} {p : Addr} {xs : List V} {k : Int} {j : Nat} (eo : ∀ Q : VK, Q (.ref p) H → to σ H Q) (ei : ∀ Q : VK, Q (.int k) H → ti σ H Q) (h : H p = some (.lst xs)) (e : k = (j : Int)) (hj : j < xs.length) (q : P σ (upd H p (.lst (xs.set j v)))) : gSub to ti L2.rSetL v σ H P := eo _ (ei _ (rset h e hj q))
theorem tAsg_i {te : TE} {g : TG} {D : Ends} {σ : L2.St} {H : Hp} {v : V} (e : ∀ Q : VK, Q v H → te σ H Q) (q : g v σ H D.nx) : tAsg te g D σ H := e _ q
theorem Paired.setP {α β : Type} {F : α → β → Prop} {x : α} {y : β} (r : F x y) : ∀ {xs : List α} {ys : List β} (i : Nat), Paired F xs ys → Paired F (xs.set i x) (ys.set i y)
  | _, _, _, .nil => .nil
  | _, _, 0, .cons _ t => .cons r t
  | _, _, i + 1, .cons q t => .cons q (Paired.setP r i t)
def oV : Option Int → V
  | none => .non
  | some x => .int x
theorem brV_get {br : List (Option Int)} {i : Nat} {o : Option Int} (h : br[i]? = some o) : (br.map oV)[i]? = some (oV o) := by
  rw [List.getElem?_map, h]
  rfl
theorem fm_const {α : Type} (v : V) (ys : List α) : ys.filterMap (fun _ => some v) = List.replicate ys.length v := by
  induction ys with
  | nil => rfl
  | cons y r ih => rw [List.filterMap_cons, ih]; rfl
section
variable {K : PySem.W.Frag} {w : World} {vs : List V} {H : Hp} {Q Q0 : VK} {E : XK}
theorem wf_no {f : Str} (a b c d : Addr) (h1 : (f == "days") = false := by decide +kernel) (h2 : (f == "ends") = false := by decide +kernel) (h3 : (f == "taken") = false := by decide +kernel) (h4 : (f == "idle") = false := by decide +kernel) : (waysF a b c d).lookup f = none :=
  (lk_past h1).trans ((lk_past h2).trans ((lk_past h3).trans ((lk_past h4).trans rfl)))
theorem rmeth0 {Cl a dx : Addr} {fs : List (Str × V)} {m : Str} {sp : Sp} {ta : TE} {σ : L2.St} {Q : VK} {E : XK} (ea : ∀ Q : VK, Q (.ref a) H → ta σ H Q) (h : H a = some (.ins Cl dx fs)) (l : fs.lookup m = none) (q : sp [.ref a] H Q E) : tMeth Cl m sp [] E ta tNil σ H Q := ea _ ⟨a, dx, fs, rfl, h, l, q⟩
theorem rmeth {Cl a dx : Addr} {fs : List (Str × V)} {m : Str} {sp : Sp} {ta : TE} {t : TA} {vs : List V} {σ : L2.St} {Q : VK} {E : XK} (ea : ∀ Q : VK, Q (.ref a) H → ta σ H Q) (h : H a = some (.ins Cl dx fs)) (l : fs.lookup m = none) (et : ∀ R : List V → Hp → Prop, R vs H → t σ H R) (q : sp (.ref a :: vs) H Q E) : tMeth Cl m sp [] E ta t σ H Q := ea _ ⟨a, dx, fs, rfl, h, l, et _ (by rw [List.append_nil]; exact q)⟩
/-- the relaxing loop's heap: what is brought, by which steps -/
structure MI (H H' : Hp) (pb pc : Addr) (br : List (Option Int)) (cm : List (Option Net.Stp)) : Prop where
  s : Same H H'
  b : H' pb = some (.lst (br.map oV))
  c : CameAt H' pc cm
def Lax (st : Net.Stp) (br : List (Option Int)) : Prop := ∀ y, br[st.s]? = some (some y) → ∃ x, br[st.e]? = some (some x) ∧ y + st.m ≤ x
theorem pure_Ways_most (C : WaysC K) (h : sp_Ways_most K w vs H Q E) (fin : Fin H Q Q0) : t_Ways_most K w (endS Q0) (start ["self", "steps", "brought", "came", "moved", "step", "start", "end", "more", "which", "day"] vs) H := by
  obtain ⟨a, N, ld, le, lt, li, ds, es, tk, id, rfl, W, n, ⟨φ, hφ⟩, q⟩ := h
  obtain ⟨dx, hx⟩ := W.ins
  have zL := W.zL
  have small : N.L + 1 ≤ sizeLine := by rw [sizeLine_eq]; omega
  refine seq_i fun nx k => ?_
  try walk_at "rd"
  refine rmeth0 (fun Q h => ⟨_, rfl, h⟩) hx (wf_no _ _ _ _) ⟨a, N, ld, le, lt, li, ds, es, tk, id, rfl, W, n, fun Hs ps sts ss ns hps hst mem lst => k _ _ (seq_i fun nx2 k2 => ?_)⟩
  obtain ⟨vS, eS, pS⟩ := hst
  have big : ds.length ≤ sizeLine := by rw [W.lds]; exact small
  refine tLc_list ds (fun _ => some .non) (fun R h => rfld (fun Q h => ⟨_, rfl, h⟩) (ss _ _ hx) C.cl C.nd (wf_days ld le lt li) h) (ss _ _ W.days) (ints_paired ds) big (fun D v d acc Nx hD _ _ add _ => by
    try walk_at "rd"
    exact add _ rfl) fun pb hpb => k2 _ _ (seq_i fun nx3 k3 => ?_)
  rw [fm_const, W.lds]
  have s1 := Same.upd (o := .lst (List.replicate (N.L + 1) V.non)) hpb
  refine tAsg_i (v := .int 0) (fun Q h => h) (gsub_set (j := 0) (fun Q h => ⟨_, rfl, h⟩) (fun Q h => h) upd_same rfl (by simp) (k3 _ _ (seq_i fun nx4 k4 => ?_)))
  rw [upd_upd]
  have s2 := Same.upd (o := .lst ((List.replicate (N.L + 1) V.non).set 0 (.int 0))) hpb
  refine tLc_list ds (fun _ => some .non) (fun R h => rfld (fun Q h => ⟨_, rfl, h⟩) (s2 _ _ (ss _ _ hx)) C.cl C.nd (wf_days ld le lt li) h) (s2 _ _ (ss _ _ W.days)) (ints_paired ds) big (fun D v d acc Nx hD _ _ add _ => by
    try walk_at "rd"
    exact add _ rfl) fun pc hpc => k4 _ _ (seq_i fun nx5 k5 => ?_)
  rw [fm_const, W.lds]
  have npc : pb ≠ pc := fun z => by rw [← z, upd_same] at hpc; cases hpc
  have hpc0 : Hs pc = none := by rw [upd_ne npc.symm] at hpc; exact hpc
  have s3 := Same.upd2 (o := .lst (List.replicate (N.L + 1) V.non)) s2 hpc
  have M0 : MI Hs (upd (upd Hs pb (.lst ((List.replicate (N.L + 1) V.non).set 0 (.int 0)))) pc (.lst (List.replicate (N.L + 1) V.non))) pb pc ((List.replicate (N.L + 1) none).set 0 (some 0)) (List.replicate (N.L + 1) none) := by
    refine ⟨s3, ?_, _, upd_same, ?_⟩
    · rw [upd_ne npc, upd_same, List.map_set, List.map_replicate]
      rfl
    · have : ∀ m : Nat, Paired (IsO (upd (upd Hs pb (.lst ((List.replicate (N.L + 1) V.non).set 0 (.int 0)))) pc (.lst (List.replicate (N.L + 1) V.non)))) (List.replicate m V.non) (List.replicate m none) := fun m => by
        induction m with
        | zero => exact .nil
        | succ m ih => exact .cons rfl ih
      exact this _
  try walk_at "rd"
  refine k5 _ _ (seq_i fun nx6 k6 => ?_)
  try walk_at "rd"
  refine tWhile_i (fun m σ H' => ∃ br cm mv x5 x6 x7 x8 x9 x10, σ = [some (.ref a), some (.ref ps), some (.ref pb), some (.ref pc), some (.bl mv), x5, x6, x7, x8, x9, x10] ∧ MI Hs H' pb pc br cm ∧ N.BF φ (idF id) (tkF tk) br cm ∧ (mv = false → ∀ st ∈ sts, Lax st br) ∧ m = 2 * Net.mu N φ br (N.L + 1) + (if mv = true then 1 else 0)) ⟨_, _, _, true, _, _, _, _, _, _, rfl, M0, Net.BF.start, fun z => (by cases z), rfl⟩ ?_
  rintro m σ H' th el hth hel ⟨br, cm, mv, x5, x6, x7, x8, x9, x10, rfl, M, B, still, rfl⟩
  try walk_at "rd"
  cases mv with
  | false =>
    refine iteF (hel _ (k6 _ _ ?_))
    try walk_at "rd"
    refine ⟨by decide, fun t ht => ?_⟩
    obtain ⟨ψ, e1, D⟩ := B.done (fun st h => still rfl st ((mem st).mpr h))
    obtain ⟨vC, eC, pC⟩ := M.c
    have sT := Same.upd (o := .tup [V.ref pb, V.ref pc]) ht
    have sAll : Same H (upd H' t (.tup [V.ref pb, V.ref pc])) := ss.trans (M.s.trans sT)
    have eb : br.map oV = (List.range (N.L + 1)).map fun v => V.int (ψ v) := by
      refine List.ext_getElem? fun i => ?_
      by_cases c : i < N.L + 1
      · rw [brV_get (e1 i (by omega)), List.getElem?_map, List.getElem?_range c]
        rfl
      · rw [List.getElem?_eq_none (by rw [List.length_map, B.lb]; omega), List.getElem?_eq_none (by rw [List.length_map, List.length_range]; omega)]
    refine fin.new n sAll (q _ t pb pc ψ cm (ltH_same sAll) (ltH_noT n sAll) (ltH_tup upd_same) (ss.free hpc0) (ltH_lst ?_) ⟨vC, ltH_lst (sT _ _ eC), pC.mono fun _ _ q => (q.keep (TK.same sT)).keep (ltH_tk _ _)⟩ D)
    rw [← eb]
    exact sT _ _ M.b
  | true =>
    refine iteT (hth _ fun nxW kW => seq_i fun nx7 k7 => ?_)
    try walk_at "rd"
    refine k7 _ _ ?_
    refine tFor_lst (K := K) (a := ps) (xs := vS) (fun R h => ⟨_, rfl, h⟩) (fun i σ H' => ∃ br1 cm1 mv x5 x6 x7 x8 x9 x10, σ = [some (.ref a), some (.ref ps), some (.ref pb), some (.ref pc), some (.bl mv), x5, x6, x7, x8, x9, x10] ∧ MI Hs H' pb pc br1 cm1 ∧ N.BF φ (idF id) (tkF tk) br1 cm1 ∧ (mv = false → br1 = br ∧ ∀ st ∈ sts.take i, Lax st br) ∧ (mv = true → Net.mu N φ br1 (N.L + 1) < Net.mu N φ br (N.L + 1))) ⟨br, cm, false, _, _, _, _, _, _, rfl, M, B, fun _ => ⟨rfl, fun st h => by simp at h⟩, fun z => by cases z⟩ ?_ ?_ ?_
    · rintro i σ H2 ⟨br1, cm1, mv, _, _, _, _, _, _, rfl, M1, _⟩
      exact M1.s _ _ eS
    · rintro i v σ H2 nxL kL hv ⟨br1, cm1, mv, y5, y6, y7, y8, y9, y10, rfl, M1, B1, hf, ht⟩
      obtain ⟨st, hst, t, u, rfl, et, eu⟩ := Paired.getR pS hv
      have is := (mem st).mp (List.mem_of_getElem? hst)
      obtain ⟨l1, l2⟩ := is.le
      have tk2 : sts.take (i + 1) = sts.take i ++ [st] := take_snoc hst
      refine seq_i fun nx8 k8 => ?_
      try walk_at "rd"
      refine gtup4 (M1.s _ _ et) (k8 _ _ (if_i fun th2 el2 h1 h2 => ?_))
      -- where nothing more is brought
      have skip : Lax st br1 → el2 H2 := fun lx => h2 _ (kL _ _ ⟨br1, cm1, mv, _, _, _, _, _, _, rfl, M1, B1, fun z => ⟨(hf z).1, fun s hs => by
        rw [tk2] at hs
        rcases List.mem_append.mp hs with hs | hs
        · exact (hf z).2 s hs
        · rw [List.mem_singleton.mp hs, ← (hf z).1]
          exact lx⟩, ht⟩)
      obtain ⟨o1, ho1⟩ : ∃ o, br1[st.s]? = some o := ⟨_, List.getElem?_eq_getElem (by rw [B1.lb]; omega)⟩
      obtain ⟨o2, ho2⟩ : ∃ o, br1[st.e]? = some o := ⟨_, List.getElem?_eq_getElem (by rw [B1.lb]; omega)⟩
      try walk_at "rd"
      have at1 : ∀ {Q : VK}, Q (oV o1) H2 → rIxL K (.ref pb) (.int st.s) H2 Q := fun q => rix_lst M1.b (Int.natCast_nonneg _) (by rw [Int.toNat_natCast]; exact brV_get ho1) q
      have at2 : ∀ {Q : VK}, Q (oV o2) H2 → rIxL K (.ref pb) (.int st.e) H2 Q := fun q => rix_lst M1.b (Int.natCast_nonneg _) (by rw [Int.toNat_natCast]; exact brV_get ho2) q
      refine at1 ?_
      cases o1 with
      | none =>
        rw [if_neg (by simp [oV])]
        exact skip fun y hy => by rw [ho1] at hy; cases hy
      | some y =>
        rw [if_pos (by simp [oV])]
        refine at2 ?_
        -- more is brought
        have more : (∀ x, br1[st.e]? = some (some x) → x < y + st.m) → th2 H2 := fun lt2 => h1 _ (seq_i fun nx9 k9 => by
          obtain ⟨B2, dec⟩ := B1.relax hφ is ho1 lt2
          obtain ⟨vC, eC, pC⟩ := M1.c
          have lb1 : st.e < (br1.map oV).length := by rw [List.length_map, B1.lb]; omega
          have hbC : H2 pb ≠ H2 pc → True := fun _ => trivial
          refine tAsg_i (v := .int (y + st.m)) (fun Q h => by
            try walk_at "rd"
            exact at1 ⟨_, rfl, h⟩) (gsub_set (fun Q h => ⟨_, rfl, h⟩) (fun Q h => ⟨_, rfl, h⟩) M1.b rfl lb1 (k9 _ _ (seq_i fun nx10 k10 => ?_)))
          have kt1 : TK H2 (upd H2 pb (.lst ((br1.map oV).set st.e (.int (y + st.m))))) := (TK.refl H2).lst M1.b
          have eC2 : upd H2 pb (.lst ((br1.map oV).set st.e (.int (y + st.m)))) pc = some (.lst vC) := by rw [upd_ne npc.symm]; exact eC
          refine tAsg_i (v := .ref t) (fun Q h => ⟨_, rfl, h⟩) (gsub_set (fun Q h => ⟨_, rfl, h⟩) (fun Q h => ⟨_, rfl, h⟩) eC2 rfl (by rw [pC.length, B1.lc]; omega) (k10 _ _ ?_))
          try walk_at "rd"
          have kt2 : TK H2 (upd (upd H2 pb (.lst ((br1.map oV).set st.e (.int (y + st.m))))) pc (.lst (vC.set st.e (.ref t)))) := kt1.lst eC2
          refine kL _ _ ⟨br1.set st.e (some (y + st.m)), cm1.set st.e (some st), true, _, _, _, _, _, _, rfl, ⟨Same.upd3 (Same.upd3 M1.s hpb) hpc0, ?_, _, upd_same, Paired.setP ?_ st.e (pC.mono fun _ _ q => q.keep kt2)⟩, B2, fun z => (by cases z), fun _ => ?_⟩
          · rw [upd_ne npc, upd_same, List.map_set]
            rfl
          · exact ⟨t, u, rfl, kt2 _ _ (M1.s _ _ et), kt2 _ _ (M1.s _ _ eu)⟩
          · cases mv with
            | true => exact Nat.lt_trans dec (ht rfl)
            | false => rw [← (hf rfl).1]; exact dec)
        cases o2 with
        | none =>
          rw [if_pos (by simp [oV])]
          exact more fun x hx => by rw [ho2] at hx; cases hx
        | some x =>
          rw [if_neg (by simp [oV])]
          refine at1 ?_
          refine ⟨y, rfl, ?_⟩
          try walk_at "rd"
          refine at2 ⟨x, rfl, ?_⟩
          by_cases c : x < y + st.m
          · rw [if_pos c]
            exact more fun x' hx' => by rw [ho2] at hx'; cases hx'; exact c
          · rw [if_neg c]
            exact skip fun y' hy' => by
              rw [ho1] at hy'
              cases hy'
              exact ⟨x, ho2, by omega⟩
    · rintro σ H2 ⟨br1, cm1, mv, y5, y6, y7, y8, y9, y10, rfl, M1, B1, hf, ht⟩
      rw [pS.length, List.take_length] at hf
      refine kW _ _ _ ?_ ⟨br1, cm1, mv, _, _, _, _, _, _, rfl, M1, B1, fun z st hs => by rw [(hf z).1]; exact (hf z).2 st hs, rfl⟩
      cases mv with
      | true =>
        have := ht rfl
        simp
        omega
      | false =>
        rw [(hf rfl).1]
        simp
end
end Spn

namespace Spn
open PySem PySem.Spec PyProof.Rows L2
section
variable {K : PySem.W.Frag} {w : World} {vs : List V} {H : Hp} {Q Q0 : VK} {E : XK}
/-- [.. for i, x in enumerate(list)] -/
theorem tLc_enum {a : Addr} {xs : List V} {g : TG} {tt : TT} {te : TE} {vs : List Nat} {σ : L2.St} {ta : TA} (f : Nat → Option V) (ea : ∀ R : List V → Hp → Prop, R [.ref a] H → ta σ H R) (hs : H a = some (.lst xs)) (hz : xs.length ≤ sizeLine)
    (turn : ∀ D i x T H2 (Nx : Hp → Prop), xs[i]? = some x → Same H H2 → NoT H2 → H2 T = some (.tup [.int (i : Nat), x]) → (∀ z, f i = some z → ∃ acc, H2 D = some (.lst acc) ∧ acc.length < sizeLine ∧ Nx (upd H2 D (.lst (acc ++ [z])))) → (f i = none → Nx H2) →
      g (.ref T) (wipe σ vs) H2 fun σ2 H2 => wipe σ2 vs = wipe σ vs ∧ tt σ2 H2 fun b H3 =>
        if b = true then te σ2 H3 fun y H4 => ∃ acc, H4 D = some (.lst acc) ∧ acc.length < sizeLine ∧ Nx (upd H4 D (.lst (acc ++ [y]))) else Nx H3) (n : NoT H)
    (fin : ∀ D H2, H D = none → Same H H2 → NoT H2 → H2 D = some (.lst ((List.range xs.length).filterMap f)) → Q (.ref D) H2) : tLc (iEnum K ta) g tt te vs σ H Q := by
  refine ea _ ⟨a, xs, rfl, SqL.of hs, fun D hD => ?_⟩
  refine lc_it (walk_enum (xs := xs)) (fun i H2 => Same H H2 ∧ NoT H2 ∧ H2 D = some (.lst ((List.range i).filterMap f))) ⟨Same.upd hD, n.upd, upd_same⟩ (fun i H2 _ p => SqL.of (p.1 _ _ hs)) ?_ fun H2 p => fin D H2 hD p.1 p.2.1 p.2.2
  rintro i x H2 H3 hi ⟨s, n2, e⟩ ⟨T, y, z, rfl, hT, rfl, ey, ez⟩
  have ey := Option.some.inj ey
  subst ey
  have hTD : D ≠ T := ne_of_none e hT
  have e3 : (upd H2 T (.tup [.int (i : Nat), z])) D = some (.lst ((List.range i).filterMap f)) := by rw [upd_ne hTD]; exact e
  refine turn D i z T _ (fun H4 => Same H H4 ∧ NoT H4 ∧ H4 D = some (.lst ((List.range (i + 1)).filterMap f))) ez (Same.upd2 s hT) n2.upd upd_same (fun y ey => ⟨_, e3, ?_, Same.upd3 (Same.upd2 s hT) hD, n2.upd.upd, ?_⟩) fun ey => ⟨Same.upd2 s hT, n2.upd, ?_⟩
  · refine Nat.lt_of_le_of_lt (List.length_filterMap_le _ _) ?_
    rw [List.length_range]
    omega
  · rw [upd_same, List.range_succ, List.filterMap_append]
    simp [ey]
  · rw [e3, List.range_succ, List.filterMap_append]
    simp [ey]
theorem fm_range {n : Nat} {p : Nat → Bool} : (List.range n).filterMap (fun i => if p i = true then some (V.int (i : Nat)) else none) = (((List.range n).filter p).map Int.ofNat).map V.int := by
  rw [fm_filter p (fun i => V.int (i : Nat)), List.map_map]
  rfl
theorem pure_Ways_choice (C : WaysC K) (h : sp_Ways_choice K w vs H Q E) (fin : Fin H Q Q0) : t_Ways_choice K w (endS Q0) (start ["self", "at", "mark"] vs) H := by
  obtain ⟨a, N, ld, le, lt, li, ds, es, tk, id, rfl, W, n, q⟩ := h
  obtain ⟨dx, hx⟩ := W.ins
  have zn := W.zn
  unfold t_Ways_choice
  try walk_at "rd"
  refine tLc_enum (xs := tk.map V.bl) (fun i => if tkF tk i = true then some (.int (i : Nat)) else none) (fun R h => ?_) W.taken (by rw [List.length_map, W.ltk, sizeLine_eq]; omega) ?_ n ?_
  · exact rfld (fun Q h => ⟨_, rfl, h⟩) hx C.cl C.nt (wf_taken ld le lt li) h
  · rintro D i x T H2 Nx hx s n2 hT add skip
    have hi : i < tk.length := by
      have := (List.getElem?_eq_some_iff.mp hx).1
      rwa [List.length_map] at this
    rw [tkF_get hi] at hx
    have hx := Option.some.inj hx
    subst hx
    refine gtup2 hT ?_
    try walk_at "rd"
    by_cases c : tkF tk i = true
    · rw [if_pos c]
      exact add _ (if_pos c)
    · rw [if_neg c]
      exact skip (if_neg c)
  · intro D H2 hD s n2 e
    refine fin _ _ _ (Shr.one n s hD ?_ (fun _ _ _ z => by cases z)) (q D hD)
    rw [e, List.length_map, W.ltk, fm_range]
    rfl
theorem pure_Ways_amounts (C : WaysC K) (h : sp_Ways_amounts K w vs H Q E) (fin : Fin H Q Q0) : t_Ways_amounts K w (endS Q0) (start ["self", "brought", "came", "found", "at"] vs) H := by
  obtain ⟨a, N, ld, le, lt, li, ds, es, tk, id, rfl, W, n, hφ, q⟩ := h
  obtain ⟨dx, hx⟩ := W.ins
  have zL := W.zL
  refine seq_i fun nx k => ?_
  try walk_at "rd"
  refine rmeth0 (fun Q h => ⟨_, rfl, h⟩) hx (wf_no _ _ _ _) ⟨a, N, ld, le, lt, li, ds, es, tk, id, rfl, W, n, hφ, fun Hm t pb pc ψ cm sm nm ht hpc hpb _ D => ?_⟩
  refine gtup2 ht (k _ _ (seq_i fun nx2 k2 => ?_))
  try walk_at "rd"
  refine ⟨Nat.zero_le _, fun pf hpf => k2 _ _ (seq_i fun nx3 k3 => ?_)⟩
  have s1 := Same.upd (o := .lst []) hpf
  have hpf0 : H pf = none := sm.free hpf
  have bv : ∀ v, v ≤ N.L → ((List.range (N.L + 1)).map fun v => V.int (ψ v))[v]? = some (.int (ψ v)) := fun v hv => by
    rw [List.getElem?_map, List.getElem?_range (by omega)]
    rfl
  refine tFor_rng1 (n := N.L) (fun R h => ?_) (by omega) (fun i σ H' => ∃ x, σ = [some (.ref a), some (.ref pb), some (.ref pc), some (.ref pf), x] ∧ Same H H' ∧ NoT H' ∧ H' pb = some (.lst ((List.range (N.L + 1)).map fun v => V.int (ψ v))) ∧ ∃ vs, H' pf = some (.lst vs) ∧ Paired (IsP H') vs (tollsOf i (idF ds) ψ)) ?_ ?_ ?_
  · try walk_at "rd"
    exact rfld (fun Q h => ⟨_, rfl, h⟩) (s1 _ _ (sm _ _ hx)) C.cl C.ni (wf_idle ld le lt li) (rlen_lst (s1 _ _ (sm _ _ W.idle)) ((List.length_map _).trans W.lid) h)
  · exact ⟨none, rfl, sm.trans s1, nm.upd, s1 _ _ hpb, [], upd_same, .nil⟩
  · rintro i σ H' nxL kL hi ⟨x, rfl, s, n', hb, us, hf, pr⟩
    refine if_i fun th el h1 h2 => ?_
    have e1 : ∀ {Q : VK}, Q (.int (ψ (i + 1))) H' → rIxL K (.ref pb) (.int ((i : Int) + 1)) H' Q := fun q => rix_lst hb (by omega) (by rw [show ((i : Int) + 1).toNat = i + 1 by omega]; exact bv _ (by omega)) q
    have e0 : ∀ {Q : VK}, Q (.int (ψ i)) H' → rIxL K (.ref pb) (.int (i : Int)) H' Q := fun q => rix_lst hb (by omega) (by rw [Int.toNat_natCast]; exact bv _ (by omega)) q
    try walk_at "rd"
    refine e1 (e0 ⟨_, rfl, _, rfl, ?_⟩)
    have tl : tollsOf (i + 1) (idF ds) ψ = tollsOf i (idF ds) ψ ++ if ψ i < ψ (i + 1) then [(idF ds i, ψ (i + 1) - ψ i)] else [] := by
      unfold tollsOf
      rw [List.range_succ, List.filter_append, List.map_append]
      by_cases c : ψ i < ψ (i + 1)
      · rw [if_pos c, List.filter_cons_of_pos (by simp [c])]
        rfl
      · rw [if_neg c, List.filter_cons_of_neg (by simp [c])]
        rfl
    by_cases c : ψ i < ψ (i + 1)
    · rw [if_pos c] at tl
      rw [if_pos c]
      refine h1 _ ?_
      try walk_at "rd"
      refine ⟨ty_lst (K := K) hf, ?_⟩
      refine rfld (fun Q h => ⟨_, rfl, h⟩) (s _ _ hx) C.cl C.nd (wf_days ld le lt li) ?_
      refine rix_lst (s _ _ W.days) (Int.natCast_nonneg i) (by rw [Int.toNat_natCast]; exact idF_get (by rw [W.lds]; omega)) ?_
      refine e1 (e0 ⟨_, rfl, _, rfl, ?_⟩)
      refine ⟨by decide, fun t' ht' => ?_⟩
      have s2 := Same.upd (o := .tup [.int (idF ds i), .int (ψ (i + 1) - ψ i)]) ht'
      have hf2 := s2 _ _ hf
      have pl : us.length ≤ N.L := by
        have : (tollsOf i (idF ds) ψ).length ≤ i := by
          unfold tollsOf
          rw [List.length_map]
          exact Nat.le_trans (List.length_filter_le _ _) (by rw [List.length_range]; exact Nat.le_refl _)
        rw [pr.length]
        omega
      refine rapp (K := K) hf2 (by rw [sizeLine_eq]; omega) (kL _ _ ⟨_, rfl, Same.upd3 (s.trans s2) hpf0, n'.upd.upd, ?_, _, upd_same, ?_⟩)
      · rw [upd_ne fun z => ?_]
        · exact s2 _ _ hb
        · have := z ▸ sm.free hpf
          rw [z] at hpb
          exact absurd hpb (by rw [hpf]; intro z; cases z)
      · rw [tl]
        refine (pr.mono fun _ _ q => q.keep ((TK.same s2).lst hf2)).snoc ⟨t', rfl, ?_⟩
        exact ((TK.refl _).lst hf2) _ _ upd_same
    · rw [if_neg c, List.append_nil] at tl
      rw [if_neg c]
      refine h2 _ (kL _ _ ⟨_, rfl, s, n', hb, us, hf, ?_⟩)
      rw [tl]
      exact pr
  · rintro σ H' ⟨x, rfl, s, n', hb, us, hf, pr⟩
    refine k3 _ _ ?_
    try walk_at "rd"
    exact fin.new n s (q _ pf ψ (ltH_same s) (ltH_noT n s) hpf0 ⟨us, ltH_lst hf, pr.mono fun _ _ q => q.keep (ltH_tk _ _)⟩ D.feas)
end
end Spn

namespace Spn
open PySem PySem.Spec PyProof.Rows L2
section
variable {K : PySem.W.Frag} {w : World} {vs : List V} {H : Hp} {Q Q0 : VK} {E : XK}
theorem idF_set {id : List Int} {j : Nat} {x : Int} (h : j < id.length) : idF (id.set j x) = Net.setF (idF id) j x := by
  funext i
  unfold idF Net.setF
  simp only [List.getD_eq_getElem?_getD, List.getElem?_set]
  by_cases c : i = j
  · subst c
    simp [h]
  · rw [if_neg c, if_neg fun z => c z.symm]
theorem tkF_set {id : List Bool} {j : Nat} {x : Bool} (h : j < id.length) : tkF (id.set j x) = Net.setF (tkF id) j x := by
  funext i
  unfold tkF Net.setF
  simp only [List.getD_eq_getElem?_getD, List.getElem?_set]
  by_cases c : i = j
  · subst c
    simp [h]
  · rw [if_neg c, if_neg fun z => c z.symm]
/-- two lists changed, what else is new forgotten -/
theorem Shr.two {H H' : Hp} {p q : Addr} {xs ys us ws : List V} (n : NoT H) (hp : H p = some (.lst us)) (hq : H q = some (.lst ws)) (ne : p ≠ q) (e1 : H' p = some (.lst xs)) (e2 : H' q = some (.lst ys)) (k : ∀ b o, H b = some o → b ≠ p → b ≠ q → H' b = some o) : Shr H (L2.upd (L2.upd H p (.lst xs)) q (.lst ys)) H' := by
  refine ⟨fun b o e => ?_, fun b o e => ?_, fun a C dx fs e => ?_, n.upd.upd⟩
  · by_cases c : b = q
    · subst c; rw [upd_same, e2]
    · rw [upd_ne c]
      by_cases d : b = p
      · subst d; rw [upd_same, e1]
      · rw [upd_ne d, e, k b o e d c]
  · by_cases c : b = q
    · subst c; rw [upd_same] at e; rw [e2]; exact e
    · rw [upd_ne c] at e
      by_cases d : b = p
      · subst d; rw [upd_same] at e; rw [e1]; exact e
      · rw [upd_ne d] at e; exact k b o e d c
  · by_cases c : a = q
    · subst c; rw [upd_same] at e; cases e
    · rw [upd_ne c] at e
      by_cases d : a = p
      · subst d; rw [upd_same] at e; cases e
      · rw [upd_ne d] at e; exact .inl ⟨_, _, e⟩
structure LI (H H' : Hp) (lt li pc : Addr) (cm : List (Option Net.Stp)) (id : List Int) (tk : List Bool) : Prop where
  k : ∀ b o, H b = some o → b ≠ lt → b ≠ li → H' b = some o
  t : H' lt = some (.lst (tk.map V.bl))
  i : IntsAt H' li id
  c : CameAt H' pc cm
theorem pure_Ways_lead (C : WaysC K) (h : sp_Ways_lead K w vs H Q E) (fin : Fin H Q Q0) : t_Ways_lead K w (endS Q0) (start ["self", "brought", "came", "day", "start", "end", "more", "which", "kind", "at"] vs) H := by
  obtain ⟨a, N, ld, le, lt, li, ds, es, tk, id, k, rfl, W, n, hf, hφ, q⟩ := h
  obtain ⟨dx, hx⟩ := W.ins
  refine seq_i fun nx kk => ?_
  try walk_at "rd"
  refine rmeth0 (fun Q h => ⟨_, rfl, h⟩) hx (wf_no _ _ _ _) ⟨a, N, ld, le, lt, li, ds, es, tk, id, rfl, W, n, hφ, fun Hm t pb pc ψ cm sm nm ht hpc hpb hcm D => ?_⟩
  refine gtup2 ht (kk _ _ (seq_i fun nx2 k2 => ?_))
  try walk_at "rd"
  refine rfld (fun Q h => ⟨_, rfl, h⟩) (sm _ _ hx) C.cl C.nd (wf_days ld le lt li) (rlen_lst (sm _ _ W.days) ((List.length_map _).trans W.lds) ?_)
  try walk_at "rd"
  refine k2 _ _ ?_
  obtain ⟨d0, L0⟩ := Net.Led.start D hf
  have nlt : lt ≠ a := ne_of W.taken hx (by intro z; cases z)
  have nli : li ≠ a := ne_of W.idle hx (by intro z; cases z)
  have npt : lt ≠ pc := ne_of_none W.taken hpc
  have npi : li ≠ pc := ne_of_none W.idle hpc
  refine tWhile_i (fun m σ H' => ∃ (v : Nat) (id2 : List Int) (tk2 : List Bool) (x4 x5 x6 x7 x8 x9 : Option V), σ = [some (.ref a), some (.ref pb), some (.ref pc), some (.int v), x4, x5, x6, x7, x8, x9] ∧ LI H H' lt li pc cm id2 tk2 ∧ id2.length = N.L ∧ tk2.length = N.n ∧ N.Led (idF id) (tkF tk) ψ cm k m v (idF id2) (tkF tk2)) ⟨d0, N.L, id, tk, none, none, none, none, none, none, ?_, ⟨fun b o e _ _ => sm b o e, sm _ _ W.taken, sm _ _ W.idle, hcm⟩, W.lid, W.ltk, L0⟩ ?_
  · rw [show ((N.L + 1 : Nat) : Int) - 1 = N.L by omega]
  rintro m σ H' th el hth hel ⟨v, id2, tk2, x4, x5, x6, x7, x8, x9, rfl, I, l1, l2, L⟩
  try walk_at "rd"
  by_cases c : (0 : Int) < v
  · rw [if_pos c]
    refine hth _ fun nxW kW => seq_i fun nx3 k3 => ?_
    obtain ⟨st, d', hst, is, ev, rfl, turn⟩ := L.turn D (by omega)
    obtain ⟨vC, eC, pC⟩ := I.c
    obtain ⟨y, hy, ho⟩ := Paired.getL pC hst
    obtain ⟨t', u', rfl, ht', hu'⟩ := ho
    have hx' := I.k _ _ hx nlt.symm nli.symm
    try walk_at "rd"
    refine rix_lst eC (Int.natCast_nonneg v) (by rw [Int.toNat_natCast]; exact hy) (gtup4 ht' (k3 _ _ (seq_i fun nx4 k4 => ?_)))
    try walk_at "rd"
    refine gtup2 hu' (k4 _ _ (seq_i fun nx5 k5 => if_i fun th2 el2 h1 h2 => ?_))
    try walk_at "rd"
    rcases turn with ⟨c2, kd, hix, L'⟩ | ⟨c2, hix, L'⟩
    · rw [if_pos c2]
      refine h1 _ ?_
      have hl : st.ix < id2.length := by omega
      refine rfld (fun Q h => ⟨_, rfl, h⟩) hx' C.cl C.ni (wf_idle ld le lt li) ?_
      try walk_at "rd"
      refine ⟨li, _, st.ix, .int (idF id2 st.ix), rfl, rfl, SqL.of I.i, idF_get hl, ?_⟩
      try walk_at "rd"
      refine ⟨?_, rset I.i rfl (by rw [List.length_map]; exact hl) (k5 _ _ ?_)⟩
      · rcases kd with e | e <;> rw [e] <;> unfold CMul <;> decide
      try walk_at "rd"
      refine kW _ _ d' (Nat.lt_succ_self _) ⟨st.s, id2.set st.ix (idF id2 st.ix + (1 - 2 * st.kd)), tk2, _, _, _, _, _, _, rfl, ⟨fun b o e e1 e2 => ?_, ?_, ?_, _, ?_, pC.mono fun _ _ q => q.keep ((TK.refl _).lst I.i)⟩, by rw [List.length_set]; exact l1, l2, ?_⟩
      · rw [upd_ne e2]
        exact I.k b o e e1 e2
      · rw [upd_ne W.nt]
        exact I.t
      · show _ = _
        rw [upd_same, List.map_set]
      · rw [upd_ne npi.symm]
        exact eC
      · rw [idF_set hl]
        exact L'
    · rw [if_neg c2]
      refine h2 _ ?_
      have hl : st.ix < tk2.length := by omega
      refine tAsg_i (v := .bl (decide (st.kd = 2))) (fun Q h => by
        try walk_at "rd"
        exact req_int h) (gsub_set (fun Q h => rfld (fun Q h => ⟨_, rfl, h⟩) hx' C.cl C.nt (wf_taken ld le lt li) h) (fun Q h => ⟨_, rfl, h⟩) I.t rfl (by rw [List.length_map]; exact hl) (k5 _ _ ?_))
      try walk_at "rd"
      refine kW _ _ d' (Nat.lt_succ_self _) ⟨st.s, id2, tk2.set st.ix (decide (st.kd = 2)), _, _, _, _, _, _, rfl, ⟨fun b o e e1 e2 => ?_, ?_, ?_, _, ?_, pC.mono fun _ _ q => q.keep ((TK.refl _).lst I.t)⟩, l1, by rw [List.length_set]; exact l2, ?_⟩
      · rw [upd_ne e1]
        exact I.k b o e e1 e2
      · rw [upd_same, List.map_set]
      · show _ = _
        rw [upd_ne W.nt.symm]
        exact I.i
      · rw [upd_ne npt.symm]
        exact eC
      · rw [tkF_set hl]
        exact L'
  · rw [if_neg c]
    refine hel _ ?_
    have : v = 0 := by omega
    subst this
    obtain ⟨f1, f2⟩ := L.end_
    exact fin _ _ _ (Shr.two n W.taken W.idle W.nt I.t I.i I.k) (q tk2 id2 l2 l1 f1 ⟨ψ, f2⟩)
end
end Spn

namespace Spn
open PySem PySem.Spec PyProof.Rows L2
section
variable {K : PySem.W.Frag} {w : World} {vs : List V} {H : Hp} {Q Q0 : VK} {E : XK}
/-- a list of new things, one for each item -/
theorem tLc_new {α β : Type} {R : V → α → Prop} {F : Hp → V → β → Prop} {a : Addr} {xs : List V} {g : TG} {te : TE} {vs : List Nat} {σ : L2.St} {ta : TE} (ys : List α) (f : α → β) (ea : ∀ R : VK, R (.ref a) H → ta σ H R) (hs : H a = some (.lst xs)) (hp : Paired R xs ys) (hz : ys.length ≤ sizeLine) (n : NoT H)
    (keep : ∀ H1 H2 v b, TK H1 H2 → F H1 v b → F H2 v b)
    (turn : ∀ x y H2, R x y → y ∈ ys → Same H H2 → NoT H2 →
      ∀ (go : V → Hp → Prop), (∀ v H3, Same H2 H3 → NoT H3 → F H3 v (f y) → go v H3) → g x (wipe σ vs) H2 fun σ2 H3 => wipe σ2 vs = wipe σ vs ∧ te σ2 H3 go)
    (fin : ∀ D H2 us, H D = none → Same H H2 → NoT H2 → H2 D = some (.lst us) → Paired (F H2) us (ys.map f) → Q (.ref D) H2) : tLc (iList K ta) g tYes te vs σ H Q := by
  refine ea _ ⟨a, rfl, ⟨xs, SqL.of hs⟩, fun D hD => ?_⟩
  refine lc_it (walk_list (xs := xs)) (fun i H2 => Same H H2 ∧ NoT H2 ∧ ∃ us, H2 D = some (.lst us) ∧ Paired (F H2) us ((ys.take i).map f)) ⟨Same.upd hD, n.upd, [], upd_same, .nil⟩ (fun i H2 _ p => SqL.of (p.1 _ _ hs)) ?_ fun H2 ⟨s, n2, us, e, p⟩ => ?_
  · rintro i x H2 H3 hi ⟨s, n2, us, e, p⟩ ⟨rfl, hx⟩
    obtain ⟨y, hy, r⟩ := Paired.getR hp hx
    have il : i < ys.length := (List.getElem?_eq_some_iff.mp hy).1
    have z := turn x y H3 r (List.mem_of_getElem? hy) s n2 (fun v H4 => ∃ acc, H4 D = some (.lst acc) ∧ acc.length < sizeLine ∧ (Same H (upd H4 D (.lst (acc ++ [v]))) ∧ NoT (upd H4 D (.lst (acc ++ [v]))) ∧ ∃ us, (upd H4 D (.lst (acc ++ [v]))) D = some (.lst us) ∧ Paired (F (upd H4 D (.lst (acc ++ [v])))) us ((ys.take (i + 1)).map f))) fun v H4 s4 n4 h4 => by
      have tk : TK H4 (upd H4 D (.lst (us ++ [v]))) := (TK.refl _).lst (s4 _ _ e)
      refine ⟨us, s4 _ _ e, ?_, Same.upd3 (s.trans s4) hD, n4.upd, _, upd_same, ?_⟩
      · rw [p.length, List.length_map, List.length_take]
        omega
      · rw [take_snoc hy, List.map_append]
        exact (p.mono fun _ _ q => keep _ _ _ _ tk (keep _ _ _ _ (TK.same s4) q)).snoc (keep _ _ _ _ tk h4)
    unfold tYes
    simp only [if_true]
    exact z
  · refine fin D H2 us hD s n2 e ?_
    rwa [hp.length, List.take_length] at p
theorem cut1 {v : V} {r : List V} : cutV (v :: r) (some 1) none = r := by
  unfold cutV
  rw [show (some (1 : Int)) = some ((1 : Nat) : Int) from rfl, HT.sIx_nat, HT.sIx_none, List.length_cons]
  rw [show min 1 (r.length + 1) = 1 by omega]
  simp
/-! ### an instance that is being set up -/
structure JI (H Hn : Hp) (x C dx : Addr) (fs : List (Str × V)) : Prop where
  k : ∀ b o, H b = some o → b ≠ x → Hn b = some o
  n : NoT Hn
  x : Hn x = some (.ins C dx fs)
theorem JI.new {H Hn : Hp} {x C dx p : Addr} {fs : List (Str × V)} {o : HO} (J : JI H Hn x C dx fs) (hp : Hn p = none) (ho : plainO o = true := by rfl) : JI H (upd Hn p o) x C dx fs :=
  ⟨fun b u e ne => Same.upd hp _ _ (J.k b u e ne), J.n.upd ho, Same.upd hp _ _ J.x⟩
theorem JI.same {H Hn Hm : Hp} {x C dx : Addr} {fs : List (Str × V)} (J : JI H Hn x C dx fs) (s : Same Hn Hm) (n : NoT Hm) : JI H Hm x C dx fs := ⟨fun b u e ne => s _ _ (J.k b u e ne), n, s _ _ J.x⟩
theorem JI.put {H Hn : Hp} {x C dx : Addr} {fs fs' : List (Str × V)} (J : JI H Hn x C dx fs) : JI H (upd Hn x (.ins C dx fs')) x C dx fs' :=
  ⟨fun b u e ne => by rw [upd_ne ne]; exact J.k b u e ne, J.n.upd, upd_same⟩
theorem JI.free {H Hn : Hp} {x C dx p : Addr} {fs : List (Str × V)} (J : JI H Hn x C dx fs) (hp : Hn p = none) : H p = none := by
  cases e : H p with
  | none => rfl
  | some o =>
    by_cases c : p = x
    · subst c; rw [J.x] at hp; cases hp
    · rw [J.k p o e c] at hp; cases hp
/-- a list behind a field that is set -/
theorem put_lst {Hn : Hp} {x C dx p : Addr} {fs fs' : List (Str × V)} {l : List V} (h : Hn p = some (.lst l)) (hx : Hn x = some (.ins C dx fs)) : (upd Hn x (.ins C dx fs')) p = some (.lst l) := by
  rw [upd_ne (ne_of h hx (by intro z; cases z))]
  exact h
theorem put_tk {Hn : Hp} {x C dx : Addr} {fs fs' : List (Str × V)} (hx : Hn x = some (.ins C dx fs)) : TK Hn (upd Hn x (.ins C dx fs')) := fun p l h => by
  rw [upd_ne (ne_of h hx (by intro z; cases z))]
  exact h
theorem Fin.newX {H : Hp} {Q Q0 : VK} (fin : Fin H Q Q0) {v : V} {H4 : Hp} {x C dx : Addr} {fs0 fs : List (Str × V)} (n : NoT H) (hx : H x = some (.ins C dx fs0)) (J : JI H H4 x C dx fs) (q : NoT (ltH H H4) → Q v (ltH H H4)) : Q0 v H4 := by
  have nT : NoT (ltH H H4) := fun b o e => by
    cases h : H b with
    | some u =>
      rw [ltH_old h] at e
      exact J.n b o e
    | none => rcases ltH_new h e with ⟨l, rfl⟩ | ⟨l, rfl⟩ <;> rfl
  refine fin _ _ _ ⟨fun b o h => ltH_old h, fun b o e => ?_, fun a C1 dx1 fs1 e => ?_, nT⟩ (q nT)
  · cases h : H b with
    | some u => rw [ltH_old h] at e; exact e
    | none =>
      unfold ltH at e
      rw [h] at e
      cases z : H4 b with
      | none => rw [z] at e; cases e
      | some u =>
        rw [z] at e
        cases u with
        | lst l => exact e
        | tup l => exact e
        | _ => cases e
  · by_cases c : a = x
    · subst c
      rw [ltH_old hx, J.x] at e
      cases e
      exact .inl ⟨_, _, hx⟩
    · cases h : H a with
      | some u =>
        rw [ltH_old h, J.k a u h c] at e
        cases e
        exact .inl ⟨_, _, rfl⟩
      | none => rcases ltH_new h e with ⟨l, z⟩ | ⟨l, z⟩ <;> cases z
theorem WA.move {H1 H2 : Hp} {N : Net} {a ld le lt li : Addr} {ds : List Int} {es : List (Nat × Nat × Int)} {tk : List Bool} {id : List Int} (W : WA K H1 N a ld le lt li ds es tk id) (ha : H2 a = H1 a) (hl : ∀ b xs, H1 b = some (.lst xs) → H2 b = some (.lst xs)) (ht : TK H1 H2) : WA K H2 N a ld le lt li ds es tk id := by
  obtain ⟨vE, hE, pE⟩ := W.ends
  exact { W with ins := by obtain ⟨dx, h⟩ := W.ins; exact ⟨dx, ha.trans h⟩, days := hl _ _ W.days, ends := ⟨vE, hl _ _ hE, pE.mono fun _ _ q => q.keep ht⟩, taken := hl _ _ W.taken, idle := hl _ _ W.idle }
theorem WA.led {H : Hp} {N : Net} {a ld le lt li : Addr} {ds : List Int} {es : List (Nat × Nat × Int)} {tk tk' : List Bool} {id id' : List Int} (W : WA K H N a ld le lt li ds es tk id) (nd : lt ≠ ld) (ne1 : lt ≠ le) (ne2 : li ≠ le) (lT : tk'.length = N.n) (lI : id'.length = N.L) : WA K (upd (upd H lt (.lst (tk'.map V.bl))) li (.lst (id'.map V.int))) N a ld le lt li ds es tk' id' := by
  obtain ⟨vE, hE, pE⟩ := W.ends
  obtain ⟨dx, hx⟩ := W.ins
  have k1 : TK H (upd H lt (.lst (tk'.map V.bl))) := (TK.refl _).lst W.taken
  have k2 : TK H (upd (upd H lt (.lst (tk'.map V.bl))) li (.lst (id'.map V.int))) := k1.lst (by rw [upd_ne W.nt.symm]; exact W.idle)
  refine { W with ins := ⟨dx, ?_⟩, days := ?_, ends := ⟨vE, ?_, pE.mono fun _ _ q => q.keep k2⟩, taken := ?_, idle := upd_same, lid := lI, ltk := lT }
  · rw [upd_ne (ne_of hx W.idle (by intro z; cases z)), upd_ne (ne_of hx W.taken (by intro z; cases z))]
    exact hx
  · show _ = _
    rw [upd_ne W.ne.symm, upd_ne nd.symm]
    exact W.days
  · rw [upd_ne ne2.symm, upd_ne ne1.symm]
    exact hE
  · rw [upd_ne W.nt, upd_same]
theorem flow_congr {N : Net} {id id' : Nat → Int} {tk : Nat → Bool} {k : Int} (h : ∀ j, j < N.L → id' j = id j) (f : N.Flow id tk k) : N.Flow id' tk k := fun j hj => by
  rw [h j hj]
  exact f j hj
theorem idF_map {id : List Int} {f : Int → Int} {j : Nat} (h : j < id.length) : idF (id.map f) j = f (idF id j) := by
  unfold idF
  rw [List.getD_eq_getElem?_getD, List.getD_eq_getElem?_getD, List.getElem?_map, List.getElem?_eq_getElem h]
  rfl
theorem idF_zero (n : Nat) : idF (List.replicate n 0) = fun _ => 0 := by
  funext j
  unfold idF
  rw [List.getD_eq_getElem?_getD, List.getElem?_replicate]
  split <;> rfl
theorem tkF_false (n : Nat) : tkF (List.replicate n false) = fun _ => false := by
  funext j
  unfold tkF
  rw [List.getD_eq_getElem?_getD, List.getElem?_replicate]
  split <;> rfl
theorem idx_days {p : Addr} {ks : List Int} {x : Int} {Q : VK} (h : IntsAt H p ks) (hm : x ∈ ks) (q : Q (.int (ixOf ks x)) H) : rIndex K (.ref p) [.int x] H Q := by
  have g := ixOf_get hm
  refine ⟨p, ks.map V.int, .int x, ixOf ks x, .int x, rfl, rfl, SqL.of h, rfl, ?_, by rw [List.getElem?_map, g]; rfl, ?_, fun m z hm hz => ?_, q⟩
  · rw [List.all_map]
    exact List.all_eq_true.mpr fun _ _ => rfl
  · simp [eqV]
  · rw [List.getElem?_map] at hz
    cases e : ks[m]? with
    | none => rw [e] at hz; cases hz
    | some y =>
      rw [e] at hz
      have hz := Option.some.inj hz
      subst hz
      have := ixOf_before hm e
      simp [eqV, this]
end
end Spn

namespace Spn
open PySem PySem.Spec PyProof.Rows L2
section
variable {K : PySem.W.Frag} {w : World} {vs : List V} {H : Hp} {Q Q0 : VK} {E : XK}
theorem pf1 (a b : V) : putF ("ends" : Str) b ([("days", a)] : List (Str × V)) = ([("days", a), ("ends", b)] : List (Str × V)) := by
  rw [putF_past (by decide +kernel), putF_nil]
theorem pf2 (a b c : V) : putF ("taken" : Str) c ([("days", a), ("ends", b)] : List (Str × V)) = ([("days", a), ("ends", b), ("taken", c)] : List (Str × V)) := by
  rw [putF_past (by decide +kernel), putF_past (by decide +kernel), putF_nil]
theorem pf3 (a b c d : V) : putF ("idle" : Str) d ([("days", a), ("ends", b), ("taken", c)] : List (Str × V)) = ([("days", a), ("ends", b), ("taken", c), ("idle", d)] : List (Str × V)) := by
  rw [putF_past (by decide +kernel), putF_past (by decide +kernel), putF_past (by decide +kernel), putF_nil]
theorem pf4 (a b c d : Addr) (e : Addr) : putF ("idle" : Str) (.ref e) (waysF a b c d) = waysF a b c e := by
  unfold waysF
  rw [putF_past (by decide +kernel), putF_past (by decide +kernel), putF_past (by decide +kernel), putF_here]
theorem JI.set {H Hn : Hp} {x C dx p : Addr} {fs : List (Str × V)} {l l' : List V} (J : JI H Hn x C dx fs) (hp : H p = none) (e : Hn p = some (.lst l)) : JI H (upd Hn p (.lst l')) x C dx fs :=
  ⟨fun b o h ne => by rw [upd_ne (ne_of_none h hp)]; exact J.k b o h ne, J.n.upd, by rw [upd_ne (ne_of J.x e (by intro z; cases z))]; exact J.x⟩
theorem tLc_via {ta : TE} {g : TG} {tt : TT} {te : TE} {vs : List Nat} {σ : L2.St} {H : Hp} {Q : VK} (h : ta σ H fun v H1 => tLc (iList K fun _ H2 Q2 => Q2 v H2) g tt te vs σ H1 Q) : tLc (iList K ta) g tt te vs σ H Q := h
theorem fm_rq (f : Rq → Int) (rs : List Rq) : rs.filterMap (fun r => some (V.int (f r))) = (rs.map f).map V.int := fm_map f V.int rs
theorem pure_Ways___init__ (C : WaysC K) (h : sp_Ways___init__ K w vs H Q E) (fin : Fin H Q Q0) : t_Ways___init__ K w (endS Q0) (start ["self", "requests", "rooms", "marks", "room", "first", "last", "price", "request", "day", "more"] vs) H := by
  obtain ⟨x, dx, a, m, rs, rfl, hx, hr, ok, ne, zn, m0, n, q⟩ := h
  obtain ⟨rvs, ha, pr⟩ := hr
  have big : ∀ k, k ≤ 4000 → k < sizeLine := fun k hk => by rw [sizeLine_eq]; omega
  have J0 : JI H H x (He.ga K "Ways") dx [] := ⟨fun _ _ e _ => e, n, hx⟩
  have hax : a ≠ x := ne_of ha hx (by intro z; cases z)
  -- marks
  refine seq_i fun nx k => ?_
  try walk_at "rd"
  refine tLc_list rs (fun r => some (.int r.1)) (fun R h => ⟨_, rfl, h⟩) ha pr (Nat.le_of_lt (big _ (by omega))) (fun D v r acc Nx hD ⟨t, e, ht⟩ _ add _ => ?_) fun p1 hp1 => ?_
  · subst e
    try walk_at "rd"
    exact rix_tup (Same.upd hD _ _ ht) (by decide) rfl (add _ rfl)
  have J1 := J0.new (o := .lst (rs.filterMap fun r => some (V.int r.1))) hp1
  have pr1 : Paired (IsR (upd H p1 (.lst (rs.filterMap fun r => some (V.int r.1))))) rvs rs := pr.mono fun _ _ q => q.same (Same.upd hp1)
  refine tLc_list rs (fun r => some (.int (r.2.1 + 1))) (fun R h => ⟨_, rfl, h⟩) (J1.k _ _ ha hax) pr1 (Nat.le_of_lt (big _ (by omega))) (fun D v r acc Nx hD ⟨t, e, ht⟩ _ add _ => ?_) fun p2 hp2 => ?_
  · subst e
    try walk_at "rd"
    refine rix_tup (Same.upd hD _ _ ht) (by decide) rfl ?_
    try walk_at "rd"
    exact add _ rfl
  have J2 := J1.new (o := .lst (rs.filterMap fun r => some (V.int (r.2.1 + 1)))) hp2
  refine ⟨p1, p2, _, _, rfl, rfl, Same.upd hp2 _ _ upd_same, upd_same, ?_, fun p3 hp3 => k _ _ (seq_i fun nx2 k2 => ?_)⟩
  · rw [fm_rq, fm_rq, List.length_map, List.length_map, List.length_map, List.length_map]
    rw [sizeLine_eq]; omega
  have em : (rs.filterMap fun r => some (V.int r.1)) ++ (rs.filterMap fun r => some (V.int (r.2.1 + 1))) = (marks rs).map V.int := by
    rw [fm_rq, fm_rq, ← List.map_append]
    rfl
  have lm : (marks rs).length ≤ 1000 := by
    unfold marks
    rw [List.length_append, List.length_map, List.length_map]
    omega
  have J3 := J2.new (o := .lst ((rs.filterMap fun r => some (V.int r.1)) ++ (rs.filterMap fun r => some (V.int (r.2.1 + 1))))) hp3
  -- days
  refine ⟨_, rfl, p3, marks rs, rfl, by rw [em]; exact SqL.of upd_same, by omega, fun ps c hps => ⟨ps, _, c, rfl, upd_same, fun ks pd pw hk hpd => ?_⟩⟩
  have J4 := J3.new (o := SetO w ps (fun j => decide (j ∈ marks rs)) c) hps
  have J5 := J4.new (o := .lst (ks.map V.int)) hpd
  refine ⟨_, rfl, x, _, dx, _, rfl, J5.x, C.cl, C.nd, by decide, k2 _ _ (seq_i fun nx3 k3 => ?_)⟩
  obtain ⟨N, NO, lks, lN, eN⟩ := mkNet ok ne pw fun k => (hk k).trans decide_eq_true_iff
  have nN := NO.n
  have J6 := J5.put (fs' := putF ("days" : Str) (.ref pd) [])
  have d6 := put_lst (fs' := putF ("days" : Str) (.ref pd) []) upd_same J5.x
  rw [putF_nil] at J6 d6 ⊢
  generalize (upd _ x _ : Hp) = H6 at J6 d6 ⊢
  -- ends
  have hin : ∀ r ∈ rs, r.1 ∈ ks ∧ r.2.1 + 1 ∈ ks := fun r hr => ⟨((hk _).trans decide_eq_true_iff).mpr (marks_mem hr).1, ((hk _).trans decide_eq_true_iff).mpr (marks_mem hr).2⟩
  refine tLc_new (F := IsE) rs (netE ks) (fun R h => ⟨_, rfl, h⟩) (J6.k _ _ ha hax) (R := fun v r => ∃ t, v = .ref t ∧ H t = some (.tup (r3 r))) pr (Nat.le_of_lt (big _ (by omega))) J6.n (fun H1 H2 v b tk h => IsE.keep h tk) ?_ ?_
  · rintro v r H2 ⟨t, rfl, ht⟩ hr s2 n2 go hgo
    have ht2 := s2 _ _ (J6.k _ _ ht (ne_of ht hx (by intro z; cases z)))
    have x2 := s2 _ _ J6.x
    have d2 := s2 _ _ d6
    refine gtup3 ht2 ⟨rfl, ?_⟩
    try walk_at "rd"
    refine rfld (fun Q h => ⟨_, rfl, h⟩) x2 C.cl C.nd lk_here ⟨ty_lst (K := K) d2, idx_days d2 (hin r hr).1 ?_⟩
    refine rfld (fun Q h => ⟨_, rfl, h⟩) x2 C.cl C.nd lk_here ⟨ty_lst (K := K) d2, idx_days d2 (hin r hr).2 ?_⟩
    exact ⟨by decide, fun p hp => hgo _ _ (Same.upd hp) n2.upd ⟨p, rfl, upd_same⟩⟩
  · intro pe H7 us hpe s7 n7 e7 p7
    have J7 := J6.same s7 n7
    refine ⟨_, rfl, x, _, dx, _, rfl, J7.x, C.cl, C.ne, by show 1 < 1000; decide, k3 _ _ (seq_i fun nx4 k4 => ?_)⟩
    have J8 := J7.put (fs' := putF ("ends" : Str) (.ref pe) [("days", .ref pd)])
    have d8 := put_lst (fs' := putF ("ends" : Str) (.ref pe) [("days", .ref pd)]) (s7 _ _ d6) J7.x
    have e8 := put_lst (fs' := putF ("ends" : Str) (.ref pe) [("days", .ref pd)]) e7 J7.x
    have p8 := p7.mono fun _ _ q => q.keep (put_tk (fs' := putF ("ends" : Str) (.ref pe) [("days", .ref pd)]) J7.x)
    have nde : pd ≠ pe := ne_of_none d6 hpe
    rw [pf1] at J8 d8 e8 p8 ⊢
    generalize (upd H7 x _ : Hp) = H8 at J8 d8 e8 p8 ⊢
    -- taken
    refine tLc_list rs (fun _ => some (.bl false)) (fun R h => ⟨_, rfl, h⟩) (J8.k _ _ ha hax) pr (Nat.le_of_lt (big _ (by omega))) (fun D v r acc Nx hD _ _ add _ => ?_) fun pt hpt => ?_
    · try walk_at "rd"
      exact add _ rfl
    rw [fm_const]
    have J9 := J8.new (o := .lst (List.replicate rs.length (.bl false))) hpt
    refine ⟨_, rfl, x, _, dx, _, rfl, J9.x, C.cl, C.nt, by show 2 < 1000; decide, k4 _ _ (seq_i fun nx5 k5 => ?_)⟩
    have J10 := J9.put (fs' := putF ("taken" : Str) (.ref pt) [("days", .ref pd), ("ends", .ref pe)])
    have d10 := put_lst (fs' := putF ("taken" : Str) (.ref pt) [("days", .ref pd), ("ends", .ref pe)]) (Same.upd (o := .lst (List.replicate rs.length (.bl false))) hpt _ _ d8) J9.x
    have e10 := put_lst (fs' := putF ("taken" : Str) (.ref pt) [("days", .ref pd), ("ends", .ref pe)]) (Same.upd (o := .lst (List.replicate rs.length (.bl false))) hpt _ _ e8) J9.x
    have t10 := put_lst (fs' := putF ("taken" : Str) (.ref pt) [("days", .ref pd), ("ends", .ref pe)]) upd_same J9.x
    have p10 := (p8.mono fun _ _ q => q.keep (TK.same (Same.upd (o := .lst (List.replicate rs.length (.bl false))) hpt))).mono fun _ _ q => q.keep (put_tk (fs' := putF ("taken" : Str) (.ref pt) [("days", .ref pd), ("ends", .ref pe)]) J9.x)
    have ndt : pd ≠ pt := ne_of_none d8 hpt
    have net : pe ≠ pt := ne_of_none e8 hpt
    have hpt0 := J8.free hpt
    rw [pf2] at J10 d10 e10 t10 p10 ⊢
    generalize (upd (upd H8 pt _) x _ : Hp) = H10 at J10 d10 e10 t10 p10 ⊢
    -- idle
    refine tLc_via ?_
    refine rfld (fun Q h => ⟨_, rfl, h⟩) J10.x C.cl C.nd lk_here ⟨1, rfl, pd, _, rfl, SqL.of d10, fun pc hpc => ?_⟩
    have J11 := J10.new (o := .lst (cutV (ks.map V.int) (some 1) none)) hpc
    have lcut : (cutV (ks.map V.int) (some 1) none).length = N.L := by
      cases ks with
      | nil => simp at lks
      | cons k0 kr =>
        rw [List.map_cons, cut1, List.length_map]
        rw [List.length_cons] at lks
        omega
    refine tLc_list (R := fun v y => v = y) (cutV (ks.map V.int) (some 1) none) (fun _ => some (.int 0)) (fun R h => h) upd_same ?_ (by rw [lcut, sizeLine_eq]; omega) (fun D v r acc Nx hD _ _ add _ => ?_) fun pi hpi => ?_
    · generalize cutV (ks.map V.int) (some 1) none = l
      induction l with
      | nil => exact .nil
      | cons y r ih => exact .cons rfl ih
    · try walk_at "rd"
      exact add _ rfl
    rw [fm_const, lcut]
    have sA := Same.upd (o := .lst (cutV (ks.map V.int) (some 1) none)) hpc
    have sB := Same.upd2 (o := .lst (List.replicate N.L (.int 0))) sA hpi
    have J12 := J11.new (o := .lst (List.replicate N.L (.int 0))) hpi
    refine ⟨_, rfl, x, _, dx, _, rfl, J12.x, C.cl, C.ni, by show 3 < 1000; decide, k5 _ _ (seq_i fun nx6 k6 => ?_)⟩
    have J13 := J12.put (fs' := putF ("idle" : Str) (.ref pi) [("days", .ref pd), ("ends", .ref pe), ("taken", .ref pt)])
    have d13 := put_lst (fs' := putF ("idle" : Str) (.ref pi) [("days", .ref pd), ("ends", .ref pe), ("taken", .ref pt)]) (sB _ _ d10) J12.x
    have e13 := put_lst (fs' := putF ("idle" : Str) (.ref pi) [("days", .ref pd), ("ends", .ref pe), ("taken", .ref pt)]) (sB _ _ e10) J12.x
    have t13 := put_lst (fs' := putF ("idle" : Str) (.ref pi) [("days", .ref pd), ("ends", .ref pe), ("taken", .ref pt)]) (sB _ _ t10) J12.x
    have i13 := put_lst (fs' := putF ("idle" : Str) (.ref pi) [("days", .ref pd), ("ends", .ref pe), ("taken", .ref pt)]) upd_same J12.x
    have p13 := (p10.mono fun _ _ q => q.keep (TK.same sB)).mono fun _ _ q => q.keep (put_tk (fs' := putF ("idle" : Str) (.ref pi) [("days", .ref pd), ("ends", .ref pe), ("taken", .ref pt)]) J12.x)
    have ndi : pd ≠ pi := ne_of_none (sA _ _ d10) hpi
    have nei : pe ≠ pi := ne_of_none (sA _ _ e10) hpi
    have nti : pt ≠ pi := ne_of_none (sA _ _ t10) hpi
    have hpi0 := J11.free hpi
    rw [pf3] at J13 d13 e13 t13 i13 p13 ⊢
    generalize (upd (upd (upd H10 pc _) pi _) x _ : Hp) = H13 at J13 d13 e13 t13 i13 p13 ⊢
    have W13 : WA K H13 N x pd pe pt pi ks (rs.map (netE ks)) (List.replicate N.n false) (List.replicate N.L 0) := by
      refine ⟨⟨dx, J13.x⟩, d13, ⟨us, e13, p13⟩, ?_, ?_, ndi.symm, nti, lks, List.length_replicate, List.length_replicate, by rw [List.length_map, nN], eN, by omega, by omega⟩
      · rw [t13, List.map_replicate, nN]
      · show _ = _
        rw [i13, List.map_replicate]
    have mn : ((min m.toNat rs.length : Nat) : Int) = if (rs.length : Int) < m then (rs.length : Int) else m := by
      split <;> omega
    -- rooms led, one by one
    refine tFor_rng1 (n := min m.toNat rs.length) (fun R h => ?_) (by omega) (fun i σ H' => ∃ x4, σ = [some (.ref x), some (.ref a), some (.int m), some (.ref p3), x4, none, none, none, none, none, none] ∧ ∃ tk id, JI H H' x (He.ga K "Ways") dx (waysF pd pe pt pi) ∧ WA K H' N x pd pe pt pi ks (rs.map (netE ks)) tk id ∧ N.Flow (idF id) (tkF tk) i ∧ ∃ φ, N.Feas φ (idF id) (tkF tk)) ⟨none, rfl, _, _, J13, W13, ?_, ?_⟩ ?_ ?_
    · try walk_at "rd"
      refine rlen_lst (J13.k _ _ ha hax) pr.length ⟨m, _, rfl, ?_⟩
      rw [← mn]
      exact h
    · rw [idF_zero, tkF_false]
      exact Net.flow_start
    · rw [idF_zero, tkF_false]
      exact Net.feas_start
    · rintro i σ H' nxL kL hi ⟨x4, rfl, tk, id, J, W, fl, fe⟩
      try walk_at "rd"
      refine rmeth0 (fun Q h => ⟨_, rfl, h⟩) J.x (wf_no _ _ _ _) ⟨x, N, pd, pe, pt, pi, ks, _, tk, id, i, rfl, W, J.n, fl, fe, fun tk' id' l1 l2 fl' fe' => ?_⟩
      refine kL _ _ ⟨_, rfl, tk', id', ?_, W.led ndt.symm net.symm nei.symm l1 l2, by rw [Int.natCast_succ]; exact fl', fe'⟩
      refine (J.set hpt0 W.taken).set hpi0 (l := id.map V.int) ?_
      rw [upd_ne nti.symm]
      exact W.idle
    · rintro σ H' ⟨x4, rfl, tk, id, J, W, fl, ⟨φ, fe⟩⟩
      refine k6 _ _ (if_i fun th el h1 h2 => ?_)
      try walk_at "rd"
      refine rlen_lst (J.k _ _ ha hax) pr.length ?_
      try walk_at "rd"
      by_cases c : (rs.length : Int) < m
      · rw [if_pos c] at mn ⊢
        rw [mn, ← nN] at fl
        refine h1 _ ?_
        refine tLc_list id (fun i => some (.int (i + m - rs.length))) (fun R h => rfld (fun Q h => ⟨_, rfl, h⟩) J.x C.cl C.ni (wf_idle pd pe pt pi) h) W.idle (ints_paired id) (by rw [W.lid, sizeLine_eq]; omega) (fun D v i acc Nx hD e _ add _ => ?_) fun p5 hp5 => ?_
        · subst e
          try walk_at "rd"
          refine rlen_lst (Same.upd hD _ _ (J.k _ _ ha hax)) pr.length ?_
          try walk_at "rd"
          exact add _ rfl
        rw [fm_map (fun i => i + m - rs.length) V.int]
        have s5 := Same.upd (o := .lst ((id.map fun i => i + m - rs.length).map V.int)) hp5
        have J5 := J.new (o := .lst ((id.map fun i => i + m - rs.length).map V.int)) hp5
        refine ⟨_, rfl, x, _, dx, _, rfl, J5.x, C.cl, C.ni, by show 4 < 1000; decide, ?_⟩
        have J6 := J5.put (fs' := putF ("idle" : Str) (.ref p5) (waysF pd pe pt pi))
        have i6 := put_lst (fs' := putF ("idle" : Str) (.ref p5) (waysF pd pe pt pi)) upd_same J5.x
        have d6 := put_lst (fs' := putF ("idle" : Str) (.ref p5) (waysF pd pe pt pi)) (s5 _ _ W.days) J5.x
        have t6 := put_lst (fs' := putF ("idle" : Str) (.ref p5) (waysF pd pe pt pi)) (s5 _ _ W.taken) J5.x
        obtain ⟨vE, hE, pE⟩ := W.ends
        have e6 := put_lst (fs' := putF ("idle" : Str) (.ref p5) (waysF pd pe pt pi)) (s5 _ _ hE) J5.x
        have p6 := (pE.mono fun _ _ q => q.keep (TK.same s5)).mono fun _ _ q => q.keep (put_tk (fs' := putF ("idle" : Str) (.ref p5) (waysF pd pe pt pi)) J5.x)
        rw [pf4] at J6 i6 d6 t6 e6 p6 ⊢
        have W6 : WA K _ N x pd pe pt p5 ks (rs.map (netE ks)) tk (id.map fun i => i + m - rs.length) := ⟨⟨dx, J6.x⟩, d6, ⟨vE, e6, p6⟩, t6, i6, (ne_of_none W.days hp5).symm, ne_of_none W.taken hp5, W.lds, by rw [List.length_map, W.lid], W.ltk, W.les, W.es, W.zn, W.zL⟩
        refine fin.newX n hx J6 fun nT => q _ N pd pe pt p5 ks _ tk _ (fun b o e ne => ?_) nT (W6.move (ltH_old hx) (fun b xs h => ltH_lst h) (ltH_tk _ _)) NO ?_ ⟨_, Net.feas_more fl fe _⟩
        · rw [ltH_old e]
          exact J6.k b o e ne
        · have f2 := Net.flow_more (m := m - rs.length) (by omega) fl
          rw [show ((N.n : Int) + (m - rs.length)) = m by omega] at f2
          exact flow_congr (fun j hj => by rw [idF_map (by rw [W.lid]; exact hj)]; omega) f2
      · rw [if_neg c] at mn ⊢
        rw [mn] at fl
        refine h2 _ (fin.newX n hx J fun nT => q _ N pd pe pt pi ks _ tk id (fun b o e ne => ?_) nT (W.move (ltH_old hx) (fun b xs h => ltH_lst h) (ltH_tk _ _)) NO fl ⟨φ, fe⟩)
        rw [ltH_old e]
        exact J.k b o e ne
end
end Spn

namespace Spn
open PySem PySem.Spec PyProof.Rows L2
section
variable {K : PySem.W.Frag} {w : World} {vs : List V} {H : Hp} {Q Q0 : VK} {E : XK}
theorem tollsOf_len (L : Nat) (ds φ : Nat → Int) : (tollsOf L ds φ).length ≤ L := by
  unfold tollsOf
  rw [List.length_map]
  exact Nat.le_trans (List.length_filter_le _ _) (by rw [List.length_range]; exact Nat.le_refl _)
theorem pure_best_of (C : WaysC K) (h : sp_best_of K w vs H Q E) (fin : Fin H Q Q0) : t_best_of K w (endS Q0) (start ["requests", "rooms", "ways"] vs) H := by
  obtain ⟨a, m, rs, rfl, hr, ok, zn, m0, n, q⟩ := h
  obtain ⟨rvs, ha, pr⟩ := id hr
  refine seq_i fun nx k => if_i fun th el h1 h2 => ?_
  try walk_at "rd"
  refine rlen_lst ha pr.length (req_int ⟨_, rfl, ?_⟩)
  by_cases c : rs = []
  · subst c
    refine iteT (h1 _ ?_)
    try walk_at "rd"
    refine ⟨Nat.zero_le _, fun p hp => ⟨Nat.zero_le _, fun r hr' => ⟨by decide, fun t ht => ?_⟩⟩⟩
    have s1 := Same.upd (o := .lst []) hp
    have s2 := Same.upd2 (o := .lst []) s1 hr'
    have s3 := Same.upd2 (o := .tup [.ref p, .ref r]) s2 ht
    have nr : p ≠ r := ne_of_none upd_same hr'
    have s4 := Same.upd (o := .tup [.ref p, .ref r]) ht
    have er : (upd (upd (upd H p (.lst [])) r (.lst [])) t (.tup [.ref p, .ref r])) r = some (.lst []) := s4 _ _ upd_same
    have ep : (upd (upd (upd H p (.lst [])) r (.lst [])) t (.tup [.ref p, .ref r])) p = some (.lst []) := s4 _ _ (by rw [upd_ne nr, upd_same])
    exact fin.new n s3 (q _ t p r [] [] (ltH_same s3) (ltH_noT n s3) (s2.free ht) hp (s1.free hr') nr (ltH_tup upd_same) (ltH_lst ep) ⟨[], ltH_lst er, .nil⟩ (best_nil m) (Nat.zero_le _))
  · have l0 : ¬ ((rs.length : Int) = 0) := fun z => c (List.length_eq_zero_iff.mp (by omega))
    rw [decide_eq_false l0]
    refine iteF (h2 _ (k _ _ (seq_i fun nx2 k2 => ?_)))
    refine ⟨_, rfl, _, rfl, fun x dx hx hd nx0 => ?_⟩
    have sA := Same.upd (o := .own x) hd
    have hxA : (upd H dx (.own x)) x = none := by rw [upd_ne nx0.symm]; exact hx
    have sB := Same.upd2 (o := .ins (He.ga K "Ways") dx []) sA hxA
    refine ⟨x, dx, a, m, rs, rfl, upd_same, hr.same sB, ok, c, zn, m0, n.upd.upd, fun H' N ld le lt li ds es tk id keep n' W NO fl ⟨φ, fe⟩ => ⟨rfl, ?_⟩⟩
    obtain ⟨dx2, hx2⟩ := W.ins
    have sC : Same H H' := fun b o e => keep b o (sB b o e) (ne_of_none e hx)
    refine k2 _ _ ?_
    try walk_at "rd"
    refine rmeth0 (fun Q h => ⟨_, rfl, h⟩) hx2 (wf_no _ _ _ _) ⟨x, N, ld, le, lt, li, ds, es, tk, id, rfl, W, n', fun p hp => ?_⟩
    have sp := Same.upd (o := .lst ((takenOf N.n (tkF tk)).map V.int)) hp
    have W2 : WA K (upd H' p (.lst ((takenOf N.n (tkF tk)).map V.int))) N x ld le lt li ds es tk id := W.move (upd_ne (ne_of_none hx2 hp)) (fun b xs h => sp _ _ h) (TK.same sp)
    refine rmeth0 (fun Q h => ⟨_, rfl, h⟩) (sp _ _ hx2) (wf_no _ _ _ _) ⟨x, N, ld, le, lt, li, ds, es, tk, id, rfl, W2, n'.upd, ⟨φ, fe⟩, fun H3 r ψ s3 n3 hr3 hτ fe' => ⟨by decide, fun t ht => ?_⟩⟩
    have s4 := Same.upd (o := .tup [.ref p, .ref r]) ht
    have sp0 : Same H (upd H' p (.lst ((takenOf N.n (tkF tk)).map V.int))) := sC.trans sp
    have s5 : Same H H3 := sp0.trans s3
    have s6 : Same H (upd H3 t (.tup [.ref p, .ref r])) := s5.trans s4
    have npr : p ≠ r := ne_of_none upd_same hr3
    refine fin.new n s6 (q _ t p r _ _ (ltH_same s6) (ltH_noT n s6) (s5.free ht) (sC.free hp) (sp0.free hr3) npr (ltH_tup upd_same) (ltH_lst (s4 _ _ (s3 _ _ upd_same))) ?_ (cert NO fl fe') (Nat.le_trans (tollsOf_len _ _ _) W.zL))
    obtain ⟨us, eu, pu⟩ := hτ
    exact ⟨us, ltH_lst (s4 _ _ eu), (pu.mono fun _ _ q => q.keep (TK.same s4)).mono fun _ _ q => q.keep (ltH_tk _ _)⟩
/-- what stood, new lists and tuples, and one new instance -/
def lxH (H H4 : Hp) (x dx : Addr) (o : HO) : Hp := upd (upd (ltH H H4) dx (.own x)) x o
theorem lxH_shr {H H4 : Hp} {x dx C : Addr} {fs : List (Str × V)} (n : NoT H) (s : Same H H4) (hx : H x = none) (hd : H dx = none) (ne : dx ≠ x) (ex : H4 x = some (.ins C dx fs)) (ed : H4 dx = some (.own x)) : Shr H (lxH H H4 x dx (.ins C dx fs)) H4 := by
  have S := ltH_shr n s
  refine ⟨fun b o e => ?_, fun b o e => ?_, fun a C1 dx1 fs1 e => ?_, ((S.noT.upd).upd)⟩
  · unfold lxH
    rw [upd_ne (ne_of_none e hx), upd_ne (ne_of_none e hd)]
    exact S.keep b o e
  · unfold lxH at e
    by_cases c : b = x
    · subst c; rw [upd_same] at e; rw [ex]; exact e
    · rw [upd_ne c] at e
      by_cases d : b = dx
      · subst d; rw [upd_same] at e; rw [ed]; exact e
      · rw [upd_ne d] at e
        exact S.sub b o e
  · unfold lxH at e ⊢
    by_cases c : a = x
    · subst c
      rw [upd_same] at e
      cases e
      exact .inr (by rw [upd_ne ne, upd_same])
    · rw [upd_ne c] at e
      by_cases d : a = dx
      · subst d; rw [upd_same] at e; cases e
      · rw [upd_ne d] at e
        rcases S.own a C1 dx1 fs1 e with z | z
        · exact .inl z
        · refine .inr ?_
          cases h : H dx1 with
          | some u =>
            rw [upd_ne (ne_of_none h hx), upd_ne (ne_of_none h hd)]
            exact z
          | none =>
            rcases ltH_new h z with ⟨l, y⟩ | ⟨l, y⟩ <;> cases y
theorem lxH_lst {H H4 : Hp} {x dx C b : Addr} {fs : List (Str × V)} {l : List V} (ex : H4 x = some (.ins C dx fs)) (ed : H4 dx = some (.own x)) (h : H4 b = some (.lst l)) : lxH H H4 x dx (.ins C dx fs) b = some (.lst l) := by
  unfold lxH
  rw [upd_ne (ne_of h ex (by intro z; cases z)), upd_ne (ne_of h ed (by intro z; cases z))]
  exact ltH_lst h
theorem lxH_tup {H H4 : Hp} {x dx C b : Addr} {fs : List (Str × V)} {l : List V} (ex : H4 x = some (.ins C dx fs)) (ed : H4 dx = some (.own x)) (h : H4 b = some (.tup l)) : lxH H H4 x dx (.ins C dx fs) b = some (.tup l) := by
  unfold lxH
  rw [upd_ne (ne_of h ex (by intro z; cases z)), upd_ne (ne_of h ed (by intro z; cases z))]
  exact ltH_tup h
theorem lxH_same {H H4 : Hp} {x dx : Addr} {o : HO} (s : Same H H4) (hx : H x = none) (hd : H dx = none) : Same H (lxH H H4 x dx o) := fun b u e => by
  unfold lxH
  rw [upd_ne (ne_of_none e hx), upd_ne (ne_of_none e hd)]
  exact ltH_same s b u e
theorem pure_best (h : sp_best K w vs H Q E) (fin : Fin H Q Q0) : t_best K w (endS Q0) (start ["requests", "rooms", "taken", "tolls"] vs) H := by
  obtain ⟨a, m, rs, rfl, hr, ok, zn, m0, n, q⟩ := h
  refine seq_i fun nx k => ?_
  try walk_at "rd"
  refine ⟨a, rs, rfl, hr, ok, by omega, n, k _ _ (seq_i fun nx2 k2 => ?_)⟩
  try walk_at "rd"
  refine ⟨m, 0, rfl, m0, n, k2 _ _ (seq_i fun nx3 k3 => ?_)⟩
  try walk_at "rd"
  refine ⟨a, m, rs, rfl, hr, ok, zn, m0, n, fun H1 t p r ns τ s1 n1 ht hp hr' npr et ep er hb hl => ?_⟩
  refine gtup2 et (k3 _ _ ?_)
  obtain ⟨us, eu, pu⟩ := er
  refine ⟨_, rfl, _, rfl, fun x dx hx hd nx0 => ?_⟩
  have sA := Same.upd (o := .own x) hd
  have hxA : (upd H1 dx (.own x)) x = none := by rw [upd_ne nx0.symm]; exact hx
  have sB := Same.upd2 (o := .ins (He.ga K "Best") dx []) sA hxA
  refine ⟨x, dx, p, r, _, us, rfl, upd_same, sB _ _ ep, sB _ _ eu, n1.upd.upd, fun H4 p' r' hp' hr2 npr' ex ep' er' keep n4 => ⟨rfl, ?_⟩⟩
  have ed : H4 dx = some (.own x) := keep _ _ (by rw [upd_ne nx0, upd_same]) nx0
  have s4 : Same H H4 := fun b o e => keep b o (sB b o (s1 b o e)) (ne_of_none (s1 b o e) hx)
  have k14 : TK H1 H4 := fun b xs e => keep b _ (sB b _ e) (ne_of_none e hx)
  have hx0 := s1.free hx
  have hd0 := s1.free hd
  have f1 : ∀ z, (upd (upd H1 dx (.own x)) x (.ins (He.ga K "Best") dx [])) z = none → H z = none := fun z hz => s1.free (sB.free hz)
  refine fin _ _ _ (lxH_shr n s4 hx0 hd0 nx0 ex ed) (q _ x p' r' ns τ ⟨lxH_same s4 hx0 hd0, (lxH_shr n s4 hx0 hd0 nx0 ex ed).noT, hx0, f1 _ hp', f1 _ hr2, npr', ⟨dx, upd_same⟩, lxH_lst ex ed ep', us, lxH_lst ex ed er', (pu.mono fun _ _ q => q.keep k14).mono fun _ _ q => q.keep fun b xs h => lxH_tup ex ed h⟩ hb hl)
end
end Spn

namespace Spn
open PySem PySem.Spec PyProof.Rows L2
/-! ### what the laws' own helpers do -/
/-- the script -/
def ScrAt (K : PySem.W.Frag) (H : Hp) (a : Addr) (ns : List Int) : Prop := SqL K H a (ns.map V.int)
/-- drawn requests -/
def OkL (rs : List Rq) : Prop := ∀ r ∈ rs, r.1 ≤ r.2.1 ∧ 0 ≤ r.2.2 ∧ -(10 ^ 60) < r.1 ∧ r.2.1 < 10 ^ 60 ∧ r.2.2 < 10 ^ 60
def sp__law_cell_at (K : PySem.W.Frag) (w : World) : Sp := fun vs H Q _ => ∃ a ns k, vs = [.ref a, .int k] ∧ ScrAt K H a ns ∧ 0 ≤ k ∧ NoT H ∧ ∀ z : Int, Q (.int z) H
def sp__law_draw (K : PySem.W.Frag) (w : World) : Sp := fun vs H Q _ => ∃ c k m, vs = [.int c, .int k, .int m] ∧ 0 ≤ k ∧ 0 < m ∧ NoT H ∧ ∀ z : Int, 0 ≤ z → z < m → Q (.int z) H
def sp__law_requests (K : PySem.W.Frag) (w : World) : Sp := fun vs H Q _ => ∃ a ns, vs = [.ref a] ∧ ScrAt K H a ns ∧ ns.length ≤ 63 ∧ NoT H ∧
  ∀ H' p rs, Same H H' → NoT H' → H p = none → ReqsAt H' p rs → OkL rs → rs.length ≤ 126 → Q (.ref p) H'
def sp__law_rooms (K : PySem.W.Frag) (w : World) : Sp := fun vs H Q _ => ∃ a ns k, vs = [.ref a, .int k] ∧ ScrAt K H a ns ∧ 0 ≤ k ∧ k ≤ 1000 ∧ NoT H ∧ ∀ z : Int, 0 ≤ z → z < k + 4 → Q (.int z) H
def sp__law_whole := sp_is_whole
def sp__law_chosen (K : PySem.W.Frag) (w : World) : Sp := fun vs H Q _ => ∃ a b rs ns, vs = [.ref a, .ref b] ∧ ReqsAt H a rs ∧ IntsAt H b ns ∧ ns.length ≤ 1000 ∧ NoT H ∧ Q (.bl (isChoice rs.length ns)) H
def sp__law_there := sp_for_day
def sp__law_worth := sp_worth_of
def sp__law_best := sp_is_best
end Spn

namespace Spn
open PySem PySem.Spec PyProof.Rows L2
/-! ### readings -/
/-- _law_cell_at -/
def t__law_cell_at (K : PySem.W.Frag) (w : World) : TS :=
  (tSeq (tIfS (tTest (tOp qLt (tVar 1) (tCB (qLen K) (tCons (tVar 0) tNil)))) (tRet (tOp (rIxL K) (tVar 0) (tVar 1))) tNext)
  (tRet (tC (.int 0))))

/-- _law_draw -/
def t__law_draw (K : PySem.W.Frag) (w : World) : TS :=
  (tSeq (tAsg (tTup (tCons (tC (.int 1000003)) (tCons (tC (.int 1000033)) (tCons (tC (.int 1000037)) (tCons (tC (.int 1000039)) (tCons (tC (.int 1000081)) (tCons (tC (.int 1000099)) (tCons (tC (.int 1000117)) (tCons (tC (.int 1000121)) (tCons (tC (.int 1000133)) (tCons (tC (.int 1000151)) (tCons (tC (.int 1000159)) (tCons (tC (.int 1000171)) (tCons (tC (.int 1000183)) (tCons (tC (.int 1000187)) (tCons (tC (.int 1000193)) (tCons (tC (.int 1000199)) tNil))))))))))))))))) (gName 3))
  (tRet (tOp qMod (tOp qMod (tOp qAdd (tOp qMul (tVar 0) (tC (.int 48271))) (tOp qMul (tVar 1) (tC (.int 69621)))) (tOp (rIxT K) (tVar 3) (tOp qMod (tVar 1) (tC (.int 16))))) (tVar 2))))

/-- _law_requests -/
def t__law_requests (K : PySem.W.Frag) (w : World) : TS :=
  (tSeq (tAsg (tLst tNil) (gName 1))
  (tSeq (tIfS (tTest (tOp rEq (tOp qMod (tCB (qLen K) (tCons (tVar 0) tNil)) (tC (.int 3))) (tC (.int 0)))) (tSeq (tFor (iRng3 (tCons (tC (.int 0)) (tCons (tCB (qLen K) (tCons (tVar 0) tNil)) (tCons (tC (.int 3)) tNil)))) (gName 2) (tSeq (tAsg (tOp qMul (tOp qMod (tOp qDiv (tOp (rIxL K) (tVar 0) (tVar 2)) (tC (.int 2))) (tOp qPow (tC (.int 10)) (tC (.int 40)))) (tOp qSub (tC (.int 1)) (tOp qMul (tOp qMod (tOp (rIxL K) (tVar 0) (tVar 2)) (tC (.int 2))) (tC (.int 2))))) (gName 3))
  (tDrop (tBM K "list" rAppend (tVar 1) (tCons (tTup (tCons (tVar 3) (tCons (tOp qAdd (tVar 3) (tOp qMod (tOp (rIxL K) (tVar 0) (tOp qAdd (tVar 2) (tC (.int 1)))) (tOp qPow (tC (.int 10)) (tC (.int 40))))) (tCons (tOp qMod (tOp (rIxL K) (tVar 0) (tOp qAdd (tVar 2) (tC (.int 2)))) (tOp qPow (tC (.int 10)) (tC (.int 60)))) tNil)))) tNil)))))
  (tRet (tVar 1))) tNext)
  (tSeq (tPar 4 5 (tCons (tCall (sp__law_draw K w) [] E0 (tCons (tCall (sp__law_cell_at K w) [] E0 (tCons (tVar 0) (tCons (tC (.int 0)) tNil))) (tCons (tC (.int 6)) (tCons (tC (.int 4)) tNil)))) (tCons (tOp (rIxT K) (tTup (tCons (tC (.int 1)) (tCons (tC (.int 1)) (tCons (tOp qPow (tC (.int 10)) (tC (.int 9))) (tCons (tC (.int 7)) tNil))))) (tCall (sp__law_draw K w) [] E0 (tCons (tCall (sp__law_cell_at K w) [] E0 (tCons (tVar 0) (tCons (tC (.int 1)) tNil))) (tCons (tC (.int 7)) (tCons (tC (.int 4)) tNil))))) tNil)))
  (tSeq (tPar 6 7 (tCons (tOp (rIxT K) (tTup (tCons (tC (.int 5)) (tCons (tC (.int 12)) (tCons (tC (.int 30)) (tCons (tC (.int 3)) tNil))))) (tVar 4)) (tCons (tOp (rIxT K) (tTup (tCons (tC (.int 4)) (tCons (tC (.int 50)) (tCons (tC (.int 1000000)) (tCons (tC (.int 10)) tNil))))) (tCall (sp__law_draw K w) [] E0 (tCons (tCall (sp__law_cell_at K w) [] E0 (tCons (tVar 0) (tCons (tC (.int 2)) tNil))) (tCons (tC (.int 8)) (tCons (tC (.int 4)) tNil))))) tNil)))
  (tSeq (tAsg (tIf (tTest (tOp rEq (tCall (sp__law_draw K w) [] E0 (tCons (tCall (sp__law_cell_at K w) [] E0 (tCons (tVar 0) (tCons (tC (.int 1)) tNil))) (tCons (tC (.int 9)) (tCons (tC (.int 8)) tNil)))) (tC (.int 0)))) (tC (.int 2)) (tC (.int 1))) (gName 8))
  (tSeq (tFor (iRng1 (tCons (tOp qMul (tVar 8) (tCB (qLen K) (tCons (tVar 0) tNil))) tNil)) (gName 2) (tSeq (tAsg (tOp qAdd (tOp (rIxL K) (tVar 0) (tOp qDiv (tVar 2) (tVar 8))) (tOp qMul (tC (.int 977)) (tOp qMod (tVar 2) (tVar 8)))) (gName 9))
  (tSeq (tAsg (tOp qSub (tCall (sp__law_draw K w) [] E0 (tCons (tVar 9) (tCons (tOp qAdd (tOp qMod (tVar 2) (tC (.int 5))) (tC (.int 1))) (tCons (tOp qAdd (tVar 6) (tOp qMod (tVar 2) (tC (.int 3)))) tNil)))) (tOp qDiv (tVar 6) (tC (.int 2)))) (gName 3))
  (tSeq (tAsg (tOp qAdd (tVar 3) (tCall (sp__law_draw K w) [] E0 (tCons (tVar 9) (tCons (tOp qAdd (tOp qMod (tVar 2) (tC (.int 7))) (tC (.int 2))) (tCons (tOp (rIxT K) (tTup (tCons (tC (.int 1)) (tCons (tC (.int 3)) (tCons (tC (.int 8)) (tCons (tC (.int 2)) tNil))))) (tVar 4)) tNil))))) (gName 10))
  (tDrop (tBM K "list" rAppend (tVar 1) (tCons (tTup (tCons (tOp qMul (tVar 3) (tVar 5)) (tCons (tOp qMul (tVar 10) (tVar 5)) (tCons (tCall (sp__law_draw K w) [] E0 (tCons (tVar 9) (tCons (tOp qAdd (tOp qMod (tVar 2) (tC (.int 3))) (tC (.int 9))) (tCons (tVar 7) tNil)))) tNil)))) tNil)))))))
  (tRet (tVar 1))))))))

/-- _law_rooms -/
def t__law_rooms (K : PySem.W.Frag) (w : World) : TS :=
  (tSeq (tIfS (tTest (tOp rEq (tCall (sp__law_draw K w) [] E0 (tCons (tCall (sp__law_cell_at K w) [] E0 (tCons (tVar 0) (tCons (tC (.int 3)) tNil))) (tCons (tC (.int 9)) (tCons (tC (.int 4)) tNil)))) (tC (.int 0)))) (tRet (tCall (sp__law_draw K w) [] E0 (tCons (tCall (sp__law_cell_at K w) [] E0 (tCons (tVar 0) (tCons (tC (.int 3)) tNil))) (tCons (tC (.int 6)) (tCons (tOp qAdd (tVar 1) (tC (.int 2))) tNil))))) tNext)
  (tRet (tCall (sp__law_draw K w) [] E0 (tCons (tCall (sp__law_cell_at K w) [] E0 (tCons (tVar 0) (tCons (tC (.int 3)) tNil))) (tCons (tC (.int 5)) (tCons (tC (.int 4)) tNil))))))

/-- _law_whole -/
def t__law_whole (K : PySem.W.Frag) (w : World) : TS :=
  (tRet (tAndV (tCB (rIsi K) (tCons (tVar 0) (tCons (tC (.ty "int")) tNil))) (tNotV (tCB (rIsi K) (tCons (tVar 0) (tCons (tC (.ty "bool")) tNil))))))

/-- _law_chosen -/
def t__law_chosen (K : PySem.W.Frag) (w : World) : TS :=
  (tSeq (tIfS (tNot (tB (tCB (rAll K) (tCons (tLc (iList K (tVar 1)) (gName 2) tYes (tAndV (tCall (sp__law_whole K w) [] E0 (tCons (tVar 2) tNil)) (tChain qLe qLt (tC (.int 0)) (tVar 2) (tCB (qLen K) (tCons (tVar 0) tNil)))) [2]) tNil)))) (tRet (tC (.bl false))) tNext)
  (tRet (tOp (rEqD K) (tVar 1) (tCB (rSortedSetI w) (tCons (tCB (rSetOf K w) (tCons (tVar 1) tNil)) tNil)))))

/-- _law_there -/
def t__law_there (K : PySem.W.Frag) (w : World) : TS :=
  (tRet (tLc (iList K (tVar 1)) (gName 3) (tTest (tChain qLe qLe (tOp (rIxT K) (tOp (rIxL K) (tVar 0) (tVar 3)) (tC (.int 0))) (tVar 2) (tOp (rIxT K) (tOp (rIxL K) (tVar 0) (tVar 3)) (tC (.int 1))))) (tVar 3) [3]))

/-- _law_worth -/
def t__law_worth (K : PySem.W.Frag) (w : World) : TS :=
  (tRet (tCB (rSum K) (tCons (tLc (iList K (tVar 1)) (gName 2) tYes (tOp (rIxT K) (tOp (rIxL K) (tVar 0) (tVar 2)) (tC (.int 2))) [2]) tNil)))

/-- _law_best -/
def t__law_best (K : PySem.W.Frag) (w : World) : TS :=
  (tSeq (tIfS (tNot (tB (tCall (sp__law_chosen K w) [] E0 (tCons (tVar 0) (tCons (tVar 2) tNil))))) (tRet (tC (.bl false))) tNext)
  (tSeq (tIfS (tB (tCB (rAny K) (tCons (tLc (iList K (tVar 2)) (gName 8) tYes (tShr (tOp qGt (tCB (qLen K) (tCons (tCall (sp__law_there K w) [] E0 (tCons (tVar 0) (tCons (tVar 2) (tCons (tOp (rIxT K) (tOp (rIxL K) (tVar 0) (tVar 8)) (tC (.int 0))) tNil)))) tNil)) (tVar 1))) [8]) tNil))) (tRet (tC (.bl false))) tNext)
  (tSeq (tIfS (tNot (tB (tCB (rAll K) (tCons (tLc (iList K (tVar 3)) (gTup K 2 (gCons (gName 10) (gCons (gName 11) gNil))) tYes (tAndV (tCall (sp__law_whole K w) [] E0 (tCons (tVar 10) tNil)) (tAndV (tCall (sp__law_whole K w) [] E0 (tCons (tVar 11) tNil)) (tOp qGe (tVar 11) (tC (.int 0))))) [10, 11]) tNil)))) (tRet (tC (.bl false))) tNext)
  (tSeq (tIfS (tB (tCB (rAny K) (tCons (tLc (iRng1 (tCons (tOp qSub (tCB (qLen K) (tCons (tVar 3) tNil)) (tC (.int 1))) tNil)) (gName 9) tYes (tOp qGe (tOp (rIxT K) (tOp (rIxL K) (tVar 3) (tVar 9)) (tC (.int 0))) (tOp (rIxT K) (tOp (rIxL K) (tVar 3) (tOp qAdd (tVar 9) (tC (.int 1)))) (tC (.int 0)))) [9]) tNil))) (tRet (tC (.bl false))) tNext)
  (tSeq (tAsg (tOp qMul (tVar 1) (tCB (rSum K) (tCons (tLc (iList K (tVar 3)) (gTup K 2 (gCons (gName 10) (gCons (gName 11) gNil))) tYes (tVar 11) [10, 11]) tNil))) (gName 4))
  (tSeq (tFor (iList K (tVar 0)) (gTup K 3 (gCons (gName 5) (gCons (gName 6) (gCons (gName 7) gNil)))) (tAsg (tOp qAdd (tVar 4) (tCB qMax2 (tCons (tC (.int 0)) (tCons (tOp qSub (tVar 7) (tCB (rSum K) (tCons (tLc (iList K (tVar 3)) (gTup K 2 (gCons (gName 10) (gCons (gName 11) gNil))) (tTest (tChain qLe qLe (tVar 5) (tVar 10) (tVar 6))) (tVar 11) [10, 11]) tNil))) tNil)))) (gName 4)))
  (tRet (tOp rEq (tCall (sp__law_worth K w) [] E0 (tCons (tVar 0) (tCons (tVar 2) tNil))) (tVar 4)))))))))

end Spn

namespace Spn
open PySem PySem.Spec PyProof.Rows L2
/-! ### lists as data -/
def dI (ns : List Int) : PyData := .list (ns.map .int)
def dR (rs : List Rq) : PyData := .list (rs.map fun r => .tuple [.int r.1, .int r.2.1, .int r.2.2])
theorem lay_all {α : Type} (f : α → PyData) (h : ∀ a, (f a).canLay0 = true) : ∀ xs : List α, PyData.canLayAll0 (xs.map f) = true
  | [] => rfl
  | x :: xs => by
    rw [List.map_cons, PyData.canLayAll0, h x, lay_all f h xs]
    rfl
theorem dep_all {α : Type} (f : α → PyData) (k : Nat) (h : ∀ a, (f a).depth ≤ k) : ∀ xs : List α, PyData.depthAll (xs.map f) ≤ k
  | [] => Nat.zero_le _
  | x :: xs => by
    rw [List.map_cons, PyData.depthAll]
    exact Nat.max_le.mpr ⟨h x, dep_all f k h xs⟩
theorem sh_list {α : Type} (f : α → PyData) (h : ∀ a, (f a).canLay0 = true) (h2 : ∀ a, (f a).depth ≤ 60) (xs : List α) : SeqAt.shaped (.list (xs.map f)) = true := by
  unfold SeqAt.shaped
  rw [Bool.and_eq_true, decide_eq_true_eq]
  refine ⟨lay_all f h xs, ?_⟩
  show PyData.depthAll (xs.map f) + 1 ≤ 64
  have := dep_all f 60 h2 xs
  omega
theorem sh_I (ns : List Int) : SeqAt.shaped (dI ns) = true := sh_list _ (fun _ => rfl) (fun _ => Nat.zero_le _) ns
theorem sh_R (rs : List Rq) : SeqAt.shaped (dR rs) = true := sh_list _ (fun _ => rfl) (fun _ => by simp [PyData.depth, PyData.depthAll]) rs
theorem eq_I (ns ms : List Int) : PyData.eqv (dI ns) (dI ms) = decide (ns = ms) := PySem.W.Datum.eqv (α := List Int) ns ms
theorem eq_R (rs ss : List Rq) : PyData.eqv (dR rs) (dR ss) = decide (rs = ss) := by
  have e : ∀ l : List Rq, dR l = PySem.W.Datum.toD (l.map fun r => (⟨[r.1, r.2.1, r.2.2]⟩ : PySem.W.Tup Int)) := fun l => by
    show PyData.list _ = PyData.list _
    rw [List.map_map]
    rfl
  rw [e, e, PySem.W.Datum.eqv]
  refine decide_eq_decide.mpr ⟨fun h => ?_, fun h => by rw [h]⟩
  refine (List.map_inj_right fun r s z => ?_).mp h
  have z := congrArg PySem.W.Tup.items z
  simp only [List.cons.injEq, and_true] at z
  exact Prod.ext z.1 (Prod.ext z.2.1 z.2.2)
section
variable {K : PySem.W.Frag} {w : World} {vs : List V} {H : Hp} {Q Q0 : VK} {E : XK}
theorem dpAll_ints (H : Hp) : ∀ ns : List Int, DpAll K H (ns.map V.int) (ns.map PyData.int)
  | [] => .nil
  | i :: r => .cons (.int i) (dpAll_ints H r)
theorem dp_I {a : Addr} {ns : List Int} (h : IntsAt H a ns) : Dp K H (.ref a) (dI ns) := .lst (SqL.of h) (dpAll_ints H ns)
theorem dp_R1 {v : V} {r : Rq} (h : IsR H v r) : Dp K H v (.tuple [.int r.1, .int r.2.1, .int r.2.2]) := by
  obtain ⟨t, rfl, h⟩ := h
  exact .tup (SqT.of h) (.cons (.int _) (.cons (.int _) (.cons (.int _) .nil)))
theorem dpAll_R : ∀ {vs : List V} {rs : List Rq}, Paired (IsR H) vs rs → DpAll K H vs (rs.map fun r => .tuple [.int r.1, .int r.2.1, .int r.2.2])
  | _, _, .nil => .nil
  | _, _, .cons r t => .cons (dp_R1 r) (dpAll_R t)
theorem dp_R {a : Addr} {rs : List Rq} (h : ReqsAt H a rs) : Dp K H (.ref a) (dR rs) := by
  obtain ⟨vs, e, p⟩ := h
  exact .lst (SqL.of e) (dpAll_R p)
theorem reqD_I {a b : Addr} {ns ms : List Int} {Q : VK} (h1 : IntsAt H a ns) (h2 : IntsAt H b ms) (q : Q (.bl (decide (ns = ms))) H) : rEqD K (.ref a) (.ref b) H Q := ⟨_, _, dp_I h1, dp_I h2, sh_I _, sh_I _, by rw [eq_I]; exact q⟩
theorem reqD_R {a b : Addr} {ns ms : List Rq} {Q : VK} (h1 : ReqsAt H a ns) (h2 : ReqsAt H b ms) (q : Q (.bl (decide (ns = ms))) H) : rEqD K (.ref a) (.ref b) H Q := ⟨_, _, dp_R h1, dp_R h2, sh_R _, sh_R _, by rw [eq_R]; exact q⟩
theorem rneD_I {a b : Addr} {ns ms : List Int} {Q : VK} (h1 : IntsAt H a ns) (h2 : IntsAt H b ms) (q : Q (.bl (!decide (ns = ms))) H) : rNeD K (.ref a) (.ref b) H Q := ⟨_, _, dp_I h1, dp_I h2, sh_I _, sh_I _, by rw [eq_I]; exact q⟩
theorem rneD_R {a b : Addr} {ns ms : List Rq} {Q : VK} (h1 : ReqsAt H a ns) (h2 : ReqsAt H b ms) (q : Q (.bl (!decide (ns = ms))) H) : rNeD K (.ref a) (.ref b) H Q := ⟨_, _, dp_R h1, dp_R h2, sh_R _, sh_R _, by rw [eq_R]; exact q⟩
/-! ### the law's helpers -/
theorem ScrAt.same {H H' : Hp} {a : Addr} {ns : List Int} (h : ScrAt K H a ns) (s : Same H H') : ScrAt K H' a ns := s.seq h
theorem rix_scr {a : Addr} {ns : List Int} {z : Int} {Q : VK} (h : ScrAt K H a ns) (h0 : 0 ≤ z) (h1 : z < ns.length) (q : ∀ i : Int, Q (.int i) H) : rIxL K (.ref a) (.int z) H Q := by
  have hl : z.toNat < ns.length := by omega
  exact ⟨_, _, _, _, rfl, rfl, h, at_int h0 (by rw [List.getElem?_map, List.getElem?_eq_getElem hl]; rfl), q ns[z.toNat]⟩
theorem rlen_scr {a : Addr} {ns : List Int} {Q : VK} (h : ScrAt K H a ns) (q : Q (.int ns.length) H) : qLen K [.ref a] H Q := ⟨_, _, rfl, .inl h, by rw [List.length_map]; exact q⟩
theorem pure__law_cell_at (h : sp__law_cell_at K w vs H Q E) (fin : Fin H Q Q0) : t__law_cell_at K w (endS Q0) (start ["_law_script", "_law_k"] vs) H := by
  obtain ⟨a, ns, k, rfl, hs, k0, n, q⟩ := h
  refine seq_i fun nx kk => if_i fun th el h1 h2 => ?_
  try walk_at "rd"
  refine rlen_scr hs ?_
  try walk_at "rd"
  by_cases c : k < ns.length
  · rw [if_pos c]
    refine h1 _ ?_
    try walk_at "rd"
    exact rix_scr hs k0 c fun i => fin.same n (Same.refl H) (q i)
  · rw [if_neg c]
    refine h2 _ (kk _ _ ?_)
    try walk_at "rd"
    exact fin.same n (Same.refl H) (q 0)
def primes : List Int := [1000003, 1000033, 1000037, 1000039, 1000081, 1000099, 1000117, 1000121, 1000133, 1000151, 1000159, 1000171, 1000183, 1000187, 1000193, 1000199]
theorem primes_pos : ∀ i : _root_.Fin 16, 0 < idF primes i := by decide +kernel
theorem pure__law_draw (h : sp__law_draw K w vs H Q E) (fin : Fin H Q Q0) : t__law_draw K w (endS Q0) (start ["_law_cell", "_law_k", "_law_many", "_law_primes"] vs) H := by
  obtain ⟨c, k, m, rfl, k0, m0, n, q⟩ := h
  refine seq_i fun nx kk => ?_
  try walk_at "rd"
  refine ⟨by decide, fun t ht => kk _ _ ?_⟩
  have s := Same.upd (o := .tup [V.int 1000003, V.int 1000033, V.int 1000037, V.int 1000039, V.int 1000081, V.int 1000099, V.int 1000117, V.int 1000121, V.int 1000133, V.int 1000151, V.int 1000159, V.int 1000171, V.int 1000183, V.int 1000187, V.int 1000193, V.int 1000199]) ht
  try walk_at "rd"
  have b0 := Int.emod_nonneg k (by decide : (16 : Int) ≠ 0)
  have b1 := Int.emod_lt_of_pos k (by decide : (0 : Int) < 16)
  have b2 : (k % 16).toNat < 16 := by omega
  refine ⟨.inr (by decide), .inr (by decide), by decide, rix_tup upd_same b0 (idF_get (id := primes) b2) ⟨_, rfl, primes_pos ⟨_, b2⟩, m0, fin.same n s (q _ (Int.emod_nonneg _ (by omega)) (Int.emod_lt_of_pos _ m0))⟩⟩
/-- a draw -/
theorem rdraw {ta : TE} {c k m : Int} {σ : L2.St} {Q : VK} (h : ∀ Q : VK, Q (.int c) H → ta σ H Q) (n : NoT H) (k0 : 0 ≤ k) (m0 : 0 < m) (q : ∀ z : Int, 0 ≤ z → z < m → Q (.int z) H) : ta σ H fun x H1 => sp__law_draw K w [x, .int k, .int m] H1 Q E0 := h _ ⟨c, k, m, rfl, k0, m0, n, q⟩
theorem pure__law_rooms (h : sp__law_rooms K w vs H Q E) (fin : Fin H Q Q0) : t__law_rooms K w (endS Q0) (start ["_law_script", "_law_many"] vs) H := by
  obtain ⟨a, ns, k, rfl, hs, k0, k1, n, q⟩ := h
  refine seq_i fun nx kk => if_i fun th el h1 h2 => ?_
  try walk_at "rd"
  refine ⟨a, ns, 3, rfl, hs, by decide, n, fun c => ⟨c, 9, 4, rfl, by decide, by decide, n, fun z z0 z1 => req_int ⟨_, rfl, ?_⟩⟩⟩
  by_cases e : z = 0
  · rw [decide_eq_true e]
    refine iteT (h1 _ ?_)
    try walk_at "rd"
    exact ⟨a, ns, 3, rfl, hs, by decide, n, fun c => ⟨c, 6, k + 2, rfl, by decide, by omega, n, fun z z0 z1 => fin.same n (Same.refl H) (q z z0 (by omega))⟩⟩
  · rw [decide_eq_false e]
    refine iteF (h2 _ (kk _ _ ?_))
    try walk_at "rd"
    exact ⟨a, ns, 3, rfl, hs, by decide, n, fun c => ⟨c, 5, 4, rfl, by decide, by decide, n, fun z z0 z1 => fin.same n (Same.refl H) (q z z0 (by omega))⟩⟩
theorem pure__law_whole (h : sp__law_whole K w vs H Q E) (fin : Fin H Q Q0) : t__law_whole K w (endS Q0) (start ["_law_number"] vs) H := pure_is_whole h fin
theorem pure__law_there (h : sp__law_there K w vs H Q E) (fin : Fin H Q Q0) : t__law_there K w (endS Q0) (start ["_law_requests_here", "_law_some", "_law_day", "_law_at"] vs) H := pure_for_day h fin
theorem pure__law_worth (h : sp__law_worth K w vs H Q E) (fin : Fin H Q Q0) : t__law_worth K w (endS Q0) (start ["_law_requests_here", "_law_some", "_law_at"] vs) H := pure_worth_of h fin
end
end Spn

namespace Spn
open PySem PySem.Spec PyProof.Rows L2
section
variable {K : PySem.W.Frag} {w : World} {vs : List V} {H : Hp} {Q Q0 : VK} {E : XK}
theorem pure__law_chosen (h : sp__law_chosen K w vs H Q E) (fin : Fin H Q Q0) : t__law_chosen K w (endS Q0) (start ["_law_requests_here", "_law_some", "_law_at"] vs) H := by
  obtain ⟨a, b, rs, ns, rfl, hr, hb, hz, n, q⟩ := h
  obtain ⟨rvs, ha, pr⟩ := id hr
  refine seq_i fun nx k => if_i fun th el h1 h2 => ?_
  try walk_at "rd"
  refine tLc_list ns (fun i => some (.bl (within rs.length i))) (fun R h => ⟨_, rfl, h⟩) hb (ints_paired ns) (le1000 hz) ?_ ?_
  · rintro D _ i acc Nx hD rfl hi add skip
    try walk_at "rd"
    refine ⟨_, _, rfl, IsWh.int, n.upd, ?_⟩
    try walk_at "rd"
    unfold within at add
    by_cases c : 0 ≤ i
    · rw [if_pos c]
      refine rlen_lst (Same.upd hD _ _ ha) pr.length ?_
      try walk_at "rd"
      exact add _ (by rw [decide_eq_true c, Bool.true_and])
    · rw [if_neg c]
      exact add _ (by rw [decide_eq_false c, Bool.false_and])
  · intro D hD
    have s := Same.upd (o := .lst (ns.filterMap fun i => some (V.bl (within rs.length i)))) hD
    refine all_new (bs := ns.map (within rs.length)) (fm_map _ V.bl ns) ⟨_, rfl, ?_⟩
    rw [List.all_map, show (id ∘ within rs.length) = within rs.length from rfl]
    cases c : ns.all (within rs.length) with
    | false =>
      refine iteT (h1 _ ?_)
      try walk_at "rd"
      rw [not_chosen c] at q
      exact fin.same n s q
    | true =>
      refine iteF (h2 _ (k _ _ ?_))
      try walk_at "rd"
      refine ⟨b, ns, rfl, SqL.of (s _ _ hb), by omega, fun p cc hp => ⟨p, _, cc, rfl, upd_same, fun ks d pw hk hd => ?_⟩⟩
      have s1 := Same.upd2 (o := SetO w p (fun j => decide (j ∈ ns)) cc) s hp
      have s2 := Same.upd2 (o := .lst (ks.map V.int)) s1 hd
      refine reqD_I (s2 _ _ hb) upd_same (fin.same n s2 ?_)
      rw [chosen_eq (within_all c) pw fun z => (hk z).trans decide_eq_true_iff]
      exact q
theorem rising_any : ∀ τ : List (Int × Int), ((List.range (τ.length - 1)).map fun k => decide ((τ.getD (k + 1) (0, 0)).1 ≤ (τ.getD k (0, 0)).1)).any id = !risingT τ := fun τ => by
  rw [← all_rising τ, List.any_map, List.all_map, List.not_all_eq_any_not]
  refine congrArg (fun f => List.any (List.range (τ.length - 1)) f) (funext fun k => ?_)
  show decide _ = !decide _
  rw [← decide_not]
  simp only [Int.not_lt]
theorem tLc_rngz {z : Int} {n : Nat} {g : TG} {tt : TT} {te : TE} {vs : List Nat} {σ : L2.St} (f : Nat → Option V) {ta : TA} (ea : ∀ R : List V → Hp → Prop, R [.int z] H → ta σ H R) (hn : z.toNat = n) (hz1 : -(2 ^ 60) < z) (hz : n ≤ sizeLine)
    (turn : ∀ D i acc (Nx : Hp → Prop), H D = none → i < n → (∀ z, f i = some z → ∃ acc', (upd H D (.lst acc)) D = some (.lst acc') ∧ acc'.length < sizeLine ∧ Nx (upd (upd H D (.lst acc)) D (.lst (acc' ++ [z])))) → (f i = none → Nx (upd H D (.lst acc))) →
      g (.int (0 + i)) (wipe σ vs) (upd H D (.lst acc)) fun σ2 H2 => wipe σ2 vs = wipe σ vs ∧ tt σ2 H2 fun b H3 =>
        if b = true then te σ2 H3 fun y H4 => ∃ acc, H4 D = some (.lst acc) ∧ acc.length < sizeLine ∧ Nx (upd H4 D (.lst (acc ++ [y]))) else Nx H3)
    (fin : ∀ D, H D = none → Q (.ref D) (upd H D (.lst ((List.range n).filterMap f)))) : tLc (iRng1 ta) g tt te vs σ H Q := by
  refine ea _ ⟨z, rfl, by omega, by rw [sizeLine_eq] at hz; omega, fun D hD => ?_⟩
  rw [hn]
  exact lc_fmR f hz hD (fun i acc Nx => turn D i acc Nx hD) (fin D hD)
theorem pure__law_best (h : sp__law_best K w vs H Q E) (fin : Fin H Q Q0) : t__law_best K w (endS Q0) (start ["_law_requests_here", "_law_rooms_here", "_law_some", "_law_tolls", "_law_whole_here", "_law_first", "_law_last", "_law_price", "_law_at", "_law_k", "_law_day", "_law_much"] vs) H := by
  obtain ⟨a, m, b, c, rs, ns, τ, rfl, hr, hb, hc, hz, hzn, hzt, hm, n, q⟩ := h
  obtain ⟨rvs, ha, pr⟩ := id hr
  obtain ⟨us, eb, pt⟩ := id hc
  refine seq_i fun nx k => if_i fun th el h1 h2 => ?_
  try walk_at "rd"
  refine ⟨a, b, rs, ns, rfl, hr, hb, hzn, n, _, rfl, ?_⟩
  cases ci : isChoice rs.length ns with
  | false =>
    refine iteT (h1 _ ?_)
    try walk_at "rd"
    have e : isBest rs m ns τ = false := by
      unfold isBest
      rw [ci]
      rfl
    rw [e] at q
    exact fin.same n (Same.refl H) q
  | true =>
  have hin : InR rs.length ns := (choice_iff.mp ci).2
  refine iteF (h2 _ (k _ _ (seq_i fun nx2 k2 => if_i fun th2 el2 h3 h4 => ?_)))
  try walk_at "rd"
  refine tLc_list ns (fun i => some (.bl (!decide (((forDay rs ns (getR rs i).1).length : Int) ≤ m)))) (fun R h => ⟨_, rfl, h⟩) hb (ints_paired ns) (le1000 hzn) ?_ ?_
  · rintro D _ i acc Nx hD rfl hi add skip
    obtain ⟨i0, i1⟩ := hin i hi
    have s := Same.upd (o := .lst acc) hD
    have hr' := hr.same s
    try walk_at "rd"
    refine rix_req hr' i0 i1 fun t ht => rix_tup ht (by decide) rfl ?_
    refine ⟨a, b, _, rs, ns, rfl, hr', s _ _ hb, hin, hzn, n.upd, fun p hp => ?_⟩
    refine rlen_lst upd_same (List.length_map _) ?_
    try walk_at "rd"
    refine ⟨_, Shr.none n.upd (Same.upd hp), add _ ?_⟩
    rw [← decide_not]
    simp only [Int.not_le]
  intro D hD
  have s := Same.upd (o := .lst (ns.filterMap fun i => some (V.bl (!decide (((forDay rs ns (getR rs i).1).length : Int) ≤ m))))) hD
  refine any_new (bs := ns.map fun i => !decide (((forDay rs ns (getR rs i).1).length : Int) ≤ m)) (fm_map _ V.bl ns) ⟨_, rfl, ?_⟩
  have ef : (ns.map fun i => !decide (((forDay rs ns (getR rs i).1).length : Int) ≤ m)).any id = !fits rs m ns := by
    rw [List.any_map]
    unfold fits
    rw [List.not_all_eq_any_not]
    rfl
  rw [ef]
  cases cf : fits rs m ns with
  | false =>
    refine iteT (h3 _ ?_)
    try walk_at "rd"
    have e : isBest rs m ns τ = false := by
      unfold isBest
      rw [ci, cf]
      rfl
    rw [e] at q
    exact fin.same n s q
  | true =>
  refine iteF (h4 _ (k2 _ _ (seq_i fun nx3 k3 => if_i fun th3 el3 h5 h6 => ?_)))
  try walk_at "rd"
  refine tLc_list τ (fun t => some (.bl (decide (0 ≤ t.2)))) (fun R h => ⟨_, rfl, h⟩) (s _ _ eb) (pt.mono fun _ _ q => q.same s) (le1000 hzt) ?_ ?_
  · rintro D2 _ t acc Nx hD2 ⟨p, rfl, hp⟩ ht add skip
    refine gtup2 (Same.upd hD2 _ _ hp) ?_
    try walk_at "rd"
    refine ⟨_, _, rfl, IsWh.int, n.upd.upd, ?_⟩
    try walk_at "rd"
    refine ⟨_, _, rfl, IsWh.int, n.upd.upd, ?_⟩
    try walk_at "rd"
    exact add _ rfl
  intro D2 hD2
  have s2 := Same.upd2 (o := .lst (τ.filterMap fun t => some (.bl (decide (0 ≤ t.2))))) s hD2
  refine all_new (bs := τ.map fun t => decide (0 ≤ t.2)) (fm_map _ V.bl τ) ⟨_, rfl, ?_⟩
  have e2 : (τ.map fun t => decide (0 ≤ t.2)).all id = τ.all fun t => decide (0 ≤ t.2) := by
    rw [List.all_map]
    rfl
  rw [e2]
  cases ct : τ.all fun t => decide (0 ≤ t.2) with
  | false =>
    refine iteT (h5 _ ?_)
    try walk_at "rd"
    have e : isBest rs m ns τ = false := by
      unfold isBest areTolls
      rw [ci, cf, ct]
      rfl
    rw [e] at q
    exact fin.same n s2 q
  | true =>
  refine iteF (h6 _ (k3 _ _ (seq_i fun nx4 k4 => if_i fun th4 el4 h7 h8 => ?_)))
  try walk_at "rd"
  have tc2 := hc.same s2
  refine tLc_rngz (z := (τ.length : Int) - 1) (n := τ.length - 1) (fun i => some (.bl (decide ((τ.getD (i + 1) (0, 0)).1 ≤ (τ.getD i (0, 0)).1)))) (fun R h => ?_) (by omega) (by omega) (by rw [sizeLine_eq]; omega) ?_ ?_
  · try walk_at "rd"
    refine rlen_lst (s2 _ _ eb) pt.length ?_
    try walk_at "rd"
    exact h
  · rintro D3 i acc Nx hD3 hi add skip
    have s3 := Same.upd (o := .lst acc) hD3
    try walk_at "rd"
    refine rix_toll (tc2.same s3) (n := i) (by omega) (by omega) fun t ht => rix_tup ht (by decide) rfl ?_
    try walk_at "rd"
    refine rix_toll (tc2.same s3) (n := i + 1) (by omega) (by omega) fun t ht => rix_tup ht (by decide) rfl ?_
    try walk_at "rd"
    exact add _ rfl
  intro D3 hD3
  have s3 := Same.upd2 (o := .lst ((List.range (τ.length - 1)).filterMap fun i => some (.bl (decide ((τ.getD (i + 1) (0, 0)).1 ≤ (τ.getD i (0, 0)).1))))) s2 hD3
  refine any_new (bs := (List.range (τ.length - 1)).map fun i => decide ((τ.getD (i + 1) (0, 0)).1 ≤ (τ.getD i (0, 0)).1)) (fm_map _ V.bl _) ⟨_, rfl, ?_⟩
  rw [rising_any]
  cases cr : risingT τ with
  | false =>
    refine iteT (h7 _ ?_)
    try walk_at "rd"
    have e : isBest rs m ns τ = false := by
      unfold isBest areTolls
      rw [ci, cf, ct, cr]
      rfl
    rw [e] at q
    exact fin.same n s3 q
  | true =>
  refine iteF (h8 _ (k4 _ _ (seq_i fun nx5 k5 => ?_)))
  have eB : isBest rs m ns τ = decide (worth rs ns = bound rs m τ) := by
    unfold isBest areTolls
    rw [ci, cf, ct, cr]
    rfl
  rw [eB] at q
  try walk_at "rd"
  refine tLc_list τ (fun t => some (.int t.2)) (fun R h => ⟨_, rfl, h⟩) (s3 _ _ eb) (pt.mono fun _ _ q => q.same s3) (le1000 hzt) ?_ ?_
  · rintro D _ t acc Nx hD ⟨p, rfl, hp⟩ ht add skip
    refine gtup2 (Same.upd hD _ _ hp) ?_
    try walk_at "rd"
    exact add _ rfl
  intro D4 hD4
  have s4 := Same.upd2 (o := .lst (τ.filterMap fun t => some (.int t.2))) s3 hD4
  refine sum_new (bs := τ.map (·.2)) (fm_map _ V.int τ) ?_
  refine ⟨_, rfl, .inl hm, k5 _ _ (seq_i fun nx6 k6 => ?_)⟩
  try walk_at "rd"
  refine tFor_lst (K := K) (a := a) (xs := rvs) (fun R h => ⟨_, rfl, h⟩) (fun i σ H' => Same H H' ∧ NoT H' ∧ ∃ x1 x2 x3 x4 x5 x6 x7, σ = [some (.ref a), some (.int m), some (.ref b), some (.ref c), some (.int (m * tollSum τ + ((rs.take i).map (gainOf τ)).sum)), x1, x2, x3, x4, x5, x6, x7]) ⟨s4, n.upd.upd.upd.upd, none, none, none, none, none, none, none, ?_⟩ ?_ ?_ ?_
  · simp [tollSum]
  · rintro i σ H' ⟨s', _⟩
    exact s' _ _ ha
  · rintro i v σ H' nxL kL hi ⟨s', n', x1, x2, x3, x4, x5, x6, x7, rfl⟩
    obtain ⟨r, hr, p, rfl, hp⟩ := Paired.getR pr hi
    refine gtup3 (s' _ _ hp) ?_
    try walk_at "rd"
    refine tLc_list τ (fun t => if covers r t.1 = true then some (.int t.2) else none) (fun R h => ⟨_, rfl, h⟩) (s' _ _ eb) (pt.mono fun _ _ q => q.same s') (le1000 hzt) ?_ ?_
    · rintro D2 _ t acc Nx hD2 ⟨p2, rfl, hp2⟩ ht add skip
      refine gtup2 (Same.upd hD2 _ _ hp2) ?_
      try walk_at "rd"
      by_cases c : r.1 ≤ t.1
      · rw [if_pos c]
        by_cases c2 : t.1 ≤ r.2.1
        · rw [if_pos c2]
          exact add _ (if_pos (covers_iff.mpr ⟨c, c2⟩))
        · rw [if_neg c2]
          exact skip (if_neg fun z => c2 (covers_iff.mp z).2)
      · rw [if_neg c]
        try walk_at "rd"
        exact skip (if_neg fun z => c (covers_iff.mp z).1)
    · intro D2 hD2
      rw [tollOf_fm]
      refine sum_new (bs := (τ.filter fun t => covers r t.1).map (·.2)) rfl ?_
      try walk_at "rd"
      refine ⟨_, _, rfl, ?_⟩
      try walk_at "rd"
      refine kL _ _ ⟨Same.upd2 s' hD2, n'.upd, ?_⟩
      rw [take_snoc hr, List.map_append, List.sum_append]
      refine ⟨_, _, _, _, _, _, _, congrArg (fun z => [some (V.ref a), some (V.int m), some (V.ref b), some (V.ref c), some (V.int z), _, _, _, _, _, _, _]) ?_⟩
      simp only [List.map_cons, List.map_nil, List.sum_cons, List.sum_nil, gainOf, tollOf]
      rw [Int.max_def]
      split <;> split <;> omega
  · rintro σ H' ⟨s', n', x1, x2, x3, x4, x5, x6, x7, rfl⟩
    refine k6 _ _ ?_
    try walk_at "rd"
    rw [pr.length, List.take_length]
    exact ⟨a, b, rs, ns, rfl, hr.same s', s' _ _ hb, hin, hzn, n', req_int (fin.same n s' q)⟩
end
end Spn

namespace Spn
open PySem PySem.Spec PyProof.Rows L2
section
variable {K : PySem.W.Frag} {w : World} {vs : List V} {H : Hp} {Q Q0 : VK} {E : XK}
structure RI (H H' : Hp) (pf : Addr) (rs : List Rq) : Prop where
  s : Same H H'
  n : NoT H'
  r : ReqsAt H' pf rs
  ok : OkL rs
theorem RI.new {H H' : Hp} {pf t : Addr} {rs : List Rq} {o : HO} (I : RI H H' pf rs) (ht : H' t = none) (ho : plainO o = true := by rfl) : RI H (upd H' t o) pf rs := ⟨Same.upd2 I.s ht, I.n.upd ho, I.r.same (Same.upd ht), I.ok⟩
/-- found.append((f, l, p)) -/
theorem RI.add {H H' : Hp} {pf : Addr} {rs : List Rq} {f l p : Int} {P : Hp → Prop} (I : RI H H' pf rs) (hpf : H pf = none) (hz : rs.length < 200) (ok : f ≤ l ∧ 0 ≤ p ∧ -(10 ^ 60) < f ∧ l < 10 ^ 60 ∧ p < 10 ^ 60) (k : ∀ H3, RI H H3 pf (rs ++ [(f, l, p)]) → P H3) :
    3 ≤ sizeLine ∧ ∀ t, H' t = none → rAppend (.ref pf) [.ref t] (upd H' t (.tup [.int f, .int l, .int p])) fun _ H1 => P H1 := by
  refine ⟨by decide, fun t ht => ?_⟩
  have I2 := I.new (o := .tup [.int f, .int l, .int p]) ht
  obtain ⟨vs, e, pr⟩ := I2.r
  refine rapp (K := []) e (by rw [pr.length, sizeLine_eq]; omega) (k _ ⟨Same.upd3 I2.s hpf, I2.n.upd, ⟨_, upd_same, (pr.mono fun _ _ q => q.keep ((TK.refl _).lst e)).snoc ⟨t, rfl, ?_⟩⟩, fun r hr => ?_⟩)
  · exact ((TK.refl _).lst e) _ _ upd_same
  · rcases List.mem_append.mp hr with h | h
    · exact I.ok r h
    · rw [List.mem_singleton.mp h]
      exact ok
theorem rgc3 : ∀ m : _root_.Fin 64, Builtin.Range.small 0 (m.val : Int) 3 = true ∧ Builtin.Range.rangeSize 0 (m.val : Int) 3 = (((m.val + 2) / 3 : Nat) : Int) := by decide +kernel
theorem tFor_rng3 {n : Nat} {ta : TA} {g : TG} {tb : TS} {D : Ends} {σ : L2.St} {H : Hp} {lo hi c : Int} (ea : ∀ R : List V → Hp → Prop, R [.int lo, .int hi, .int c] H → ta σ H R) (hg : RgC lo hi c n) (Pv : Nat → L2.St → Hp → Prop) (h0 : Pv 0 σ H)
    (hs : ∀ i σ H (nx : L2.St → Hp → Prop), (∀ σ' H', Pv (i + 1) σ' H' → nx σ' H') → i < n → Pv i σ H → g (.int (lo + (i : Nat) * c)) σ H fun σ2 H2 => tb { D with nx := nx, ct := nx, bk := D.nx } σ2 H2) (hd : ∀ σ H, Pv n σ H → D.nx σ H) : tFor (iRng3 ta) g tb D σ H :=
  ea _ ⟨lo, hi, c, n, rfl, hg, for_rangeC Pv h0 (fun i σ H hi p => hs i σ H _ (fun _ _ h => h) hi p) hd⟩
/-- (x, y, z, u)[i], laid just now -/
theorem tup4_ix {t : Addr} {x y z u i : Int} {P : Int → Prop} {H' : Hp} {Q : VK} (h : H' t = some (.tup [.int x, .int y, .int z, .int u])) (h0 : 0 ≤ i) (h1 : i < 4) (hx : P x) (hy : P y) (hz : P z) (hu : P u) (q : ∀ v : Int, P v → Q (.int v) H') : rIxT K (.ref t) (.int i) H' Q := by
  have : i = 0 ∨ i = 1 ∨ i = 2 ∨ i = 3 := by omega
  rcases this with e | e | e | e <;> subst e
  · exact rix_tup h (by decide) rfl (q _ hx)
  · exact rix_tup h (by decide) rfl (q _ hy)
  · exact rix_tup h (by decide) rfl (q _ hz)
  · exact rix_tup h (by decide) rfl (q _ hu)
theorem mul_lo {f t : Int} (hf : -100 ≤ f) (h0 : 0 < t) (h1 : t ≤ 10 ^ 9) : -(10 ^ 60) < f * t := by
  have a := Int.mul_le_mul_of_nonneg_right hf (Int.le_of_lt h0)
  omega
theorem mul_hi {f t : Int} (hf : f ≤ 100) (h0 : 0 < t) (h1 : t ≤ 10 ^ 9) : f * t < 10 ^ 60 := by
  have a := Int.mul_le_mul_of_nonneg_right hf (Int.le_of_lt h0)
  omega
theorem pure__law_requests (h : sp__law_requests K w vs H Q E) (fin : Fin H Q Q0) : t__law_requests K w (endS Q0) (start ["_law_script", "_law_found", "_law_k", "_law_first", "_law_kind", "_law_times", "_law_days", "_law_most", "_law_each", "_law_cell", "_law_last"] vs) H := by
  obtain ⟨a, ns, rfl, hs, hl, n, q⟩ := h
  refine seq_i fun nx k => ?_
  try walk_at "rd"
  refine ⟨Nat.zero_le _, fun pf hpf => k _ _ (seq_i fun nx2 k2 => if_i fun th el h1 h2 => ?_)⟩
  have I0 : RI H (upd H pf (.lst [])) pf [] := ⟨Same.upd hpf, n.upd, ⟨[], upd_same, .nil⟩, fun r hr => by cases hr⟩
  have done : ∀ {H' : Hp} {rs : List Rq}, RI H H' pf rs → rs.length ≤ 126 → Q0 (.ref pf) H' := fun {H' rs} I len => by
    obtain ⟨vs, e, pr⟩ := I.r
    exact fin.new n I.s (q _ pf rs (ltH_same I.s) (ltH_noT n I.s) hpf ⟨vs, ltH_lst e, pr.mono fun _ _ q => q.keep (ltH_tk _ _)⟩ I.ok len)
  try walk_at "rd"
  refine rlen_scr (hs.same I0.s) ?_
  try walk_at "rd"
  refine ⟨by decide, req_int ⟨_, rfl, ?_⟩⟩
  by_cases c : (ns.length : Int) % 3 = 0
  · rw [decide_eq_true c]
    refine iteT (h1 _ (seq_i fun nx3 k3 => ?_))
    have g := rgc3 ⟨ns.length, by omega⟩
    refine tFor_rng3 (n := (ns.length + 2) / 3) (lo := 0) (hi := ns.length) (c := 3) (fun R h => ?_) ⟨by decide, by decide, g.1, g.2⟩ (fun i σ H' => ∃ x2 x3, σ = [some (.ref a), some (.ref pf), x2, x3, none, none, none, none, none, none, none] ∧ ∃ rs, RI H H' pf rs ∧ rs.length = i) ⟨none, none, rfl, [], I0, rfl⟩ ?_ ?_
    · try walk_at "rd"
      exact rlen_scr (hs.same I0.s) h
    · rintro i σ H' nxL kL hi ⟨x2, x3, rfl, rs, I, len⟩
      try walk_at "rd"
      refine seq_i fun nx4 k4 => ?_
      have hs' := hs.same I.s
      try walk_at "rd"
      refine rix_scr hs' (by omega) (by omega) fun x => ?_
      try walk_at "rd"
      refine ⟨⟨by decide, by decide⟩, ⟨by decide, by decide, by decide⟩, by decide, rix_scr hs' (by omega) (by omega) fun y => ⟨_, rfl, by decide, .inr ⟨by decide, by decide⟩, .inr ?_, ?_⟩⟩
      · omega
      have e40 : (10 : Int) ^ Int.toNat 40 = 10 ^ 40 := rfl
      have e60 : (10 : Int) ^ Int.toNat 60 = 10 ^ 60 := rfl
      rw [e40]
      have u0 := Int.emod_nonneg (x / 2) (by decide : (10 ^ 40 : Int) ≠ 0)
      have u1 := Int.emod_lt_of_pos (x / 2) (by decide : (0 : Int) < 10 ^ 40)
      generalize x / 2 % 10 ^ 40 = u at u0 u1 ⊢
      have fb : -(10 ^ 40) < u * (1 - y % 2 * 2) ∧ u * (1 - y % 2 * 2) < 10 ^ 40 := by
        have : y % 2 = 0 ∨ y % 2 = 1 := by omega
        rcases this with e | e <;> rw [e] <;> omega
      generalize u * (1 - y % 2 * 2) = f at fb ⊢
      refine k4 _ _ ?_
      obtain ⟨rvs, er, _⟩ := id I.r
      try walk_at "rd"
      refine ⟨ty_lst (K := K) er, rix_scr hs' (by omega) (by omega) fun y1 => ?_⟩
      try walk_at "rd"
      refine ⟨⟨by decide, by decide, by decide⟩, by decide, rix_scr hs' (by omega) (by omega) fun y2 => ?_⟩
      try walk_at "rd"
      refine ⟨⟨by decide, by decide, by decide⟩, by decide, ?_⟩
      rw [e40, e60]
      have b0 := Int.emod_nonneg y1 (by decide : (10 ^ 40 : Int) ≠ 0)
      have b1 := Int.emod_lt_of_pos y1 (by decide : (0 : Int) < 10 ^ 40)
      have c0 := Int.emod_nonneg y2 (by decide : (10 ^ 60 : Int) ≠ 0)
      have c1 := Int.emod_lt_of_pos y2 (by decide : (0 : Int) < 10 ^ 60)
      generalize y1 % 10 ^ 40 = g1 at b0 b1 ⊢
      generalize y2 % 10 ^ 60 = g2 at c0 c1 ⊢
      exact I.add hpf (by omega) ⟨by omega, by omega, by omega, by omega, by omega⟩ fun H3 I3 => kL _ _ ⟨_, _, rfl, _, I3, by rw [List.length_append, len]; rfl⟩
    · rintro σ H' ⟨x2, x3, rfl, rs, I, len⟩
      refine k3 _ _ ?_
      try walk_at "rd"
      exact done I (by omega)
  · rw [decide_eq_false c]
    refine iteF (h2 _ (k2 _ _ (seq_i fun nx3 k3 => ?_)))
    have hs0 := hs.same I0.s
    try walk_at "rd"
    refine ⟨a, ns, 0, rfl, hs0, by decide, I0.n, fun z1 => ⟨z1, 6, 4, rfl, by decide, by decide, I0.n, fun kd kd0 kd1 => ?_⟩⟩
    try walk_at "rd"
    refine ⟨⟨by decide, by decide, by decide⟩, by decide, fun t1 ht1 => ?_⟩
    have I1 := I0.new (o := .tup [.int 1, .int 1, .int (10 ^ Int.toNat 9), .int 7]) ht1
    refine ⟨a, ns, 1, rfl, hs.same I1.s, by decide, I1.n, fun z2 => ⟨z2, 7, 4, rfl, by decide, by decide, I1.n, fun d2 d20 d21 => ?_⟩⟩
    refine tup4_ix (P := fun v => 0 < v ∧ v ≤ 10 ^ 9) upd_same d20 d21 (by decide) (by decide) (by decide) (by decide) fun ti ⟨ti0, ti1⟩ => ⟨_, _, rfl, k3 _ _ (seq_i fun nx4 k4 => ?_)⟩
    try walk_at "rd"
    refine ⟨by decide, fun t2 ht2 => ?_⟩
    have I2 := I1.new (o := .tup [.int 5, .int 12, .int 30, .int 3]) ht2
    refine tup4_ix (P := fun v => 3 ≤ v ∧ v ≤ 30) upd_same kd0 kd1 (by decide) (by decide) (by decide) (by decide) fun dy ⟨dy0, dy1⟩ => ⟨by decide, fun t3 ht3 => ?_⟩
    have I3 := I2.new (o := .tup [.int 4, .int 50, .int 1000000, .int 10]) ht3
    refine ⟨a, ns, 2, rfl, hs.same I3.s, by decide, I3.n, fun z3 => ⟨z3, 8, 4, rfl, by decide, by decide, I3.n, fun d3 d30 d31 => ?_⟩⟩
    refine tup4_ix (P := fun v => 0 < v ∧ v ≤ 1000000) upd_same d30 d31 (by decide) (by decide) (by decide) (by decide) fun mo ⟨mo0, mo1⟩ => ⟨_, _, rfl, k4 _ _ (seq_i fun nx5 k5 => ?_)⟩
    -- one or two for each number
    have go : ∀ each : Int, (each = 1 ∨ each = 2) → ∀ H4, RI H H4 pf [] → nx5 [some (.ref a), some (.ref pf), none, none, some (.int kd), some (.int ti), some (.int dy), some (.int mo), some (.int each), none, none] H4 := by
      intro each he H4 I4
      refine k5 _ _ (seq_i fun nx6 k6 => ?_)
      have en : ((each.toNat * ns.length : Nat) : Int) = each * ns.length := by
        rcases he with e | e <;> rw [e] <;> simp
      have eb : each.toNat * ns.length ≤ 126 := by
        rcases he with e | e <;> rw [e] <;> simp <;> omega
      refine tFor_rng1 (n := each.toNat * ns.length) (fun R h => ?_) (by omega) (fun i σ H' => ∃ x2 x3 x9 x10, σ = [some (.ref a), some (.ref pf), x2, x3, some (.int kd), some (.int ti), some (.int dy), some (.int mo), some (.int each), x9, x10] ∧ ∃ rs, RI H H' pf rs ∧ rs.length = i) ⟨none, none, none, none, rfl, [], I4, rfl⟩ ?_ ?_
      · try walk_at "rd"
        refine rlen_scr (hs.same I4.s) ⟨_, rfl, .inl ?_, ?_⟩
        · rcases he with e | e <;> rw [e] <;> exact ⟨by decide, by decide⟩
        · rw [← en]
          exact h
      · rintro i σ H' nxL kL hi ⟨x2, x3, x9, x10, rfl, rs, I, len⟩
        have hs' := hs.same I.s
        try walk_at "rd"
        refine seq_i fun nx7 k7 => ?_
        try walk_at "rd"
        have ep : 0 < each := by omega
        have q0 : 0 ≤ (i : Int) / each := Int.ediv_nonneg (by omega) (by omega)
        have q1 : (i : Int) / each < ns.length := Int.ediv_lt_of_lt_mul ep (by rw [Int.mul_comm]; rw [← en]; omega)
        have hi0 : 0 ≤ (i : Int) := Int.natCast_nonneg i
        refine ⟨⟨ep, by omega⟩, rix_scr hs' q0 q1 fun x => ⟨ep, .inl ⟨by decide, by decide⟩, _, rfl, k7 _ _ (seq_i fun nx8 k8 => ?_)⟩⟩
        generalize x + 977 * ((i : Int) % each) = cl
        try walk_at "rd"
        refine ⟨by decide, by decide, cl, _, _, rfl, by omega, by omega, I.n, fun f f0 f1 => ?_⟩
        try walk_at "rd"
        refine ⟨⟨by decide, by decide⟩, k8 _ _ (seq_i fun nx9 k9 => ?_)⟩
        try walk_at "rd"
        refine ⟨by decide, by decide, fun t5 ht5 => ?_⟩
        have I5 := I.new (o := .tup [.int 1, .int 3, .int 8, .int 2]) ht5
        refine tup4_ix (P := fun v => 0 < v ∧ v ≤ 8) upd_same kd0 kd1 (by decide) (by decide) (by decide) (by decide) fun ln ⟨ln0, ln1⟩ => ⟨cl, _, _, rfl, by omega, by omega, I5.n, fun g g0 g1 => ?_⟩
        try walk_at "rd"
        refine k9 _ _ ?_
        obtain ⟨rvs, er, _⟩ := id I5.r
        try walk_at "rd"
        have cm : ∀ z : Int, CMul z ti := fun z => .inr ⟨by omega, by omega⟩
        refine ⟨ty_lst (K := K) er, cm _, cm _, by decide, cl, _, _, rfl, by omega, mo0, I5.n, fun pr pr0 pr1 => ?_⟩
        have lo := mul_lo (f := f - dy / 2) (by omega) ti0 ti1
        have hi := mul_hi (f := f - dy / 2 + g) (by omega) ti0 ti1
        have le := Int.mul_le_mul_of_nonneg_right (a := f - dy / 2) (b := f - dy / 2 + g) (c := ti) (by omega) (by omega)
        exact I5.add hpf (by omega) ⟨le, pr0, lo, hi, by omega⟩ fun H6 I6 => kL _ _ ⟨_, _, _, _, rfl, _, I6, by rw [List.length_append, len]; rfl⟩
      · rintro σ H' ⟨x2, x3, x9, x10, rfl, rs, I, len⟩
        refine k6 _ _ ?_
        try walk_at "rd"
        exact done I (by omega)
    try walk_at "rd"
    refine ⟨a, ns, 1, rfl, hs.same I3.s, by decide, I3.n, fun z4 => ⟨z4, 9, 8, rfl, by decide, by decide, I3.n, fun d4 _ _ => req_int ⟨_, rfl, ?_⟩⟩⟩
    by_cases e : d4 = 0
    · rw [decide_eq_true e]
      exact iteT (go 2 (.inr rfl) _ I3)
    · rw [decide_eq_false e]
      exact iteF (go 1 (.inl rfl) _ I3)
end
end Spn

namespace Spn
open PySem PySem.Spec PyProof.Rows L2
/-! ### instances: their classes -/
/-- what isinstance asks of the class c of a thing -/
structure Isa (K : PySem.W.Frag) (c : Str) : Prop where
  cl : Cls K (He.ga K c)
  ha : PySem.W.findIn K (.ref (He.ga K c)) "__class__" = some (some (.builtin "object.__class__"))
  hn : PySem.W.specialIn K (.builtin "object.__class__") "__get__" = some (some (.builtin "getset_descriptor.__get__"))
  htk : PySem.W.takesIn K (.builtin "object.__class__") = some true
  hm : PySem.W.mroIn K (He.ga K c) (.type "object") = some true
def Kit (K : PySem.W.Frag) (c d : Str) (b : Bool) : Prop := PySem.W.kitOne K (.ref (He.ga K c)) (.ref (He.ga K d)) = some b
theorem rIsi_ins {K : PySem.W.Frag} {H : Hp} {c d : Str} {b : Bool} {x dx : Addr} {fs : List (Str × V)} {Q : VK} (I : Isa K c) (k : Kit K c d b) (h : H x = some (.ins (He.ga K c) dx fs)) (q : Q (.bl b) H) : rIsi K [.ref x, .ref (He.ga K d)] H Q :=
  ⟨.ref x, .ref (He.ga K d), .ref (He.ga K c), .ref (He.ga K d), b, rfl, .own _, .base (.ins h I.cl I.ha I.hn I.htk I.hm), k, q⟩
theorem rIsi_lst {K : PySem.W.Frag} {H : Hp} {x : Addr} {l : List V} {T : String} {b : Bool} {Q : VK} (h : H x = some (.lst l)) (k : kitB "list" T = some b) (q : Q (.bl b) H) : rIsi K [.ref x, .ty T] H Q := isi_of (.base (.lst h)) k q
theorem rIsi_tup {K : PySem.W.Frag} {H : Hp} {x : Addr} {l : List V} {T : String} {b : Bool} {Q : VK} (h : H x = some (.tup l)) (k : kitB "tuple" T = some b) (q : Q (.bl b) H) : rIsi K [.ref x, .ty T] H Q := isi_of (.base (.tup h)) k q
/-- the class Best -/
structure BestC (K : PySem.W.Frag) : Prop where
  cl : Cls K (He.ga K "Best")
  n1 : NoAttr K (He.ga K "Best") "taken"
  n2 : NoAttr K (He.ga K "Best") "tolls"
def Rms (m : Int) : Prop := -(2 ^ 64) < m ∧ m < 2 ^ 64
section
variable {K : PySem.W.Frag} {w : World} {vs : List V} {H : Hp} {Q Q0 : VK} {E : XK}
theorem bf_shows (p q : Addr) : (bestF p q).lookup ("shows" : Str) = none := (lk_past (by decide +kernel)).trans ((lk_past (by decide +kernel)).trans rfl)
theorem best_fld1 {x p q : Addr} {ns : List Int} {τ : List (Int × Int)} {tb : TE} {σ : L2.St} {Q : VK} (C : BestC K) (eb : ∀ Q : VK, Q (.ref x) H → tb σ H Q) (B : BestAt K H x p q ns τ) (k : Q (.ref p) H) : tFld K tb "taken" σ H Q := by
  obtain ⟨⟨dx, hx⟩, _⟩ := B
  exact rfld eb hx C.cl C.n1 (bf_taken p q) k
theorem best_fld2 {x p q : Addr} {ns : List Int} {τ : List (Int × Int)} {tb : TE} {σ : L2.St} {Q : VK} (C : BestC K) (eb : ∀ Q : VK, Q (.ref x) H → tb σ H Q) (B : BestAt K H x p q ns τ) (k : Q (.ref q) H) : tFld K tb "tolls" σ H Q := by
  obtain ⟨⟨dx, hx⟩, _⟩ := B
  exact rfld eb hx C.cl C.n2 (bf_tolls p q) k
/-- what is asked of a best answer -/
theorem best_shows {x p q a : Addr} {m : Int} {rs : List Rq} {ns : List Int} {τ : List (Int × Int)} {tb tr tm : TE} {σ : L2.St} {Q : VK} (eb : ∀ Q : VK, Q (.ref x) H → tb σ H Q) (er : ∀ Q : VK, Q (.ref a) H → tr σ H Q) (em : ∀ Q : VK, Q (.int m) H → tm σ H Q)
    (B : BestAt K H x p q ns τ) (hr : ReqsAt H a rs) (z1 : rs.length ≤ 1000) (z2 : ns.length ≤ 1000) (z3 : τ.length ≤ 1000) (hm : Rms m) (n : NoT H) (k : Q (.bl (isBest rs m ns τ)) H) : tMeth (He.ga K "Best") "shows" (sp_Best_shows K w) [] E0 tb (tCons tr (tCons tm tNil)) σ H Q := by
  obtain ⟨⟨dx, hx⟩, hp, hq⟩ := id B
  exact rmeth (vs := [.ref a, .int m]) eb hx (bf_shows p q) (fun R h => er _ (em _ h)) ⟨x, p, q, a, m, rs, ns, τ, rfl, B, hr, z1, z2, z3, hm, n, k⟩
theorem law_best {x p q a : Addr} {m : Int} {rs : List Rq} {ns : List Int} {τ : List (Int × Int)} {tb tr tm : TE} {σ : L2.St} {Q : VK} (C : BestC K) (eb : ∀ Q : VK, Q (.ref x) H → tb σ H Q) (er : ∀ Q : VK, Q (.ref a) H → tr σ H Q) (em : ∀ Q : VK, Q (.int m) H → tm σ H Q)
    (B : BestAt K H x p q ns τ) (hr : ReqsAt H a rs) (z1 : rs.length ≤ 1000) (z2 : ns.length ≤ 1000) (z3 : τ.length ≤ 1000) (hm : Rms m) (n : NoT H) (k : Q (.bl (isBest rs m ns τ)) H) : tCall (sp__law_best K w) [] E0 (tCons tr (tCons tm (tCons (tFld K tb "taken") (tCons (tFld K tb "tolls") tNil)))) σ H Q := by
  obtain ⟨_, hp, hq⟩ := id B
  refine er _ (em _ (best_fld1 C eb B (best_fld2 C eb B ?_)))
  exact ⟨a, m, p, q, rs, ns, τ, rfl, hr, hp, hq, z1, z2, z3, hm, n, k⟩
theorem rne_bl {b : Bool} {Q : VK} (q : Q (.bl false) H) : rNe (.bl b) (.bl b) H Q := ⟨rfl, by
  have e : (!decide (V.bl b = V.bl b)) = false := by simp
  rw [e]; exact q⟩
/-- what it shows is what is reckoned here -/
theorem shows_ne {x p q a : Addr} {m : Int} {rs : List Rq} {ns : List Int} {τ : List (Int × Int)} {tb tr tm : TE} {σ : L2.St} {D : Ends} (C : BestC K) (eb : ∀ Q : VK, Q (.ref x) H → tb σ H Q) (er : ∀ Q : VK, Q (.ref a) H → tr σ H Q) (em : ∀ Q : VK, Q (.int m) H → tm σ H Q)
    (B : BestAt K H x p q ns τ) (hr : ReqsAt H a rs) (z1 : rs.length ≤ 1000) (z2 : ns.length ≤ 1000) (z3 : τ.length ≤ 1000) (hm : Rms m) (n : NoT H) (k : D.nx σ H) :
    tIfS (tTest (tOp rNe (tMeth (He.ga K "Best") "shows" (sp_Best_shows K w) [] E0 tb (tCons tr (tCons tm tNil))) (tCall (sp__law_best K w) [] E0 (tCons tr (tCons tm (tCons (tFld K tb "taken") (tCons (tFld K tb "tolls") tNil))))))) (tRet (tC (.bl false))) tNext D σ H := by
  refine if_i fun th el h1 h2 => ?_
  refine best_shows eb er em B hr z1 z2 z3 hm n (law_best C eb er em B hr z1 z2 z3 hm n (rne_bl ⟨_, rfl, iteF (h2 _ k)⟩))
/-- what it shows is b -/
theorem shows_is {x p q a : Addr} {m : Int} {b : Bool} {rs : List Rq} {ns : List Int} {τ : List (Int × Int)} {tb tr tm : TE} {σ : L2.St} {Q : Bool → Hp → Prop} (eb : ∀ Q : VK, Q (.ref x) H → tb σ H Q) (er : ∀ Q : VK, Q (.ref a) H → tr σ H Q) (em : ∀ Q : VK, Q (.int m) H → tm σ H Q)
    (B : BestAt K H x p q ns τ) (hr : ReqsAt H a rs) (z1 : rs.length ≤ 1000) (z2 : ns.length ≤ 1000) (z3 : τ.length ≤ 1000) (hm : Rms m) (n : NoT H) (e : isBest rs m ns τ = b) (k : Q false H) :
    tTest (tOp rNotB (tMeth (He.ga K "Best") "shows" (sp_Best_shows K w) [] E0 tb (tCons tr (tCons tm tNil))) (tC (.bl b))) σ H Q := by
  refine best_shows eb er em B hr z1 z2 z3 hm n ⟨_, _, rfl, rfl, _, rfl, ?_⟩
  rw [e, decide_eq_true rfl]
  exact k
theorem OkL.r {rs : List Rq} (h : OkL rs) : OkR rs := fun r hr => ⟨(h r hr).1, (h r hr).2.1⟩
/-- one more behind is no choice -/
theorem best_len {rs : List Rq} {m : Int} {ns : List Int} {τ : List (Int × Int)} (h : isBest rs m ns τ = true) : ns.length ≤ rs.length := choice_len (isBest_iff.mp h).1
theorem tFor_tvia {ta : TE} {g : TG} {tb : TS} {D : Ends} {σ : L2.St} {H : Hp} (h : ta σ H fun v H1 => tFor (iTup K fun _ H2 Q2 => Q2 v H2) g tb D σ H1) : tFor (iTup K ta) g tb D σ H := h
theorem two_get {u v x : V} {i : Nat} (h : [u, v][i]? = some x) : x = u ∨ x = v := by
  match i, h with
  | 0, h => exact .inl (Option.some.inj h).symm
  | 1, h => exact .inr (Option.some.inj h).symm
theorem ReqsAt.setl {H : Hp} {a p : Addr} {l l' : List V} {rs : List Rq} (h : ReqsAt H a rs) (ne : a ≠ p) (e : H p = some (.lst l)) : ReqsAt (upd H p (.lst l')) a rs := by
  obtain ⟨vs, ea, pr⟩ := h
  exact ⟨vs, by rw [upd_ne ne]; exact ea, pr.mono fun _ _ q => q.keep ((TK.refl _).lst e)⟩
theorem BestAt.set1 {H : Hp} {x p q : Addr} {ns ns' : List Int} {τ : List (Int × Int)} (B : BestAt K H x p q ns τ) (ne : p ≠ q) : BestAt K (upd H p (.lst (ns'.map V.int))) x p q ns' τ := by
  obtain ⟨⟨dx, hx⟩, hp, us, hq, pq⟩ := B
  refine ⟨⟨dx, ?_⟩, upd_same, us, by rw [upd_ne ne.symm]; exact hq, pq.mono fun _ _ h => h.keep ((TK.refl _).lst hp)⟩
  rw [upd_ne (ne_of hx hp (by intro z; cases z))]
  exact hx
theorem BestAt.set2 {H : Hp} {x p q t : Addr} {ns : List Int} {τ : List (Int × Int)} {us : List V} {d b : Int} (B : BestAt K H x p q ns τ) (ne : p ≠ q) (e : H q = some (.lst us)) (pu : Paired (IsP H) us τ) (ht : H t = some (.tup [.int d, .int b])) : BestAt K (upd H q (.lst (us ++ [.ref t]))) x p q ns (τ ++ [(d, b)]) := by
  obtain ⟨⟨dx, hx⟩, hp, _⟩ := B
  have tk := (TK.refl H).lst (o := .lst (us ++ [.ref t])) e
  refine ⟨⟨dx, ?_⟩, ?_, _, upd_same, (pu.mono fun _ _ h => h.keep tk).snoc ⟨t, rfl, tk _ _ ht⟩⟩
  · rw [upd_ne (ne_of hx e (by intro z; cases z))]
    exact hx
  · show _ = _
    rw [upd_ne ne]
    exact hp
theorem cut1' (xs : List V) : cutV xs (some 1) none = xs.drop 1 := by
  cases xs with
  | nil => rfl
  | cons v r => exact cut1
theorem tFor_lvia {ta : TE} {g : TG} {tb : TS} {D : Ends} {σ : L2.St} {H : Hp} (h : ta σ H fun v H1 => tFor (iList K fun _ H2 Q2 => Q2 v H2) g tb D σ H1) : tFor (iList K ta) g tb D σ H := h
theorem inV_ints (z : Int) : ∀ T : List Int, inV (.int z) (T.map V.int) = decide (z ∈ T)
  | [] => by simp [inV]
  | i :: r => by
    have ih := inV_ints z r
    unfold inV at ih ⊢
    rw [List.map_cons, List.any_cons, ih]
    rw [Bool.eq_iff_iff, Bool.or_eq_true, decide_eq_true_iff, decide_eq_true_iff, List.mem_cons]
    refine or_congr_left ?_
    simp [eqV]
    exact eq_comm
theorem rnotin {a : Addr} {z : Int} {T : List Int} {Q : VK} (h : IntsAt H a T) (q : Q (.bl (!decide (z ∈ T))) H) : rIn K true (.int z) (.ref a) H Q :=
  ⟨a, _, rfl, .inl (SqL.of h), rfl, by rw [List.all_map]; exact List.all_eq_true.mpr fun _ _ => rfl, by rw [inV_ints]; exact q⟩
end
end Spn

namespace Spn
open PySem PySem.Spec PyProof.Rows L2
/-! ### defs that raise -/
/-- a def's own wish about exceptions -/
abbrev wE (E : XK) : WX := fun cls d _ H => E cls d H
def tRaise (W : WX) (C : Addr) : TS := fun _ σ H => W (.ref C) none σ H
/-- what raising an own class asks of it -/
structure ExcF (K : PySem.W.Frag) (x : Str) : Prop where
  q : PySem.W.excIn K (He.ga K x) He.veBase "ValueError.__new__" = true
  k : PySem.W.keepIn K (.ref (He.ga K x)) = true
  s : PySem.W.subIn K (.ref (He.ga K x)) (.type "BaseException") = some true
  t : PySem.W.typeIn K (.ref (He.ga K x)) = some (.type "type")
theorem excF_of {K : PySem.W.Frag} {x : Str} (c : (He.Fa.exc x).ok K = true) : ExcF K x := by
  obtain ⟨a, b, c, d⟩ := He.exc_ok c
  exact ⟨a, b, c, d⟩
theorem ps_raiseN {X : Cx} {W : WX} {x m : Str} {j : Nat} {p p2 p3 pos : Pos} (hc : X.calm = true) (tk : L2N.Takes X W) (F : ExcF X.K x) (g : X.mg x = some (.ref (He.ga X.K x))) (hg : Gl X x := by rfl) (hdb : (x == ("__debug__" : Str)) = false := by decide) :
    PS X (.Raise (some (.Call (.Name x p) [.Constant (.str m) j p2] [] p3)) none pos) (tRaise W (He.ga X.K x)) :=
  L2N.ps_raise hc tk (L2N.pmk_own PySem.F.excBase_ValueError F.q g F.k (raises_own F.s F.t) hg hdb)
theorem takesN0 {X : Cx} : L2N.Takes X (fun _ _ _ _ => False) := by
  rintro u s' ⟨_, _, _, _, _, _, _, _, _, _, _, _, _, _, _, _, z⟩
  exact z.elim
theorem passN0 {X : Cx} : Passes (L2N.CX X.prog X.w) X E0 := by
  rintro pins σ H s e s' I ⟨_, _, _, _, _, _, _, _, _, _, _, _, z⟩
  exact z.elim
def tTryAs (K : PySem.W.Frag) (C : Addr) (i : Nat) (Wout : WX) (tb : WX → TS) (ts : Addr → Value → Option Addr → TS) : TS := fun D σ H => tb (wAs K (.ref C) i ts Wout D) D σ H
theorem ps_tryAsN {X : Cx} {x n : Str} {C : Addr} {i : Nat} {body suite : List Stmt} {b₀ : Stmt} {np pos pos' : Pos} {tb : WX → TS} {ts : Addr → Value → Option Addr → TS} {Wout : WX} (hs : X.stack = X.env :: X.outer) (hf : X.env.frame = some X.env.locals) (hN : X.N.Nodup) (hi : X.N[i]? = some n) (hln : X.env.kindOf n = some .local) (hc : Names X x (.ref C)) (tk : L2N.Takes X Wout)
    (hb : ∀ (W : WX) (pn : List (Addr × Obj)) (xe : Value → Shared → Prop), L2N.Takes (X.tr pn xe) W → PassesOwn (model X.prog X.w) X.A X.env xe → PSs (X.tr pn xe) body (tb W))
    (hsu : ∀ (a : Addr) (oe : Obj) (cls : Value) (d : Option Addr) (pn : List (Addr × Obj)), L2N.Zn cls d oe → (∃ vs, oe.data = .fields vs) → PSs (X.suite a ((a, oe) :: pn)) (b₀ :: suite) (ts a cls d)) : PS X (.Try body [.ExceptHandler (some (.Name x np)) (some n) (b₀ :: suite) pos'] [] [] pos) (tTryAs X.K C i Wout tb ts) := L2N.ps_try_as hs hf hN hi hln hc tk hb hsu
/-! ### calls of them -/
section
variable {X : Cx} {CX : CXT} {k i : Nat} {x y : Str} {ps : List Str} {sp : Sp} {E : L2.St → XK} {p pos : Pos} {e : Expr} {es : List Expr} {t : TA}
theorem pe_callX (F : FnB X.prog X.w X.K X.mg X.base CX k (x, none) ps sp) (hm : X.mg x = some (.ref (He.ga X.K x))) (hr : Room k X.A) (hx : ∀ σ, PassesAt CX X σ (E σ)) (ha : PA X (e :: es) t) (hg : Gl X x := by rfl)
    (hdb : (x == ("__debug__" : Str)) = false := by decide) (he : starEach (e :: es) X.env = (false, eval e X.env) :: starEach es X.env := by rfl) (hpl : (backTo pos (starEach es X.env)).any (·.1) = false := by rfl) :
    PE X (.Call (.Name x p) (e :: es) [] pos) (tCallS sp E t) := by
  obtain ⟨⟨fd, G, b⟩, kp⟩ := F
  exact pe_callS G hr hg hm kp b hx ha hdb he hpl
/-- a local name holds the def -/
def tCallLX (i : Nat) (f : Addr) (sp : Sp) (E : L2.St → XK) (t : TA) : TE := fun σ H Q => σ[i]? = some (some (.ref f)) ∧ tCallS sp E t σ H Q
theorem pe_callLX (F : FnB X.prog X.w X.K X.mg X.base CX k (y, none) ps sp) (hr : Room k X.A) (hN : X.N[i]? = some x) (hv : Vis X.env.scope x) (hx : ∀ σ, PassesAt CX X σ (E σ)) (ha : PA X (e :: es) t)
    (hdb : (x == ("__debug__" : Str)) = false := by decide) (hcd : (x == ("__classdict__" : Str)) = false := by decide)
    (he : starEach (e :: es) X.env = (false, eval e X.env) :: starEach es X.env := by rfl) (hpl : (backTo pos (starEach es X.env)).any (·.1) = false := by rfl) :
    PE X (.Call (.Name x p) (e :: es) [] pos) (tCallLX i (He.ga X.K y) sp E t) := by
  obtain ⟨⟨fd, G, b⟩, kp⟩ := F
  refine ⟨fun pins s σ H Q I ⟨h1, h2⟩ => wpAny_Call_Name_kw (thn ((pe_var (pos := p) hN hv hdb hcd).run pins s σ H (fun v H1 => v = .ref (He.ga X.K y) ∧ H1 = H) I ⟨_, h1, rfl, rfl⟩) ?_)⟩
  rintro u s1 ⟨v, H1, I1, r1, rfl, rfl⟩
  cases r1
  refine PySem.W.callWith_K (h₀ := X.base) I1.ok.mod.kin kp (thn (ha.run pos pins s1 σ _ _ I1 h2) ?_) he hpl
  rintro us s2 ⟨vs, H2, I2, r2, q2⟩
  exact ⟨I2.kIn, run_fnS G hr b (hx σ) I2 r2 q2⟩
def tOr3 (t u v : TE) : TE := fun σ H Q => t σ H Q ∨ u σ H Q ∨ v σ H Q
theorem pe_or3 {X : Cx} {e : Expr} {t u v : TE} (a : PE X e t) (b : PE X e u) (c : PE X e v) : PE X e (tOr3 t u v) := by
  refine ⟨fun pins s σ H Q I h => ?_⟩
  rcases h with h | h | h
  · exact a.run pins s σ H Q I h
  · exact b.run pins s σ H Q I h
  · exact c.run pins s σ H Q I h
end
/-! ### isinstance of an exception that is pinned -/
theorem call_isP {X : Cx} {a D : Addr} {oe : Obj} (hp : (a, oe) ∈ X.pn) (C : ExcC X.K D) (hz : Zc (.ref D) none oe) (hf : ∃ vs, oe.data = .fields vs) : CallR X (.builtin "isinstance") (rIsE X.K D a) := by
  rintro pins s σ H xs us Q I r ⟨c, cv, b, rfl, hcv, e, q⟩
  obtain ⟨u1, u2, rfl, r1, r2⟩ := vals2 r
  cases r1
  cases hcv _ r2
  obtain ⟨ho, -⟩ := I.pin (a, oe) (List.mem_append_left _ hp)
  have J : PySem.W.InstAt s.heap a oe D none := by
    obtain ⟨vs, ed⟩ := hf
    obtain ⟨z1, z2⟩ := hz
    cases oe with
    | mk c1 c2 c3 c4 =>
      cases z1; cases z2; cases ed
      exact ⟨ho, rfl, rfl, trivial⟩
  exact PySem.W.kia_one (PySem.W.handS_kitx_exc C.hg C.hk C.hs C.hd C.ha C.hn C.ht C.hm) I.kIn J e (by intro z; cases z) fun n => ⟨.bl b, H, I.kept (t' := n) (fun _ _ z => z), rfl, q⟩
/-! ### a def called in an except suite, with the exception that is handled -/
/-- p: the exception's place and object -/
structure FnK (P : Program) (w : World) (K : PySem.W.Frag) (mg : Str → Option Value) (base : Heap) (k : Nat) (q : Str × Option Str) (ps : List Str) (sp : Addr × Obj → Sp) : Prop where
  ex : ∃ fd, Binds K fd ps [] ∧ (∀ p vs H Q, sp p vs H Q E0 → vs.length = ps.length) ∧ ∀ (A : Around) (outer : List Env) (s : Shared) (H : Hp) (args : Args) (us : List Value) (vs : List V) (Q : VK) (p : Addr × Obj),
    L2H.RoomH k A → L2H.Hot1 A p → L2H.PinOk outer H s p → Env0 P w K mg base A outer s H → BindsTo s fd args (ps.zip us) → Vals vs us → sp p vs H Q E0 → codeAny (model P w) A (.call (.ref (He.fAd K q)) args) (CR CX0 outer P w H s Q E0) s
  kp : PySem.W.keepIn K (.ref (He.fAd K q)) = true
theorem FnK.mk' {P : Program} {w : World} {K : PySem.W.Frag} {mg : Str → Option Value} {base : Heap} {k : Nat} {q : Str × Option Str} {N ps : List Str} {sp : Addr × Obj → Sp} {x qual : Str} {st : Stmt}
    (F : ∃ fd, FunD K x qual (defArgs st) (defBody st) (defScope st) [] [] (He.fAd K q) fd) (S : FnScope N ps (defScope st))
    (bd : ∀ (kV doc pm : Value) (an : Option Addr) (cdv ct : Value) (us : List Value), us.length = ps.length → bindArgs (PySem.W.fnOf x qual (defArgs st) (defBody st) (defScope st) .none kV doc pm an cdv ct) ⟨us, []⟩ = pure (ps.zip us))
    (len : ∀ p vs H Q, sp p vs H Q E0 → vs.length = ps.length)
    (hbody : ∀ (cdv : Value) (A : Around) (outer : List Env) (s : Shared) (H : Hp) (vs : List V) (Q : VK) (p : Addr × Obj), L2H.Hot1 A p → sp p vs H Q E0 →
      ∃ t, PSs (L2H.cxH CX0 P w K mg base N qual (defScope st) (He.fAd K q) cdv A outer s H E0 p) (defBody st) t ∧ t { nx := fun _ H' => Q .non H', rt := Q } (start N vs) H) : FnK P w K mg base (k + 1) q ps sp := by
  obtain ⟨fd, F⟩ := F
  refine ⟨⟨fd, FunD.bindsN F bd, len, ?_⟩, F.kp⟩
  intro A outer s H args us vs Q p room hot pin e0 hb r hsp
  obtain ⟨oc, od, dV, kV, doc, pm, an, cdv, ct, osl, ef, lk, hcd, -, -⟩ := F.ex
  subst ef
  have kin : K.In s.heap := e0.mod.kin.keeps (fun b o e => (e0.bs b o e).1)
  have nol : s.heap.NoLimit := e0.mod.nolimit.keeps (fun b o e => (e0.bs b o e).1)
  have kinds : ∀ z ∈ ps.zip us, (defScope st).names.lookup z.1 = some .local ∨ ((defScope st).names.lookup z.1 = some .cell ∧ ((cellsFrom (s.heap.objs.size + 1) (defScope st).names []).lookup z.1).isSome = true) := by
    rintro ⟨n, v⟩ hz
    refine (S.par n (List.of_mem_zip hz).1).imp id fun c => ⟨c, PySem.W.cellsFrom_some _ _ _ (.inl c)⟩
  refine codeAny_call_function room.depth (kin _ _ lk) rfl S.co S.gen rfl (PySem.W.codeRec_of kin hcd) (hb _ _ _ _ ?_)
  refine wpAny_newFunctionEnv_cells S.kind kinds ?_
  rintro env rfl s1 x
  obtain ⟨t, ht, hq⟩ := hbody cdv A outer s H vs Q p hot hsp
  have J := L2H.inv_startH (CX := CX0) (P := P) (K := K) (mg := mg) (base := base) (cd := cdv) (E := E0) S pin e0 (len p vs H Q hsp) r x
  have give : ∀ {σ' : L2.St} {H' : Hp} {s' : Shared} {v : V} {u : Value}, Inv (L2H.cxH CX0 P w K mg base N qual (defScope st) (He.fAd K q) cdv A outer s H E0 p) [] σ' H' s' → RelV v u → Q v H' → CE outer P w H s Q u s' := fun j rv qv => ⟨_, _, j.os, j.bare, j.base, j.hok, rv, qv⟩
  refine ⟨nol.keeps x.toInCall.keep, codeAny_func (wpAny_mono (ht.run [] s1 _ H _ J hq) ?_ (fun _ _ z => z))⟩
  rintro (_ | _ | _ | u) s' hs
  case ret => obtain ⟨v, σ', H', j, rv, qv⟩ := hs; exact give j rv qv
  case next => obtain ⟨σ', H', j, qv⟩ := hs; exact give (v := .non) (u := .none) j rfl qv
  all_goals (obtain ⟨_, _, _, z⟩ := hs; exact z.elim)
/-- .. whatever its object is -/
def tCallKz (sp : Addr × Obj → Sp) (a : Addr) (cls : Value) (d : Option Addr) (t : TA) : TE := fun σ H Q => t σ H fun vs H1 => ∀ oe : Obj, Zc cls d oe → (∃ vs, oe.data = .fields vs) → sp (a, oe) vs H1 Q E0
theorem pe_callKz {X : Cx} {k : Nat} {x : Str} {ps : List Str} {sp : Addr × Obj → Sp} {p pos : Pos} {e : Expr} {es : List Expr} {t : TA} {a : Addr} {oe : Obj} {cls : Value} {d : Option Addr} {pn : List (Addr × Obj)} (F : FnK X.prog X.w X.K X.mg X.base k (x, none) ps sp) (hm : X.mg x = some (.ref (He.ga X.K x))) (hr : Room k X.A)
    (hz : L2N.Zn cls d oe) (hf : ∃ vs, oe.data = .fields vs) (ha : PA (X.suite a ((a, oe) :: pn)) (e :: es) t) (hg : Gl X x := by rfl)
    (hdb : (x == ("__debug__" : Str)) = false := by decide) (he : starEach (e :: es) X.env = (false, eval e X.env) :: starEach es X.env := by rfl) (hpl : (backTo pos (starEach es X.env)).any (·.1) = false := by rfl) :
    PE (X.suite a ((a, oe) :: pn)) (.Call (.Name x p) (e :: es) [] pos) (tCallKz sp a cls d t) := by
  obtain ⟨⟨fd, b, len, run⟩, kp⟩ := F
  refine ⟨fun pins s σ H Q I h => wpAny_Call_Name_kw (ld_glob I hg hm ?_ hdb)⟩
  refine PySem.W.callWith_K (h₀ := X.base) I.ok.mod.kin kp (thn (ha.run pos pins s σ H _ I h) ?_) he hpl
  rintro us s1 ⟨vs, H1, I1, r1, qq⟩
  have q1 := qq oe hz.zc hf
  refine ⟨I1.kIn, ?_⟩
  obtain ⟨g1, g2, g3, g4, g5⟩ := I1.pin (a, oe) (List.mem_append_left _ List.mem_cons_self)
  have bb := b s1 us I1.kIn (by rw [List.append_nil, ← r1.length]; exact len _ _ _ _ q1)
  rw [List.append_nil] at bb
  have pin : L2H.PinOk (X.suite a ((a, oe) :: pn)).stack H1 s1 (a, oe) := ⟨g1, g2, fun hm => (List.mem_cons.mp (I1.stkSub a hm)).elim g3 g4, g5⟩
  refine wpAny_call (codeAny_mono (run _ _ s1 H1 ⟨us, []⟩ us vs Q (a, oe) (show L2H.RoomH k (X.A.mark (some (.ref a))) from ⟨hr.dp, hr.un⟩) ⟨rfl, ?_⟩ pin I1.env0 bb r1 q1) ?_)
  · obtain ⟨vs2, ed⟩ := hf
    exact ⟨vs2, ed, hz.2.2 vs2 ed⟩
  · rintro (e' | _ | _ | _ | u) s' hq
    case ok.ret => exact I1.after hq
    all_goals exact hq.elim
end Spn

namespace Spn
open PySem PySem.Spec PyProof.Rows L2
/-! ### texts -/
def repS (x : Str) (n : Nat) : Str := ⟨(List.replicate n x.cps).foldl (· ++ ·) #[]⟩
/-- 'xy' * n -/
abbrev qRepS : R2 := fun x y H Q => ∃ (z : Str) (n : Nat), x = .str z ∧ y = .int (n : Int) ∧ 0 < z.length ∧ z.length ≤ 100 ∧ 2 ≤ n ∧ n ≤ 10000 ∧ (repS z n).length ≤ 1000000 ∧ Q (.str (repS z n)) H
theorem op_rep_str {X : Cx} : OpR X (binaryOp .Mult) qRepS := by
  rintro pins s σ H x y v u Q I rx ry ⟨z, n, rfl, rfl, z0, z1, n2, n3, zl, q⟩
  obtain ⟨t, rfl⟩ := rx
  obtain ⟨t', rfl⟩ := ry
  have h1 : ¬ (n : Int) < 1 := by omega
  have h2 : ((n : Int) == 1 || z.length == 0) = false := by
    rw [Bool.or_eq_false_iff]
    exact ⟨by simp; omega, by simp; omega⟩
  have hz : z.length * n ≤ 1000000 := Nat.mul_le_mul z1 n3
  refine PySem.P.mul_str ?_ (fun _ _ => ?_) (fun _ _ => ?_) ?_
  · rw [decide_eq_false (by omega), decide_eq_false (by omega)]
    rfl
  · intro h
    have h3 : ((2 ^ 63 - 1) / (n : Int)) < 101 := by omega
    have : (2 ^ 63 - 1 : Int) < 101 * n := Int.lt_mul_of_ediv_lt (by omega) h3
    omega
  · unfold PySem.Builtin.Str.tooLong
    rw [Int.toNat_natCast]
    first
      | exact decide_eq_false (by rw [sizeLine_eq]; omega)
      | (simp only [sizeLine_eq]; simp; omega)
  · rw [if_neg h1, if_neg (by rw [h2]; decide), Int.toNat_natCast]
    refine ⟨?_, ⟨.str (repS z n), H, I.tok _, ⟨_, rfl⟩, q⟩⟩
    have := zl
    unfold repS at this
    first
      | (rw [sizeLine_eq]; omega)
      | (show _ ≤ _; omega)
abbrev qAddS : R2 := fun x y H Q => ∃ i j, x = .str i ∧ y = .str j ∧ i.length + j.length ≤ sizeLine ∧ Q (.str (i ++ j)) H
/-- max of three -/
def max3 (i j k : Int) : Int := if (if i < j then j else i) < k then k else (if i < j then j else i)
abbrev qMax3 : List V → Hp → VK → Prop := fun xs H Q => ∃ i j k, xs = [.int i, .int j, .int k] ∧ Q (.int (max3 i j k)) H
theorem max3_lt {i j k m : Int} : max3 i j k < m ↔ i < m ∧ j < m ∧ k < m := by
  unfold max3
  split <;> split <;> omega
theorem nuMax3_int (i j k : Int) : nuMax3 (.int i) (.int j) (.int k) = some (.int (max3 i j k)) := by
  unfold nuMax3 nuMax2 nuLt max3
  by_cases h : i < j
  · have e : (Option.map (fun c => if c = true then V.int j else V.int i) (nuCB (fun i j => decide (i < j)) (fun o => o == some Ordering.gt) (fun o => o == some Ordering.lt) (.int i) (.int j))) = some (.int j) := by
      show some (if decide (i < j) = true then V.int j else V.int i) = _
      rw [decide_eq_true h]; rfl
    rw [e, if_pos h]
    show some (if decide (j < k) = true then V.int k else V.int j) = _
    by_cases h2 : j < k
    · rw [decide_eq_true h2, if_pos h2]; rfl
    · rw [decide_eq_false h2, if_neg h2]; rfl
  · have e : (Option.map (fun c => if c = true then V.int j else V.int i) (nuCB (fun i j => decide (i < j)) (fun o => o == some Ordering.gt) (fun o => o == some Ordering.lt) (.int i) (.int j))) = some (.int i) := by
      show some (if decide (i < j) = true then V.int j else V.int i) = _
      rw [decide_eq_false h]; rfl
    rw [e, if_neg h]
    show some (if decide (i < k) = true then V.int k else V.int i) = _
    by_cases h2 : i < k
    · rw [decide_eq_true h2, if_pos h2]; rfl
    · rw [decide_eq_false h2, if_neg h2]; rfl
theorem call_max3I {X : Cx} (hc : X.calm = true) : CallR X (.builtin "max") qMax3 := by
  rintro pins s σ H xs us Q I r ⟨i, j, k, rfl, q⟩
  exact call_max3Nu hc pins s σ H _ us Q I r ⟨_, _, _, _, rfl, nuMax3_int i j k, q⟩
theorem pe_gint {X : Cx} {x : Str} {i : Int} {pos : Pos} (hg : Gl X x) (h : ∃ t, X.mg x = some (.int i t)) (hd : (x == ("__debug__" : Str)) = false := by decide) : PE X (.Name x pos) (tC (.int i)) := by
  obtain ⟨t, e⟩ := h
  exact pe_glob hg e ⟨t, rfl⟩ hd
theorem pe_gstr {X : Cx} {x i : Str} {pos : Pos} (hg : Gl X x) (h : ∃ t, X.mg x = some (.str i t)) (hd : (x == ("__debug__" : Str)) = false := by decide) : PE X (.Name x pos) (tC (.str i)) := by
  obtain ⟨t, e⟩ := h
  exact pe_glob hg e ⟨t, rfl⟩ hd
abbrev v_MOST : Int := 10 ^ 60
abbrev v_FIGURES : Str := "0123456789"
abbrev qStrI : List V → Hp → VK → Prop := fun xs H Q => ∃ i, xs = [.int i] ∧ i.natAbs.log2 < 1920 ∧ Q (.str (toString i)) H
abbrev qJoin (K : PySem.W.Frag) : V → List V → Hp → VK → Prop := fun x xs H Q => ∃ a p, ∃ ys : List Str, x = .str a ∧ xs = [.ref p] ∧ (SqL K H p (ys.map V.str) ∨ SqT K H p (ys.map V.str)) ∧ (ys.map (·.length)).sum + ys.length * a.length ≤ 16777216 ∧ Q (.str (Txt.join a ys)) H
/-- a request, written -/
def wrR (r : Rq) : Str := (toString r.1 : Str) ++ ".." ++ (toString r.2.1 : Str) ++ ":" ++ (toString r.2.2 : Str)
def writeT (rs : List Rq) : Str := if rs.length = 0 then "-" else Txt.join " " (rs.map wrR)
/-- small enough to be written -/
def small (r : Rq) : Bool := decide (max3 (if r.1 < 0 then -r.1 else r.1) (if r.2.1 < 0 then -r.2.1 else r.2.1) r.2.2 < v_MOST)
end Spn

namespace Spn
open PySem PySem.Spec PyProof.Rows L2 TL
/-! ### numbers, written -/
/-- a number's signs -/
def strI (i : Int) : List Nat := if i < 0 then 45 :: numL i.natAbs else numL i.natAbs
theorem tl_strI (i : Int) : tl (Str.ofString (toString i)) = strI i := by
  unfold strI
  by_cases h : i < 0
  · rw [if_pos h]
    obtain ⟨n, rfl⟩ : ∃ n : Nat, i = Int.negSucc n := ⟨i.natAbs - 1, by omega⟩
    have e : toString (Int.negSucc n) = "-" ++ toString ((n + 1 : Nat) : Int) := rfl
    rw [tl_ofString, e, String.toList_append, List.map_append, ← tl_ofString, ← tl_ofString, tl_num]
    rfl
  · rw [if_neg h]
    obtain ⟨n, rfl⟩ := Int.eq_ofNat_of_zero_le (by omega : 0 ≤ i)
    rw [Int.natAbs_natCast]
    exact tl_num n
theorem len_strI {i : Int} {k : Nat} (hk : 0 < k) (h : i.natAbs < 10 ^ k) : (Str.ofString (toString i)).length ≤ k + 1 := by
  rw [len_tl, tl_strI]
  have := numL_len hk h
  unfold strI
  split
  · rw [List.length_cons]; omega
  · omega
theorem log_lt {i : Int} (h : i.natAbs < 10 ^ 60) : i.natAbs.log2 < 1920 := by
  by_cases z : i.natAbs = 0
  · rw [z]; decide
  · rw [Nat.log2_lt z]
    exact Nat.lt_trans h (by decide +kernel)
theorem small_iff {r : Rq} (h : 0 ≤ r.2.2) : small r = true ↔ r.1.natAbs < 10 ^ 60 ∧ r.2.1.natAbs < 10 ^ 60 ∧ r.2.2.natAbs < 10 ^ 60 := by
  unfold small
  rw [decide_eq_true_eq, max3_lt]
  have e : v_MOST = ((10 ^ 60 : Nat) : Int) := by decide +kernel
  rw [e]
  generalize (10 ^ 60 : Nat) = m
  constructor
  · rintro ⟨h1, h2, h3⟩
    refine ⟨?_, ?_, by omega⟩
    · split at h1 <;> omega
    · split at h2 <;> omega
  · rintro ⟨h1, h2, h3⟩
    refine ⟨?_, ?_, by omega⟩
    · split <;> omega
    · split <;> omega
theorem str_len_app (a b : Str) : (a ++ b).length = a.length + b.length := by
  rw [len_tl, len_tl, len_tl, tl_append, List.length_append]
theorem wrR_len {r : Rq} (h1 : r.1.natAbs < 10 ^ 60) (h2 : r.2.1.natAbs < 10 ^ 60) (h3 : r.2.2.natAbs < 10 ^ 60) : (wrR r).length ≤ 190 := by
  have a := len_strI (k := 60) (by decide) h1
  have b := len_strI (k := 60) (by decide) h2
  have c := len_strI (k := 60) (by decide) h3
  have d : ((".." : Str)).length = 2 := by decide +kernel
  have e : ((":" : Str)).length = 1 := by decide +kernel
  unfold wrR
  rw [str_len_app, str_len_app, str_len_app, str_len_app, d, e]
  omega
end Spn

namespace Spn
open PySem PySem.Spec PyProof.Rows L2
/-! ### what is refused -/
def Flat (v : V) : Prop := v = .non ∨ (∃ i, v = .int i) ∨ (∃ b, v = .bl b) ∨ ∃ s, v = .str s
/-- whether it is a request -/
inductive ReqV (H : Hp) : V → Bool → Prop where
  | flat {v : V} (h : Flat v) : ReqV H v false
  | lst {a : Addr} {xs : List V} (e : H a = some (.lst xs)) : ReqV H (.ref a) false
  | len {a : Addr} {xs : List V} (e : H a = some (.tup xs)) (n : xs.length ≠ 3) : ReqV H (.ref a) false
  | odd {a : Addr} {x y z : V} {b1 b2 b3 : Bool} (e : H a = some (.tup [x, y, z])) (h1 : IsWh H x b1) (h2 : IsWh H y b2) (h3 : IsWh H z b3) (n : (b1 && (b2 && b3)) = false) : ReqV H (.ref a) false
  | req {a : Addr} (r : Rq) (e : H a = some (.tup (r3 r))) : ReqV H (.ref a) (decide (r.1 ≤ r.2.1) && decide (0 ≤ r.2.2))
/-- whether they are requests -/
inductive ChkV (H : Hp) : V → Bool → Prop where
  | flat {v : V} (h : Flat v) : ChkV H v false
  | tup {a : Addr} {xs : List V} (e : H a = some (.tup xs)) : ChkV H (.ref a) false
  | dict {a : Addr} {kvs : List (Key × V)} (e : H a = some (.dK kvs)) : ChkV H (.ref a) false
  | lst {a : Addr} {xs : List V} {bs : List Bool} (e : H a = some (.lst xs)) (p : Paired (ReqV H) xs bs) (z : xs.length ≤ 1000) : ChkV H (.ref a) (bs.all id)
/-- whether it is a count of rooms from l on -/
inductive RoomV (H : Hp) (l : Int) : V → Bool → Prop where
  | odd {v : V} (h : IsWh H v false) : RoomV H l v false
  | int (i : Int) : RoomV H l (.int i) (decide (l ≤ i))
/-- no days -/
inductive DayV (H : Hp) : V → V → Prop where
  | first {f l : V} (h : IsWh H f false) : DayV H f l
  | last {l : V} (i : Int) (h : IsWh H l false) : DayV H (.int i) l
  | both (i j : Int) (h : j < i) : DayV H (.int i) (.int j)
/-- a refusal of the class C -/
def Rf (K : PySem.W.Frag) (H : Hp) (E : XK) (C : Str) : Prop := ∀ H', Same H H' → NoT H' → E (.ref (He.ga K C)) none H'
theorem Rf.same {K : PySem.W.Frag} {H H' : Hp} {E : XK} {C : Str} (r : Rf K H E C) (s : Same H H') : Rf K H' E C := fun H2 s2 n => r H2 (s.trans s2) n
theorem Rf.at_ {K : PySem.W.Frag} {H : Hp} {E : XK} {C : Str} (r : Rf K H E C) (n : NoT H) : E (.ref (He.ga K C)) none H := r H (Same.refl H) n
def sp_is_requestX (K : PySem.W.Frag) (w : World) : Sp := fun vs H Q _ => ∃ v b, vs = [v] ∧ ReqV H v b ∧ NoT H ∧ Q (.bl b) H
def sp_check_requestsX (K : PySem.W.Frag) (w : World) : Sp := fun vs H Q E => ∃ v b, vs = [v] ∧ ChkV H v b ∧ NoT H ∧ (b = true → Q .non H) ∧ (b = false → Rf K H E "BadRequests")
def sp_check_roomsX (K : PySem.W.Frag) (w : World) : Sp := fun vs H Q E => ∃ v l b, vs = [v, .int l] ∧ RoomV H l v b ∧ NoT H ∧ (b = true → Q .non H) ∧ (b = false → Rf K H E "BadRooms")
/-- a door that refuses requests or rooms -/
def Door (K : PySem.W.Frag) (H : Hp) (E : XK) (v r : V) (l : Int) : Prop := (ChkV H v false ∧ Rf K H E "BadRequests") ∨ (ChkV H v true ∧ RoomV H l r false ∧ Rf K H E "BadRooms")
def sp_bestX (K : PySem.W.Frag) (w : World) : Sp := fun vs H Q E => ∃ v r, vs = [v, r] ∧ NoT H ∧ Door K H E v r 0
def sp_worthsX := sp_bestX
def sp_lodgedX := sp_bestX
def sp_dueX (K : PySem.W.Frag) (w : World) : Sp := fun vs H Q E => ∃ v r f l, vs = [v, r, f, l] ∧ NoT H ∧ (Door K H E v r 1 ∨ (ChkV H v true ∧ RoomV H 1 r true ∧ DayV H f l ∧ Rf K H E "BadDays"))
def sp_writtenX (K : PySem.W.Frag) (w : World) : Sp := fun vs H Q E => ∃ v, vs = [v] ∧ NoT H ∧ ((ChkV H v false ∧ Rf K H E "BadRequests") ∨
  ∃ a rs, v = .ref a ∧ ReqsAt H a rs ∧ OkR rs ∧ rs.length ≤ 1000 ∧ ((rs.all small = false ∧ Rf K H E "BadRequests") ∨ (rs.all small = true ∧ Q (.str (writeT rs)) H)))
/-! ### the law's own doors -/
def Great (H : Hp) (v : V) : Prop := ∃ a rs, v = .ref a ∧ ReqsAt H a rs ∧ OkR rs ∧ rs.length ≤ 1000 ∧ rs.all small = false
def sp__law_with_requests (K : PySem.W.Frag) (w : World) : Sp := fun vs H Q E => ∃ i v, vs = [.int i, v] ∧ 0 ≤ i ∧ i < 5 ∧ NoT H ∧ (ChkV H v false ∨ (i = 4 ∧ Great H v)) ∧ Rf K H E "BadRequests"
def sp__law_with_rooms (K : PySem.W.Frag) (w : World) : Sp := fun vs H Q E => ∃ i v, vs = [.int i, v] ∧ 0 ≤ i ∧ i < 4 ∧ NoT H ∧ RoomV H (if i = 3 then 1 else 0) v false ∧ Rf K H E "BadRooms"
def sp__law_with_days (K : PySem.W.Frag) (w : World) : Sp := fun vs H Q E => ∃ f l, vs = [f, l] ∧ NoT H ∧ DayV H f l ∧ Rf K H E "BadDays"
/-- which classes an exception is of: the five that are asked for -/
structure Kinds (K : PySem.W.Frag) (D : Addr) (b1 b2 b3 b4 b5 : Bool) : Prop where
  c : ExcC K D
  k1 : PySem.W.kitOne K (.ref D) (.ref (He.ga K "BadRequests")) = some b1
  k2 : PySem.W.kitOne K (.ref D) (.ref (He.ga K "BadRooms")) = some b2
  k3 : PySem.W.kitOne K (.ref D) (.ref (He.ga K "BadDays")) = some b3
  k4 : PySem.W.kitOne K (.ref D) (.ref (He.ga K "BadText")) = some b4
  k5 : PySem.W.kitOne K (.ref D) (.type "ValueError") = some b5
def sp__law_kinds (K : PySem.W.Frag) (w : World) : Addr × Obj → Sp := fun p vs H Q _ => ∃ D b1 b2 b3 b4 b5, vs = [.ref p.1] ∧ Kinds K D b1 b2 b3 b4 b5 ∧ Zc (.ref D) none p.2 ∧ (∃ vs, p.2.data = .fields vs) ∧ NoT H ∧ ∀ H' l, Same H H' → NoT H' → H l = none → H' l = some (.lst [.bl b1, .bl b2, .bl b3, .bl b4, .bl b5]) → Q (.ref l) H'
/-- an ask that is refused, by which class -/
inductive AskOk (K : PySem.W.Frag) (H : Hp) : Addr → V → V → Nat → Prop where
  | reqs {i : Int} {v : V} (h0 : 0 ≤ i) (h1 : i < 5) (h : ChkV H v false ∨ (i = 4 ∧ Great H v)) : AskOk K H (He.ga K "_law_with_requests") (.int i) v 0
  | rooms {i : Int} {v : V} (h0 : 0 ≤ i) (h1 : i < 4) (h : RoomV H (if i = 3 then 1 else 0) v false) : AskOk K H (He.ga K "_law_with_rooms") (.int i) v 1
  | days {f l : V} (h : DayV H f l) : AskOk K H (He.ga K "_law_with_days") f l 2
/-- what is told of the class -/
def tellB (c : Nat) : List Bool := [decide (c = 0), decide (c = 1), decide (c = 2), false, true]
def sp__law_told (K : PySem.W.Frag) (w : World) : Sp := fun vs H Q _ => ∃ f x y c, vs = [.ref f, x, y] ∧ AskOk K H f x y c ∧ NoT H ∧ ∀ l, H l = none → Q (.ref l) (upd H l (.lst ((tellB c).map V.bl)))
def sp__law_all (K : PySem.W.Frag) (w : World) : Sp := fun vs H Q _ => ∃ f da ta wa ds ts c, vs = [.ref f, .ref da, .ref ta, .ref wa] ∧ H da = some (.lst ds) ∧ H ta = some (.lst ts) ∧ H wa = some (.lst ((tellB c).map V.bl)) ∧ (∀ d ∈ ds, ∀ t ∈ ts, AskOk K H f d t c) ∧ ts.length ≤ 1000 ∧ NoT H ∧ Q (.bl true) H
end Spn

namespace Spn
open PySem PySem.Spec PyProof.Rows L2
/-! ### readings -/
/-- is_request -/
def t_is_requestX (K : PySem.W.Frag) (w : World) : TS :=
  (tSeq (tIfS (tOr (tNot (tB (tCB (rIsi K) (tCons (tVar 0) (tCons (tC (.ty "tuple")) tNil))))) (tOr (tTest (tOp rNe (tCB (qLen K) (tCons (tVar 0) tNil)) (tC (.int 3)))) (tNot (tB (tCB (rAll K) (tCons (tLc (iTup K (tVar 0)) (gName 1) tYes (tCall (sp_is_whole K w) [] E0 (tCons (tVar 1) tNil)) [1]) tNil)))))) (tRet (tC (.bl false))) tNext)
  (tRet (tAndV (tOp qLe (tOp (rIxT K) (tVar 0) (tC (.int 0))) (tOp (rIxT K) (tVar 0) (tC (.int 1)))) (tOp qGe (tOp (rIxT K) (tVar 0) (tC (.int 2))) (tC (.int 0))))))

/-- check_requests -/
def t_check_requestsX (K : PySem.W.Frag) (w : World) (E : XK) : TS :=
  (tIfS (tOr (tNot (tB (tCB (rIsi K) (tCons (tVar 0) (tCons (tC (.ty "list")) tNil))))) (tNot (tB (tCB (rAll K) (tCons (tLc (iList K (tVar 0)) (gName 1) tYes (tCall (sp_is_requestX K w) [] E0 (tCons (tVar 1) tNil)) [1]) tNil))))) (tRaise (wE E) (He.ga K "BadRequests")) tNext)

/-- written -/
def t_writtenX (K : PySem.W.Frag) (w : World) (E : XK) : TS :=
  (tSeq (tDrop (tCallS (sp_check_requestsX K w) (WE (wE E)) (tCons (tVar 0) tNil)))
  (tSeq (tIfS (tNot (tB (tCB (rAll K) (tCons (tLc (iList K (tVar 0)) (gTup K 3 (gCons (gName 1) (gCons (gName 2) (gCons (gName 3) gNil)))) tYes (tOp qLt (tCB qMax3 (tCons (tCB qAbs (tCons (tVar 1) tNil)) (tCons (tCB qAbs (tCons (tVar 2) tNil)) (tCons (tVar 3) tNil)))) (tC (.int v_MOST))) [1, 2, 3]) tNil)))) (tRaise (wE E) (He.ga K "BadRequests")) tNext)
  (tSeq (tIfS (tTest (tOp rEq (tCB (qLen K) (tCons (tVar 0) tNil)) (tC (.int 0)))) (tRet (tC (.str "-"))) tNext)
  (tRet (tM1 (qJoin K) (tC (.str " ")) (tLc (iList K (tVar 0)) (gTup K 3 (gCons (gName 1) (gCons (gName 2) (gCons (gName 3) gNil)))) tYes (tOp qAddS (tOp qAddS (tOp qAddS (tOp qAddS (tCB qStrI (tCons (tVar 1) tNil)) (tC (.str ".."))) (tCB qStrI (tCons (tVar 2) tNil))) (tC (.str ":"))) (tCB qStrI (tCons (tVar 3) tNil))) [1, 2, 3]))))))

end Spn

namespace Spn
open PySem PySem.Spec PyProof.Rows L2
section
variable {K : PySem.W.Frag} {w : World} {vs : List V} {H : Hp} {Q Q0 : VK} {E : XK}
theorem IsWh.same {H H' : Hp} {v : V} {b : Bool} (h : IsWh H v b) (s : Same H H') : IsWh H' v b := by
  rcases h with h | ⟨h, e⟩
  · exact .inl h
  · refine .inr ⟨?_, e⟩
    rcases h with h | h | h | ⟨a, xs, ev, ea⟩ | ⟨a, xs, ev, ea⟩
    · exact .inl h
    · exact .inr (.inl h)
    · exact .inr (.inr (.inl h))
    · exact .inr (.inr (.inr (.inl ⟨a, xs, ev, s _ _ ea⟩)))
    · exact .inr (.inr (.inr (.inr ⟨a, xs, ev, s _ _ ea⟩)))
theorem ReqV.same {H H' : Hp} {v : V} {b : Bool} (h : ReqV H v b) (s : Same H H') : ReqV H' v b := by
  cases h with
  | flat h => exact .flat h
  | lst e => exact .lst (s _ _ e)
  | len e n => exact .len (s _ _ e) n
  | odd e h1 h2 h3 n => exact .odd (s _ _ e) (h1.same s) (h2.same s) (h3.same s) n
  | req r e => exact .req r (s _ _ e)
theorem ChkV.same {H H' : Hp} {v : V} {b : Bool} (h : ChkV H v b) (s : Same H H') : ChkV H' v b := by
  cases h with
  | flat h => exact .flat h
  | tup e => exact .tup (s _ _ e)
  | dict e => exact .dict (s _ _ e)
  | lst e p z => exact .lst (s _ _ e) (p.mono fun _ _ q => q.same s) z
theorem RoomV.same {H H' : Hp} {l : Int} {v : V} {b : Bool} (h : RoomV H l v b) (s : Same H H') : RoomV H' l v b := by
  cases h with
  | odd h => exact .odd (h.same s)
  | int i => exact .int i
theorem DayV.same {H H' : Hp} {f l : V} (h : DayV H f l) (s : Same H H') : DayV H' f l := by
  cases h with
  | first h => exact .first (h.same s)
  | last i h => exact .last i (h.same s)
  | both i j h => exact .both i j h
theorem Great.same {H H' : Hp} {v : V} (h : Great H v) (s : Same H H') : Great H' v := by
  obtain ⟨a, rs, e, hr, ok, z, g⟩ := h
  exact ⟨a, rs, e, hr.same s, ok, z, g⟩
theorem AskOk.same {H H' : Hp} {f : Addr} {x y : V} {c : Nat} (h : AskOk K H f x y c) (s : Same H H') : AskOk K H' f x y c := by
  cases h with
  | reqs h0 h1 h => exact .reqs h0 h1 (h.imp (fun h => h.same s) fun h => ⟨h.1, h.2.same s⟩)
  | rooms h0 h1 h => exact .rooms h0 h1 (h.same s)
  | days h => exact .days (h.same s)
/-- what a flat value is of -/
theorem flat_ty {v : V} (h : Flat v) {T : String} (hT : T = "tuple" ∨ T = "list") : ∃ S, TyX K H v (.type S) ∧ kitB S T = some false := by
  rcases h with rfl | ⟨i, rfl⟩ | ⟨b, rfl⟩ | ⟨x, rfl⟩
  · exact ⟨"NoneType", .base .non, by rcases hT with rfl | rfl <;> decide +kernel⟩
  · exact ⟨"int", .base (.int i), by rcases hT with rfl | rfl <;> decide +kernel⟩
  · exact ⟨"bool", .base (.bl b), by rcases hT with rfl | rfl <;> decide +kernel⟩
  · exact ⟨"str", .base (.str x), by rcases hT with rfl | rfl <;> decide +kernel⟩
theorem pure_is_requestX (h : sp_is_requestX K w vs H Q E) (fin : Fin H Q Q0) : t_is_requestX K w (endS Q0) (start ["thing", "one"] vs) H := by
  obtain ⟨v, b, rfl, hv, n, q⟩ := h
  have no : ∀ (S : String), TyX K H v (.type S) → kitB S "tuple" = some false → b = false → t_is_requestX K w (endS Q0) (start ["thing", "one"] [v]) H := fun S ty kk eb => by
    subst eb
    refine seq_i fun nx k => if_i fun th el h1 h2 => ?_
    try walk_at "rd"
    refine isi_of ty kk ⟨_, rfl, iteT (h1 _ ?_)⟩
    try walk_at "rd"
    exact fin.same n (Same.refl H) q
  cases hv with
  | flat h =>
    obtain ⟨S, ty, kk⟩ := flat_ty (K := K) (H := H) h (T := "tuple") (.inl rfl)
    exact no S ty kk rfl
  | lst e => exact no "list" (.base (.lst e)) (by decide +kernel) rfl
  | @len a xs e ne =>
    refine seq_i fun nx k => if_i fun th el h1 h2 => ?_
    try walk_at "rd"
    refine isi_of (.base (.tup e)) (by decide +kernel : kitB "tuple" "tuple" = some true) ⟨_, rfl, iteF ?_⟩
    refine rlen_tup e (n := xs.length) rfl (rne_int ⟨_, rfl, ?_⟩)
    rw [decide_eq_false (by omega)]
    refine iteT (h1 _ ?_)
    try walk_at "rd"
    exact fin.same n (Same.refl H) q
  | @odd a x y z b1 b2 b3 e w1 w2 w3 ne =>
    refine seq_i fun nx k => if_i fun th el h1 h2 => ?_
    try walk_at "rd"
    refine isi_of (.base (.tup e)) (by decide +kernel : kitB "tuple" "tuple" = some true) ⟨_, rfl, iteF ?_⟩
    refine rlen_tup e (n := 3) rfl (rne_int ⟨_, rfl, ?_⟩)
    rw [if_neg (by decide)]
    refine tLc_tup (R := IsWh H) [b1, b2, b3] (fun b => some (.bl b)) (fun R h => ⟨_, rfl, h⟩) e (.cons w1 (.cons w2 (.cons w3 .nil))) (le1000 (by show 3 ≤ 1000; decide)) ?_ ?_
    · rintro D u i acc Nx hD wu _ add _
      try walk_at "rd"
      exact ⟨_, i, rfl, wu.same (Same.upd hD), n.upd, add _ rfl⟩
    · intro D hD
      refine all_new (bs := [b1, b2, b3]) rfl ⟨_, rfl, ?_⟩
      have e3 : [b1, b2, b3].all id = false := by
        rw [← ne]; simp
      rw [e3]
      refine iteT (h1 _ ?_)
      try walk_at "rd"
      exact fin.same n (Same.upd hD) q
  | @req t r ht =>
    refine seq_i fun nx k => if_i fun th el h1 h2 => ?_
    try walk_at "rd"
    refine isi_of (.base (.tup ht)) (by decide +kernel : kitB "tuple" "tuple" = some true) ⟨_, rfl, iteF ?_⟩
    refine rlen_tup ht (n := 3) rfl (rne_int ⟨_, rfl, ?_⟩)
    rw [if_neg (by decide)]
    refine tLc_tup (R := fun v i => v = V.int i) [r.1, r.2.1, r.2.2] (fun _ => some (.bl true)) (fun R h => ⟨_, rfl, h⟩) ht (.cons rfl (.cons rfl (.cons rfl .nil))) (le1000 (by show 3 ≤ 1000; decide)) ?_ ?_
    · rintro D _ i acc Nx hD rfl _ add _
      try walk_at "rd"
      exact ⟨_, _, rfl, IsWh.int, n.upd, add _ rfl⟩
    · intro D hD
      refine all_new (bs := [true, true, true]) rfl ⟨_, rfl, ?_⟩
      refine iteF (h2 _ (k _ _ ?_))
      have s := Same.upd (o := .lst ([r.1, r.2.1, r.2.2].filterMap fun _ => some (V.bl true))) hD
      try walk_at "rd"
      refine rix_tup (s _ _ ht) (by decide) rfl ?_
      try walk_at "rd"
      refine rix_tup (s _ _ ht) (by decide) rfl ?_
      try walk_at "rd"
      by_cases c : r.1 ≤ r.2.1
      · rw [decide_eq_true c] at q
        rw [if_pos c]
        refine rix_tup (s _ _ ht) (by decide) rfl ?_
        try walk_at "rd"
        exact fin.same n s q
      · rw [decide_eq_false c] at q
        rw [if_neg c]
        exact fin.same n s q
theorem pure_check_requestsX (h : sp_check_requestsX K w vs H Q E) (fin : Fin H Q Q0) : t_check_requestsX K w E (endS Q0) (start ["requests", "request"] vs) H := by
  obtain ⟨v, b, rfl, hv, n, q, r⟩ := h
  have no : ∀ (S : String), TyX K H v (.type S) → kitB S "list" = some false → b = false → t_check_requestsX K w E (endS Q0) (start ["requests", "request"] [v]) H := fun S ty kk eb => by
    refine if_i fun th el h1 h2 => ?_
    try walk_at "rd"
    refine isi_of ty kk ⟨_, rfl, iteT (h1 _ ?_)⟩
    exact (r eb).at_ n
  cases hv with
  | flat h =>
    obtain ⟨S, ty, kk⟩ := flat_ty (K := K) (H := H) h (T := "list") (.inr rfl)
    exact no S ty kk rfl
  | tup e => exact no "tuple" (.base (.tup e)) (by decide +kernel) rfl
  | dict e => exact no "dict" (.base (.dK e)) (by decide +kernel) rfl
  | @lst a xs bs e p z =>
    have zb : bs.length ≤ 1000 := by rw [← p.length]; exact z
    refine if_i fun th el h1 h2 => ?_
    try walk_at "rd"
    refine isi_of (.base (.lst e)) (by decide +kernel : kitB "list" "list" = some true) ⟨_, rfl, iteF ?_⟩
    refine tLc_list bs (fun b => some (.bl b)) (fun R h => ⟨_, rfl, h⟩) e p (le1000 zb) ?_ ?_
    · rintro D v b acc Nx hD hv hb add _
      try walk_at "rd"
      exact ⟨_, b, rfl, hv.same (Same.upd hD), n.upd, add _ rfl⟩
    · intro D hD
      have s := Same.upd (o := .lst (bs.filterMap fun b => some (V.bl b))) hD
      have n2 : NoT (upd H D (.lst (bs.filterMap fun b => some (V.bl b)))) := n.upd
      refine all_new (bs := bs) (by rw [fm_map (fun b : Bool => b) V.bl, List.map_id']) ⟨_, rfl, ?_⟩
      cases eb : bs.all id with
      | true => exact iteF (h2 _ (fin.same n s (q eb)))
      | false =>
        refine iteT (h1 _ ?_)
        exact r eb _ s n2
end
end Spn

namespace Spn
open PySem PySem.Spec PyProof.Rows L2
section
variable {K : PySem.W.Frag} {w : World} {vs : List V} {H : Hp} {Q Q0 : VK} {E : XK}
theorem chk_of {a : Addr} {rs : List Rq} (hr : ReqsAt H a rs) (ok : OkR rs) (z : rs.length ≤ 1000) : ChkV H (.ref a) true := by
  obtain ⟨us, ea, pr⟩ := hr
  have e : (rs.map fun r : Rq => decide (r.1 ≤ r.2.1) && decide (0 ≤ r.2.2)).all id = true := by
    rw [List.all_eq_true]
    intro b hb
    obtain ⟨r, hm, rfl⟩ := List.mem_map.mp hb
    rw [decide_eq_true (ok r hm).1, decide_eq_true (ok r hm).2]
    rfl
  rw [← e]
  refine .lst ea ?_ (by rw [pr.length]; exact z)
  clear e ea z
  induction pr with
  | nil => exact .nil
  | @cons v r vs rs q _ ih =>
    obtain ⟨t, rfl, ht⟩ := q
    exact .cons (.req r ht) (ih fun r hr => ok r (List.mem_cons_of_mem _ hr))
theorem sum_len {rs : List Rq} {k : Nat} (h : ∀ r ∈ rs, (wrR r).length ≤ k) : ((rs.map wrR).map (·.length)).sum ≤ rs.length * k := by
  induction rs with
  | nil => exact Nat.zero_le _
  | cons r rs ih =>
    rw [List.map_cons, List.map_cons, List.sum_cons, List.length_cons, Nat.succ_mul]
    have := h r List.mem_cons_self
    have := ih fun r hr => h r (List.mem_cons_of_mem _ hr)
    omega
theorem pure_writtenX (h : sp_writtenX K w vs H Q E) (fin : Fin H Q Q0) : t_writtenX K w E (endS Q0) (start ["requests", "first", "last", "price"] vs) H := by
  obtain ⟨v, rfl, n, h⟩ := h
  refine seq_i fun nx k => ?_
  rcases h with ⟨hc, rf⟩ | ⟨a, rs, rfl, hr, ok, z, h⟩
  · exact ⟨_, rfl, v, false, rfl, hc, n, (fun z => by cases z), fun _ => rf⟩
  · refine ⟨_, rfl, _, true, rfl, chk_of hr ok z, n, (fun _ => k _ _ (seq_i fun nx2 k2 => if_i fun th el h1 h2 => ?_)), fun z => by cases z⟩
    obtain ⟨us, ea, pr⟩ := id hr
    try walk_at "rd"
    refine tLc_list rs (fun r => some (.bl (small r))) (fun R h => ⟨_, rfl, h⟩) ea pr (le1000 z) ?_ ?_
    · rintro D v r acc Nx hD ⟨t, rfl, ht⟩ hm add _
      refine gtup3 (Same.upd hD _ _ ht) ?_
      try walk_at "rd"
      exact ⟨_, rfl, _, rfl, _, _, _, rfl, _, rfl, add _ rfl⟩
    · intro D hD
      have s := Same.upd (o := .lst (rs.filterMap fun r => some (V.bl (small r)))) hD
      have n2 : NoT (upd H D (.lst (rs.filterMap fun r => some (V.bl (small r))))) := n.upd
      refine all_new (bs := rs.map small) (by rw [fm_map small V.bl]) ⟨_, rfl, ?_⟩
      have es : (rs.map small).all id = rs.all small := by rw [List.all_map]; rfl
      rw [es]
      rcases h with ⟨e, rf⟩ | ⟨e, q⟩
      · rw [e]
        refine iteT (h1 _ ?_)
        exact rf _ s n2
      rw [e]
      refine iteF (h2 _ (k2 _ _ (seq_i fun nx3 k3 => if_i fun th el h1 h2 => ?_)))
      have hr2 := hr.same s
      generalize (upd H D (.lst (rs.filterMap fun r => some (V.bl (small r)))) : Hp) = H2 at s n2 hr2 ⊢
      obtain ⟨us2, ea2, pr2⟩ := id hr2
      try walk_at "rd"
      refine rlen_lst ea2 pr2.length (req_int ⟨_, rfl, ?_⟩)
      by_cases z0 : rs.length = 0
      · rw [decide_eq_true (by omega)]
        refine iteT (h1 _ ?_)
        try walk_at "rd"
        refine fin.same n s ?_
        have e0 : writeT rs = "-" := by unfold writeT; rw [if_pos z0]
        rw [e0] at q
        exact q
      · rw [decide_eq_false (by omega)]
        refine iteF (h2 _ (k3 _ _ ?_))
        have sm : ∀ r ∈ rs, r.1.natAbs < 10 ^ 60 ∧ r.2.1.natAbs < 10 ^ 60 ∧ r.2.2.natAbs < 10 ^ 60 := fun r hr => (small_iff (ok r hr).2).mp (List.all_eq_true.mp e r hr)
        refine ⟨⟨_, rfl⟩, ?_⟩
        refine tLc_list rs (fun r => some (.str (wrR r))) (fun R h => ⟨_, rfl, h⟩) ea2 pr2 (le1000 z) ?_ ?_
        · rintro D v r acc Nx hD ⟨t, rfl, ht⟩ hm add _
          refine gtup3 (Same.upd hD _ _ ht) ?_
          obtain ⟨m1, m2, m3⟩ := sm r hm
          have a1 := len_strI (k := 60) (by decide) m1
          have a2 := len_strI (k := 60) (by decide) m2
          have a3 := len_strI (k := 60) (by decide) m3
          have b1 : ((".." : Str)).length = 2 := by decide +kernel
          have b2 : ((":" : Str)).length = 1 := by decide +kernel
          try walk_at "rd"
          refine ⟨_, rfl, log_lt m1, _, _, rfl, rfl, le1000 (by rw [b1]; omega), _, rfl, log_lt m2, _, _, rfl, rfl, le1000 (by rw [str_len_app, b1]; omega), _, _, rfl, rfl, le1000 (by rw [str_len_app, str_len_app, b1, b2]; omega), _, rfl, log_lt m3, _, _, rfl, rfl, le1000 (by rw [str_len_app, str_len_app, str_len_app, b1, b2]; omega), ?_⟩
          exact add _ rfl
        · intro D2 hD2
          rw [fm_map wrR V.str]
          refine ⟨_, D2, rs.map wrR, rfl, rfl, .inl (SqL.of upd_same), ?_, ?_⟩
          · have := sum_len (k := 190) fun r hr => wrR_len (sm r hr).1 (sm r hr).2.1 (sm r hr).2.2
            have b1 : ((" " : Str)).length = 1 := by decide +kernel
            rw [b1, List.length_map]
            omega
          · have e1 : writeT rs = Txt.join " " (rs.map wrR) := by unfold writeT; rw [if_neg z0]
            rw [e1] at q
            exact fin.same n (s.trans (Same.upd hD2)) q
end
end Spn

namespace Spn
open PySem PySem.Spec PyProof.Rows L2 TL
/-! ### texts, read -/
def isDig (c : Nat) : Bool := decide (48 ≤ c) && decide (c ≤ 57)
/-- behind a minus -/
def figL (l : List Nat) : List Nat := if l.head? = some 45 then l.drop 1 else l
/-- a number's word -/
def numOk (l : List Nat) : Bool := decide (1 ≤ (figL l).length) && (decide ((figL l).length ≤ 60) && ((figL l).all isDig && !(decide ((figL l).head? = some 48) && !decide (l = [48]))))
def numV (l : List Nat) : Int := if l.head? = some 45 then -(NumText.digitsVal (l.drop 1) : Int) else (NumText.digitsVal l : Int)
def numT (x : Str) : Option Int := if numOk (tl x) then some (numV (tl x)) else none
theorem allDig_iff {l : List Nat} : l.all isDig = true ↔ NumText.AllDigits l := by
  rw [List.all_eq_true]
  constructor
  · intro h c hc
    have := h c hc
    simpa [isDig] using this
  · intro h c hc
    have := h c hc
    simpa [isDig] using this
theorem val_snoc (g : List Nat) (c : Nat) : NumText.digitsVal (g ++ [c]) = NumText.digitsVal g * 10 + (c - 48) := by
  unfold NumText.digitsVal
  rw [List.foldl_append]
  rfl
/-- digits, and no nought ahead -/
theorem numL_back : ∀ (k : Nat) (l : List Nat), l.length = k → NumText.AllDigits l → l ≠ [] → (l.head? = some 48 → l = [48]) → numL (NumText.digitsVal l) = l := by
  intro k
  induction k with
  | zero => exact fun l hl _ ne _ => absurd (List.length_eq_zero_iff.mp hl) ne
  | succ k ih =>
    intro l hl hd ne h0
    obtain ⟨g, c, rfl⟩ : ∃ g c, l = g ++ [c] := ⟨l.dropLast, l.getLast ne, (List.dropLast_concat_getLast ne).symm⟩
    have hc := hd c (by simp)
    have hg : NumText.AllDigits g := fun d m => hd d (by simp [m])
    rw [val_snoc]
    by_cases gn : g = []
    · subst gn
      rw [show NumText.digitsVal ([] : List Nat) = 0 from rfl, numL_lt (by omega)]
      simp only [List.nil_append, List.cons.injEq, and_true]
      omega
    · have hh : g.head? = some 48 → g = [48] := by
        intro e
        have e2 : (g ++ [c]).head? = some 48 := by rw [List.head?_append, e]; rfl
        have e3 := h0 e2
        have l3 := congrArg List.length e3
        rw [List.length_append] at l3
        have : g.length = 0 := by simpa using l3
        exact absurd (List.length_eq_zero_iff.mp this) gn
      have r := ih g (by simpa using hl) hg gn hh
      have pos : 1 ≤ NumText.digitsVal g := by
        rcases Nat.eq_zero_or_pos (NumText.digitsVal g) with z | z
        · rw [z, numL_lt (by decide)] at r
          have e2 : (g ++ [c]).head? = some 48 := by rw [← r]; rfl
          have e3 := congrArg List.length (h0 e2)
          rw [List.length_append, ← r] at e3
          simp at e3
        · exact z
      rw [numL_step (by omega)]
      have e1 : (NumText.digitsVal g * 10 + (c - 48)) / 10 = NumText.digitsVal g := by omega
      have e2 : (NumText.digitsVal g * 10 + (c - 48)) % 10 = c - 48 := by omega
      rw [e1, e2, r]
      have e3 : 48 + (c - 48) = c := by omega
      rw [e3]
structure NumC (l : List Nat) : Prop where
  len : 1 ≤ (figL l).length ∧ (figL l).length ≤ 60
  dig : NumText.AllDigits (figL l)
  nul : (figL l).head? = some 48 → l = [48]
theorem numC_of {l : List Nat} (h : numOk l = true) : NumC l := by
  unfold numOk at h
  simp only [Bool.and_eq_true, decide_eq_true_eq, Bool.not_eq_true', Bool.and_eq_false_iff, Bool.not_eq_false', decide_eq_false_iff_not] at h
  obtain ⟨h1, h2, h3, h4⟩ := h
  refine ⟨⟨h1, h2⟩, allDig_iff.mp h3, fun e => ?_⟩
  rcases h4 with h4 | h4
  · exact absurd e h4
  · exact h4
theorem ten60 {n : Nat} {l : List Nat} (h : NumText.AllDigits l) (z : l.length ≤ n) : NumText.digitsVal l < 10 ^ n := by
  induction n generalizing l with
  | zero =>
    have : l = [] := List.length_eq_zero_iff.mp (by omega)
    subst this
    decide
  | succ n ih =>
    by_cases ne : l = []
    · subst ne
      exact Nat.pow_pos (by decide)
    · obtain ⟨g, c, rfl⟩ : ∃ g c, l = g ++ [c] := ⟨l.dropLast, l.getLast ne, (List.dropLast_concat_getLast ne).symm⟩
      have hc := h c (by simp)
      have r := ih (l := g) (fun d m => h d (by simp [m])) (by simpa using z)
      rw [val_snoc, Nat.pow_succ]
      omega
theorem num_back {x : Str} {i : Int} (h : numT x = some i) : tl x = strI i ∧ i.natAbs < 10 ^ 60 := by
  unfold numT at h
  split at h
  · rename_i ok
    cases h
    have C := numC_of ok
    obtain ⟨⟨l1, l2⟩, dg, nu⟩ := C
    have ne : figL (tl x) ≠ [] := by intro z; rw [z] at l1; simp at l1
    by_cases m : (tl x).head? = some 45
    · have ef : figL (tl x) = (tl x).drop 1 := if_pos m
      rw [ef] at l1 l2 dg nu ne
      have ex : tl x = 45 :: (tl x).drop 1 := by
        cases e : tl x with
        | nil => rw [e] at m; cases m
        | cons a r => rw [e] at m; cases m; rfl
      have nu2 : ((tl x).drop 1).head? = some 48 → (tl x).drop 1 = [48] := by
        intro e
        have := nu e
        rw [this] at m
        cases m
      have b := numL_back _ _ rfl dg ne nu2
      have pos : 1 ≤ NumText.digitsVal ((tl x).drop 1) := by
        rcases Nat.eq_zero_or_pos (NumText.digitsVal ((tl x).drop 1)) with z | z
        · rw [z, numL_lt (by decide)] at b
          have := nu (by rw [← b]; rfl)
          rw [this] at m
          cases m
        · exact z
      have lt := ten60 dg l2
      have ev : numV (tl x) = -(NumText.digitsVal ((tl x).drop 1) : Int) := if_pos m
      rw [ev]
      generalize NumText.digitsVal ((tl x).drop 1) = n at b pos lt ⊢
      refine ⟨?_, by omega⟩
      unfold strI
      rw [if_pos (by omega), show (-(n : Int)).natAbs = n by omega, b]
      exact ex
    · have ef : figL (tl x) = tl x := if_neg m
      rw [ef] at l1 l2 dg nu ne
      have b := numL_back _ _ rfl dg ne nu
      have lt := ten60 dg l2
      have ev : numV (tl x) = (NumText.digitsVal (tl x) : Int) := if_neg m
      rw [ev]
      generalize NumText.digitsVal (tl x) = n at b lt ⊢
      refine ⟨?_, by omega⟩
      unfold strI
      rw [if_neg (by omega), show (n : Int).natAbs = n by omega, b]
  · cases h
theorem num_text {x : Str} {i : Int} (h : numT x = some i) : x = (toString i : Str) := ext_tl ((num_back h).1.trans (tl_strI i).symm)
/-- int(x) -/
theorem num_int {x : Str} {i : Int} (h : numT x = some i) : intText? x = some i := by
  unfold numT at h
  split at h
  · rename_i ok
    cases h
    obtain ⟨⟨l1, l2⟩, dg, nu⟩ := numC_of ok
    have ne : figL (tl x) ≠ [] := by intro z; rw [z] at l1; simp at l1
    by_cases m : (tl x).head? = some 45
    · have ef : figL (tl x) = (tl x).drop 1 := if_pos m
      rw [ef] at l1 l2 dg nu ne
      have ex : tl x = 45 :: (tl x).drop 1 := by
        cases e : tl x with
        | nil => rw [e] at m; cases m
        | cons a r => rw [e] at m; cases m; rfl
      rw [intText_neg ex dg ne (by rw [len_tl, ex, List.length_cons]; omega)]
      exact congrArg some (if_pos m).symm
    · have ef : figL (tl x) = tl x := if_neg m
      rw [ef] at l1 l2 dg nu ne
      rw [intText_digits dg ne (by rw [len_tl]; omega)]
      exact congrArg some (if_neg m).symm
  · cases h
/-! ### a word, a text -/
def wDays (x : Str) : Str := (Txt.partition x ":").1
def wordT (x : Str) : Option Rq := match numT (Txt.partition (wDays x) "..").1, numT (Txt.partition (wDays x) "..").2.2, numT (Txt.partition x ":").2.2 with
  | some i, some j, some k => some (i, j, k)
  | _, _, _ => none
def okQ (r : Rq) : Bool := decide (r.1 ≤ r.2.1) && decide (0 ≤ r.2.2)
/-- the words' numbers, of all -/
def rawW : List Str → Option (List Rq)
  | [] => some []
  | x :: xs => match wordT x, rawW xs with
    | some r, some rs => some (r :: rs)
    | _, _ => none
def wordsT (x : Str) : List Str := if x = "-" then [] else Txt.split x " "
def readT (x : Str) : Option (List Rq) := match rawW (wordsT x) with
  | some rs => if rs.all okQ then some rs else none
  | none => none
theorem numT_nil : numT Str.empty = none := by decide +kernel
theorem part_mid (x y : Str) : (Txt.partition x y).2.1 = y ∨ (Txt.partition x y).2.2 = Str.empty := by
  unfold Txt.partition
  split
  · exact .inl rfl
  · exact .inr rfl
theorem word_back {x : Str} {r : Rq} (h : wordT x = some r) : wrR r = x ∧ r.1.natAbs < 10 ^ 60 ∧ r.2.1.natAbs < 10 ^ 60 ∧ r.2.2.natAbs < 10 ^ 60 := by
  unfold wordT at h
  split at h
  · rename_i i j k e1 e2 e3
    cases h
    have s1 := PySem.StrLaws.partition_sum x ":"
    have s2 := PySem.StrLaws.partition_sum (wDays x) ".."
    have m1 : (Txt.partition x ":").2.1 = ":" := (part_mid x ":").resolve_right fun z => by rw [z, numT_nil] at e3; cases e3
    have m2 : (Txt.partition (wDays x) "..").2.1 = ".." := (part_mid (wDays x) "..").resolve_right fun z => by rw [z, numT_nil] at e2; cases e2
    rw [m1] at s1
    rw [m2] at s2
    refine ⟨?_, (num_back e1).2, (num_back e2).2, (num_back e3).2⟩
    unfold wrR
    rw [num_text e1, num_text e2] at s2
    rw [num_text e3, show (Txt.partition x ":").1 = wDays x from rfl, ← s2] at s1
    exact s1
  · cases h
theorem raw_back : ∀ {ws : List Str} {rs : List Rq}, rawW ws = some rs → rs.map wrR = ws ∧ ∀ r ∈ rs, r.1.natAbs < 10 ^ 60 ∧ r.2.1.natAbs < 10 ^ 60 ∧ r.2.2.natAbs < 10 ^ 60
  | [], rs, h => by cases h; exact ⟨rfl, fun _ z => nomatch z⟩
  | x :: xs, rs, h => by
    unfold rawW at h
    split at h
    · rename_i r rs' e1 e2
      cases h
      obtain ⟨a, b⟩ := word_back e1
      obtain ⟨c, d⟩ := raw_back e2
      refine ⟨by rw [List.map_cons, a, c], fun q hq => ?_⟩
      rcases List.mem_cons.mp hq with rfl | hq
      · exact b
      · exact d q hq
    · cases h
theorem raw_len : ∀ {ws : List Str} {rs : List Rq}, rawW ws = some rs → rs.length = ws.length := fun h => by rw [← (raw_back h).1, List.length_map]
theorem split_ne (x : Str) : Txt.split x " " ≠ [] := by
  intro e
  have := congrArg (List.map tl) e
  rw [split_spl x " " (by decide +kernel) (kind_ok (by decide +kernel))] at this
  rw [show tl (" " : Str) = [32] by decide +kernel] at this
  have key : ∀ (l acc : List Nat), spl [32] 0 acc l ≠ [] := by
    intro l
    induction l with
    | nil => intro acc z; rw [spl_nil] at z; cases z
    | cons c r ih =>
      intro acc z
      cases p : pre [32] (c :: r) with
      | true => rw [spl_hit p] at z; cases z
      | false => rw [spl_miss p] at z; exact ih _ z
  exact key _ _ this
/-- what is read is what writes it -/
theorem read_back {x : Str} {rs : List Rq} (h : readT x = some rs) : writeT rs = x ∧ rs.all small = true ∧ OkR rs ∧ rs.length = (wordsT x).length := by
  unfold readT at h
  split at h
  · rename_i rs' e
    split at h
    · rename_i ok
      cases h
      obtain ⟨a, b⟩ := raw_back e
      have okr : OkR rs := fun r hr => by
        have := List.all_eq_true.mp ok r hr
        unfold okQ at this
        rw [Bool.and_eq_true, decide_eq_true_eq, decide_eq_true_eq] at this
        exact this
      refine ⟨?_, ?_, okr, raw_len e⟩
      · unfold writeT
        by_cases z : x = "-"
        · have ew : wordsT x = [] := if_pos z
          rw [ew] at a
          rw [List.map_eq_nil_iff.mp a, z]
          rfl
        · have ew : wordsT x = Txt.split x " " := if_neg z
          have ne : rs.length ≠ 0 := by
            rw [raw_len e, ew]
            intro q
            exact split_ne x (List.length_eq_zero_iff.mp q)
          rw [if_neg ne, a, ew, join_eq]
          exact PySem.StrLaws.join_split x " "
      · rw [List.all_eq_true]
        intro r hr
        exact (small_iff (okr r hr).2).mpr (b r hr)
    · cases h
  · cases h
/-! ### as it is read, word by word -/
theorem raw_snoc : ∀ {ws : List Str} {x : Str} {rs : List Rq} {r : Rq}, rawW ws = some rs → wordT x = some r → rawW (ws ++ [x]) = some (rs ++ [r])
  | [], x, rs, r, h, e => by
    cases h
    show (match wordT x, rawW [] with | some r, some rs => some (r :: rs) | _, _ => none) = _
    rw [e]
    rfl
  | y :: ws, x, rs, r, h, e => by
    have h' : (match wordT y, rawW ws with | some r, some rs => some (r :: rs) | _, _ => none) = some rs := h
    show (match wordT y, rawW (ws ++ [x]) with | some r, some rs => some (r :: rs) | _, _ => none) = _
    split at h'
    · rename_i r' rs' e1 e2
      cases h'
      rw [e1, raw_snoc e2 e]
      rfl
    · cases h'
theorem raw_mem : ∀ {ws : List Str} {rs : List Rq}, rawW ws = some rs → ∀ x ∈ ws, ∃ r ∈ rs, wordT x = some r
  | [], _, _, x, hx => nomatch hx
  | y :: ws, rs, h, x, hx => by
    have h' : (match wordT y, rawW ws with | some r, some rs => some (r :: rs) | _, _ => none) = some rs := h
    split at h'
    · rename_i r' rs' e1 e2
      cases h'
      rcases List.mem_cons.mp hx with rfl | hx
      · exact ⟨r', List.mem_cons_self, e1⟩
      · obtain ⟨r, hr, e⟩ := raw_mem e2 x hx
        exact ⟨r, List.mem_cons_of_mem _ hr, e⟩
    · cases h'
theorem read_none {x y : Str} (hy : y ∈ wordsT x) (h : ∀ r, wordT y = some r → okQ r = false) : readT x = none := by
  unfold readT
  split
  · rename_i rs e
    obtain ⟨r, hr, e2⟩ := raw_mem e y hy
    rw [if_neg]
    intro ok
    have := List.all_eq_true.mp ok r hr
    rw [h r e2] at this
    cases this
  · rfl
theorem read_some {x : Str} {rs : List Rq} (h : rawW (wordsT x) = some rs) (ok : rs.all okQ = true) : readT x = some rs := by
  unfold readT
  rw [h]
  exact if_pos ok
theorem read_bad {x : Str} {rs : List Rq} (h : rawW (wordsT x) = some rs) (ok : rs.all okQ = false) : readT x = none := by
  unfold readT
  rw [h]
  exact if_neg (by rw [ok]; exact Bool.false_ne_true)
theorem spl32 : ∀ (l acc : List Nat), (spl [32] 0 acc l).length = l.count 32 + 1 ∧ ∀ p ∈ spl [32] 0 acc l, p.length ≤ acc.length + l.length
  | [], acc => by
    rw [spl_nil]
    refine ⟨rfl, fun p hp => ?_⟩
    rw [List.mem_singleton.mp hp]
    exact Nat.le_add_right _ _
  | c :: r, acc => by
    by_cases h : c = 32
    · subst h
      have p : pre [32] (32 :: r) = true := rfl
      obtain ⟨a, b⟩ := spl32 r []
      rw [spl_hit p]
      refine ⟨?_, fun q hq => ?_⟩
      · show (spl [32] 0 [] r).length + 1 = _
        rw [a, List.count_cons_self]
      · rcases List.mem_cons.mp hq with rfl | hq
        · exact Nat.le_add_right _ _
        · have : q.length ≤ ([] : List Nat).length + r.length := b q hq
          rw [List.length_nil] at this
          rw [List.length_cons]
          omega
    · have p : pre [32] (c :: r) = false := pre_of_head [] r h
      obtain ⟨a, b⟩ := spl32 r (acc ++ [c])
      rw [spl_miss p]
      refine ⟨?_, fun q hq => ?_⟩
      · rw [a, List.count_cons_of_ne h]
      · have := b q hq
        rw [List.length_append] at this
        simp only [List.length_cons, List.length_nil] at this ⊢
        omega
theorem tl_space : tl (" " : Str) = [32] := by decide +kernel
theorem split_tl (x : Str) : (Txt.split x " ").map tl = spl [32] 0 [] (tl x) := by
  rw [split_spl x " " (by decide +kernel) (kind_ok (by decide +kernel)), tl_space]
theorem split_len (x : Str) : (Txt.split x " ").length = (tl x).count 32 + 1 := by
  rw [← (spl32 (tl x) []).1, ← split_tl, List.length_map]
theorem split_part {x y : Str} (h : y ∈ Txt.split x " ") : y.length ≤ x.length := by
  have m : tl y ∈ spl [32] 0 [] (tl x) := by
    rw [← split_tl]
    exact List.mem_map.mpr ⟨y, h, rfl⟩
  have := (spl32 (tl x) []).2 _ m
  rw [len_tl, len_tl]
  simpa using this
theorem words_part {x y : Str} (h : y ∈ wordsT x) : y.length ≤ x.length := by
  unfold wordsT at h
  split at h
  · cases h
  · exact split_part h
theorem words_len {x : Str} {k : Nat} (h : (tl x).count 32 ≤ k) : (wordsT x).length ≤ k + 1 := by
  unfold wordsT
  split
  · exact Nat.zero_le _
  · rw [split_len]
    omega
/-! ### how long what is written is -/
theorem joinL_len : ∀ ps : List (List Nat), (joinL [32] ps).length ≤ (ps.map List.length).sum + ps.length
  | [] => Nat.le_refl _
  | [p] => by simp [joinL]
  | p :: q :: r => by
    have := joinL_len (q :: r)
    show (p ++ ([32] ++ joinL [32] (q :: r))).length ≤ _
    rw [List.length_append, List.length_append, List.map_cons, List.sum_cons, List.length_cons]
    simp only [List.length_cons, List.length_nil] at this ⊢
    omega
theorem joinL_count : ∀ ps : List (List Nat), (∀ p ∈ ps, 32 ∉ p) → (joinL [32] ps).count 32 ≤ ps.length
  | [], _ => Nat.le_refl _
  | [p], h => by
    show p.count 32 ≤ 1
    rw [List.count_eq_zero_of_not_mem (h p List.mem_cons_self)]
    exact Nat.zero_le _
  | p :: q :: r, h => by
    have := joinL_count (q :: r) fun z hz => h z (List.mem_cons_of_mem _ hz)
    show (p ++ ([32] ++ joinL [32] (q :: r))).count 32 ≤ _
    rw [List.count_append, List.count_append, List.count_eq_zero_of_not_mem (h p List.mem_cons_self), List.length_cons]
    have e : [32].count 32 = 1 := rfl
    rw [e]
    omega
theorem strI_free (i : Int) : 32 ∉ strI i := by
  have f : ∀ n, 32 ∉ numL n := fun n => numL_free (.inl (by decide))
  unfold strI
  split
  · intro h
    rcases List.mem_cons.mp h with h | h
    · cases h
    · exact f _ h
  · exact f _
theorem wrR_free (r : Rq) : 32 ∉ tl (wrR r) := by
  have e1 : 32 ∉ tl (".." : Str) := by decide +kernel
  have e2 : 32 ∉ tl (":" : Str) := by decide +kernel
  unfold wrR
  rw [tl_append, tl_append, tl_append, tl_append, tl_strI, tl_strI, tl_strI]
  simp only [List.mem_append, not_or]
  exact ⟨⟨⟨⟨strI_free _, e1⟩, strI_free _⟩, e2⟩, strI_free _⟩
theorem write_len {rs : List Rq} (h : ∀ r ∈ rs, (wrR r).length ≤ 190) : (writeT rs).length ≤ rs.length * 191 + 1 ∧ (tl (writeT rs)).count 32 ≤ rs.length := by
  unfold writeT
  split
  · have e1 : ("-" : Str).length = 1 := by decide +kernel
    have e2 : (tl ("-" : Str)).count 32 = 0 := by decide +kernel
    omega
  · have e := tl_join " " (rs.map wrR)
    rw [tl_space, List.map_map] at e
    have ej : tl (Txt.join " " (rs.map wrR)) = joinL [32] (rs.map (tl ∘ wrR)) := by rw [join_eq]; exact e
    constructor
    · rw [len_tl, ej]
      have a := joinL_len (rs.map (tl ∘ wrR))
      have b : ((rs.map (tl ∘ wrR)).map List.length).sum ≤ rs.length * 190 := by
        rw [List.map_map]
        clear e ej a
        rename_i hne
        clear hne
        induction rs with
        | nil => exact Nat.zero_le _
        | cons r rs ih =>
          have h1 := h r List.mem_cons_self
          have h2 := ih fun q hq => h q (List.mem_cons_of_mem _ hq)
          rw [len_tl] at h1
          rw [List.map_cons, List.sum_cons, List.length_cons]
          have e : (List.length ∘ (tl ∘ wrR)) r = (tl (wrR r)).length := rfl
          rw [e]
          omega
      rw [List.length_map] at a
      omega
    · rw [ej]
      have a := joinL_count (rs.map (tl ∘ wrR)) fun p hp => by
        obtain ⟨r, -, rfl⟩ := List.mem_map.mp hp
        exact wrR_free r
      rw [List.length_map] at a
      exact a
end Spn

namespace Spn
open PySem PySem.Spec PyProof.Rows L2
/-! ### a handled exception whose context may be another one -/
/-- its context: none, or the one object of l, that has none -/
def Ctx2 (o : Obj) (l : List (Addr × Obj)) : Prop := ∃ vs : Array Value, o.data = .fields vs ∧ ((l = [] ∧ vs[2]? = some .none) ∨ ∃ (p : Addr × Obj) (v2 : Array Value), l = [p] ∧ vs[2]? = some (.ref p.1) ∧ p.2.data = .fields v2 ∧ v2[2]? = some .none)
section
variable {prog : Program} {w : World} {A : Around} {E : Value → Shared → Prop} {s : Shared}
theorem unchain2 {x1 a : Addr} {o1 : Obj} {l : List (Addr × Obj)} {Q : Value → Shared → Prop} (h1 : s.heap.get? x1 = some o1) (c : Ctx2 o1 l) (hl : ∀ p ∈ l, s.heap.get? p.1 = some p.2 ∧ p.1 ≠ a) (q : Q .none s) :
    wpAny (model prog w) A (holding [Value.ref a] (runValue (.builtin "proto.unchain" ⟨[.ref a, .ref x1, .ref x1, .bool false], []⟩))) Q E s := by
  obtain ⟨vs, d1, ⟨-, c1⟩ | ⟨p, v2, rfl, c1, d2, c2⟩⟩ := c
  · exact HotX.unchained h1 d1 c1 q
  obtain ⟨gp, na⟩ := hl p List.mem_cons_self
  have nx : p.1 ≠ x1 := by
    intro z
    rw [z, h1] at gp
    have e : o1 = p.2 := Option.some.inj gp
    rw [← e, d1] at d2
    have e2 : vs = v2 := Data.fields.inj d2
    rw [e2, c2] at c1
    cases c1
  have b1 : ¬ ((Value.ref p.1 == Value.ref a) = true) := by simpa using na
  have b2 : ¬ ((Value.ref p.1 == Value.ref x1) = true) := by simpa using nx
  have b0 : ¬ ((Value.ref p.1 == Value.none) = true) := by simp
  refine wpAny_holding (wpAny_runValue (codeAny_builtin HotX.entry_unchain ?_))
  show wpAny _ _ (field (.ref x1) 2 >>= _) _ _ s
  refine wpAny_bind (wpAny_field h1 d1 c1 ?_)
  rw [if_neg b0, if_neg b1, if_neg b2, if_neg Bool.false_ne_true]
  refine wpAny_bind (wpAny_pure (wpAny_pure ⟨plainId_quiet (by decide +kernel) _, codeAny_builtin HotX.entry_unchain ?_⟩))
  show wpAny _ _ (field (.ref p.1) 2 >>= _) _ _ s
  refine wpAny_bind (wpAny_field gp d2 c2 ?_)
  rw [if_pos (show (Value.none == Value.none) = true from rfl)]
  first
  | exact wpAny_bind (wpAny_pure (wpAny_pure q))
  | exact wpAny_pure q
theorem raiseNew_hot2 {α : Type} {a x1 : Addr} {oe o1 : Obj} {vs : Array Value} {l : List (Addr × Obj)} {Q : α → Shared → Prop} (hh : A.handled = some (.ref x1)) (h1 : s.heap.get? x1 = some o1) (c : Ctx2 o1 l)
    (hl : ∀ p ∈ l, s.heap.get? p.1 = some p.2 ∧ p.1 ≠ a) (hne : x1 ≠ a) (ha : s.heap.get? a = some oe) (da : oe.data = .fields vs) (hi : 2 < vs.size)
    (hE : E (.ref a) { s with heap := s.heap.update a (Obj.mapFields (·.setIfInBounds 2 (.ref x1))) }) : wpAny (model prog w) A (raiseNew (.ref a) : Sem α) Q E s := by
  unfold raiseNew
  refine wpAny_bind (wpAny_handled ?_)
  rw [hh]
  have hb : (Value.ref x1 != Value.ref a) = true := HotX.ref_bne hne
  first
  | (show wpAny _ _ (if (Value.ref x1 != Value.ref a) = true then _ else _) _ _ _
     rw [if_pos hb]
     first
     | exact wpAny_bind (unchain2 h1 c hl (wpAny_bind (HotX.chained ha da hi (wpAny_throw hE))))
     | exact wpAny_bind (wpAny_bind (unchain2 h1 c hl (HotX.chained ha da hi (wpAny_throw hE)))))
  | (refine wpAny_bind ?_
     show wpAny _ _ (if (Value.ref x1 != Value.ref a) = true then _ else _) _ _ _
     rw [if_pos hb]
     exact wpAny_bind (unchain2 h1 c hl (HotX.chained ha da hi (wpAny_throw hE))))
/-- a list's iterator ends while such an exception is handled -/
theorem listEnd_hot {it ax x1 : Addr} {i : Nat} {o1 : Obj} {l : List (Addr × Obj)} {items : Array Value} {Q : Option Value → Shared → Prop} (hh : A.handled = some (.ref x1)) (h1 : s.heap.get? x1 = some o1) (c : Ctx2 o1 l) (hl : ∀ p ∈ l, s.heap.get? p.1 = some p.2)
    (n1 : x1 ≠ it) (nl : ∀ p ∈ l, p.1 ≠ it) (hit : s.heap.IsListIter it ax i) (hls : s.heap.IsList ax items) (hx : items[i]? = none) (hQ : ∀ h', Heap.ExtBut it s.heap h' → Q none { s with heap := h' }) :
    wpAny (model prog w) A (pyNext (.ref it)) Q E s := by
  obtain ⟨oi, hoi, hci, hdi⟩ := id hit
  obtain ⟨ol, hol, _, _, hdl⟩ := id hls
  unfold pyNext
  refine wpAny_bind (wpAny_attempt (wpAny_callSpecial?_slot (name := Str.ofString "__next__") hit.typeIs slot_listiter_next (wpAny_call_entry slot_listiter_next hit.typeIs entry_listiter_next ?_ (args_listiter_next _))))
  show wpAny _ _ (field (.ref it) 0 >>= _) _ _ s
  refine wpAny_bind (wpAny_field hoi hdi (x := .ref ax) rfl ?_)
  show wpAny _ _ (if (Value.ref ax == Value.none) = true then _ else _) _ _ s
  rw [if_neg (show ¬ ((Value.ref ax == Value.none) = true) from Bool.false_ne_true)]
  show wpAny _ _ (field (.ref it) 1 >>= _) _ _ s
  refine wpAny_bind (wpAny_field hoi hdi (x := .int i 0) rfl ?_)
  show wpAny _ _ (seqItems? (.ref ax) >>= _) _ _ s
  refine wpAny_bind (wpAny_seqItems hol hdl ?_)
  simp only [Int.toNat_natCast, hx]
  refine wpAny_bind (wpAny_rule (wpAny_bind (wpAny_setField hoi hdi (by simp) ?_)))
  show wpAny _ _ (newExc (.type "StopIteration") [] >>= _) _ _ _
  refine wpAny_bind ?_
  simp only [newExc, newTuple]
  refine wpAny_bind (wpAny_newObj_type ?_ (by size_fits))
  refine wpAny_bind (m := firstArgMember _ _) (wpAny_of_eq (a := Value.none) (by first | rfl | (simp only [firstArgMember]; rfl)) ?_)
  refine wpAny_newObj_type ?_ (by size_fits)
  have k0 : Heap.ExtBut it s.heap (s.heap.update it (Obj.mapFields (·.setIfInBounds 0 Value.none))) := (Heap.SameBut.update ..).extBut
  have k := (k0.push { cls := .type "tuple", dict := none, data := .seq ([] : List Value).toArray })
  have h1' := k x1 o1 n1 h1
  refine raiseNew_hot2 hh (Heap.get?_push_of_some _ h1') c (fun p hp => ⟨Heap.get?_push_of_some _ (k p.1 p.2 (nl p hp) (hl p hp)), Nat.ne_of_lt (Heap.lt_size (k p.1 p.2 (nl p hp) (hl p hp)))⟩) (Nat.ne_of_lt (Heap.lt_size h1')) (Heap.get?_push_size _ rfl) rfl
    (by first | (simp; done) | (simp; omega) | (simp only [Array.size_append]; simp; omega)) ?_
  refine wpAny_bind (wpAny_isInstance (T := "StopIteration") (b := true) ⟨_, Heap.get?_update_self _ (Heap.get?_push_size _ rfl) rfl, rfl⟩ isSubtype_stop ?_)
  refine wpAny_pure (hQ _ fun b o nb e => ?_)
  have e1 := k b o nb e
  rw [Heap.get?_update_other _ _ (Nat.ne_of_gt (Heap.lt_size e1))]
  exact Heap.get?_push_of_some _ e1
theorem walksHot {I ax x1 : Addr} {o1 : Obj} {l : List (Addr × Obj)} {items : Array Value} (hh : A.handled = some (.ref x1)) (c : Ctx2 o1 l) (n1 : x1 ≠ I) (nl : ∀ p ∈ l, p.1 ≠ I) (hne : ax ≠ I) :
    Walks prog w A I (I :: ax :: x1 :: l.map (·.1)) [I] items.size (fun i v => items[i]? = some v) (fun i h => h.IsListIter I ax i ∧ h.IsList ax items ∧ h.get? x1 = some o1 ∧ ∀ p ∈ l, h.get? p.1 = some p.2) where
  sub := fun b hb => by simp at hb; simp [hb]
  frame := fun _ _ _ st hk => ⟨st.1.at fun o e => hk I (by simp) o e, st.2.1.at fun o e => hk ax (by simp) o e, hk x1 (by simp) _ st.2.2.1, fun p hp => hk p.1 (by simp only [List.mem_cons, List.mem_map]; exact .inr (.inr (.inr ⟨p, hp, rfl⟩))) _ (st.2.2.2 p hp)⟩
  item := fun i s Q E hi st hQ => by
    refine wpAny_pyNext_list_item st.1 st.2.1 (x := items[i]) (by simp [hi]) fun h' hit' hs' => ?_
    exact hQ _ h' s.toks (by simp [hi]) ⟨hit', st.2.1.extBut hs'.extBut hne, hs'.extBut _ _ n1 st.2.2.1, fun p hp => hs'.extBut _ _ (nl p hp) (st.2.2.2 p hp)⟩ fun b o hb e => hs'.extBut b o (fun h => hb (by simp [h])) e
  done := fun s Q E st hQ => listEnd_hot hh st.2.2.1 c st.2.2.2 n1 nl st.1 st.2.1 (by simp) fun h' he' => hQ h' s.toks fun b o hb e => he' b o (fun h => hb (by simp [h])) e
  self := fun _ _ _ _ st hQ => wpAny_pyIter_listiter st.1 hQ
end
/-- the context bears the handled exception and its context -/
def HotQ (X : Cx) : Prop := ∃ (a : Addr) (o1 : Obj) (l : List (Addr × Obj)), X.A.handled = some (.ref a) ∧ (a, o1) ∈ X.pn ∧ Ctx2 o1 l ∧ ∀ q ∈ l, q ∈ X.pn
theorem call_anyQ {X : Cx} (hc : HotQ X) : CallR X (.builtin "any") (rAny X.K) := by
  rintro pins s σ H vs us Q I r ⟨a, bs, rfl, hs, q⟩
  obtain ⟨x1, o1, l, hh, hp, c, hl⟩ := hc
  obtain ⟨its, rv, hls, _⟩ := I.list hs
  rw [Vals.ref1 r]
  have hb := rv.bls
  have P1 := (I.pin (x1, o1) (List.mem_append_left _ hp)).1
  have Pl : ∀ p ∈ l, s.heap.get? p.1 = some p.2 := fun p hp => (I.pin p (List.mem_append_left _ (hl p hp))).1
  refine call_any_walk (iter_any hls.isList fun s₂ e2 st hne => ?_)
  subst e2
  refine ⟨_, _, _, _, _, _, _, rfl, walksHot (A := X.A.in1) hh c (Nat.ne_of_lt (Heap.lt_size P1)) (fun p hp => Nat.ne_of_lt (Heap.lt_size (Pl p hp))) hne (items := its.toArray), ⟨st.1, st.2, Heap.get?_push_of_some _ P1, fun p hp => Heap.get?_push_of_some _ (Pl p hp)⟩, truth_bools hb, fun h' tk hk => ?_⟩
  refine ⟨.bl _, H, I.kept fun b o eo => hk b o (fun hm => ?_) (Heap.get?_push_of_some _ eo), ?_, q⟩
  · have e1 : b = s.heap.objs.size := by simpa using hm
    exact absurd (e1 ▸ Heap.lt_size eo) (Nat.lt_irrefl _)
  · show Value.bool _ = Value.bool _
    rw [← L2.any_range, hb, List.size_toArray, List.length_map]
/-! ### what flies with a context -/
/-- what is kept of it: class, dict, and that its context stands -/
def Zq (B : Heap) (H : Hp) (cls : Value) (d : Option Addr) : Obj → Prop := fun o => o.cls = cls ∧ o.dict = d ∧ ∀ vs, o.data = .fields vs → ∃ l, Ctx2 o l ∧ ∀ q ∈ l, B.get? q.1 = some q.2 ∧ H q.1 = none
theorem Zq.steady {B : Heap} {H : Hp} {cls : Value} {d : Option Addr} : PXN.Steady1 (Zq B H cls d) := fun o v h => by
  refine ⟨PXN.steady_cls o v h.1, PXN.steady_dict o v h.2.1, fun vs e => ?_⟩
  obtain ⟨oc, od, dt, sl⟩ := o
  cases dt with
  | fields vs0 =>
    obtain ⟨l, ⟨v0, e0, c⟩, hl⟩ := h.2.2 vs0 rfl
    have e1 : vs0 = v0 := Data.fields.inj e0
    subst e1
    have e3 : (vs0.setIfInBounds 1 v)[2]? = vs0[2]? := by
      first
      | exact Array.getElem?_setIfInBounds_ne (by decide)
      | simp [Array.getElem?_setIfInBounds]
    refine ⟨l, ⟨vs0.setIfInBounds 1 v, rfl, ?_⟩, hl⟩
    rw [e3]
    exact c
  | _ =>
    first
    | exact Data.noConfusion e
    | cases e
theorem Zq.of {B : Heap} {H : Hp} {cls : Value} {d : Option Addr} {o : Obj} (h : L2N.Zn cls d o) : Zq B H cls d o := ⟨h.1, h.2.1, fun vs e => ⟨[], ⟨vs, e, .inl ⟨rfl, h.2.2 vs e⟩⟩, fun _ z => nomatch z⟩⟩
theorem Zq.zc {B : Heap} {H : Hp} {cls : Value} {d : Option Addr} {o : Obj} (h : Zq B H cls d o) : Zc cls d o := ⟨h.1, h.2.1⟩
/-- an exception in the air of X -/
def XEq (X : Cx) (W : WX) (u : Value) (s' : Shared) : Prop := ∃ (a : Addr) (B : Heap) (sI : Shared) (pins : List (Addr × Obj)) (σ : L2.St) (H : Hp) (cls : Value) (d : Option Addr),
  u = .ref a ∧ Inv X pins σ H sI ∧ (∀ b o, sI.heap.get? b = some o → b ∉ frs X.stack → B.get? b = some o) ∧ sI.heap.UpToSlots s'.heap ∧ Sky B X.stack a (Zq B H cls d) X.env.locals s'.heap ∧ H a = none ∧ s'.os = sI.os ∧ AllBare s'.gens ∧ W cls d σ H
def TakesQ (X : Cx) (W : WX) : Prop := ∀ u s', XEq X W u s' → X.xe u s'
def CXq (P : Program) (w : World) (outer : List Env) (H : Hp) (s : Shared) (E : XK) (u : Value) (s' : Shared) : Prop := ∃ (a : Addr) (B : Heap) (H' : Hp) (cls : Value) (d : Option Addr),
  u = .ref a ∧ HandSPX.FlyingZ B outer a (Zq B H' cls d) s'.heap ∧ HOk P w H' B ∧ UB (frs outer) H H' s.heap B s'.heap ∧ H' a = none ∧ s'.os = s.os ∧ AllBare s'.gens ∧ E cls d H'
theorem sky_imp {B h : Heap} {l : List Env} {a L : Addr} {Z Z' : Obj → Prop} (z : ∀ o, Z o → Z' o) (x : Sky B l a Z L h) : Sky B l a Z' L h := by
  rcases x with ⟨h1, h2, h3, oe, vs, h4, hz, h5, h6⟩ | fl | ⟨g1, g2, g3, g4⟩
  · exact .inl ⟨h1, h2, h3, oe, vs, h4, z _ hz, h5, h6⟩
  · exact .inr (.inl (L2H.flyingZ_imp z fl))
  · exact .inr (.inr ⟨g1, g2, g3, L2H.tracedZ_imp z g4⟩)
theorem takesN_of {X : Cx} {W : WX} (t : TakesQ X W) : L2N.Takes X W := fun u s' ⟨a, B, sI, pins, σ, H, cls, d, e, I, nb, up, sky, r⟩ => t u s' ⟨a, B, sI, pins, σ, H, cls, d, e, I, nb, up, sky_imp (fun _ => Zq.of) sky, r⟩
section
variable {X : Cx} {pins : List (Addr × Obj)} {σ : L2.St} {H : Hp} {sI s s' : Shared} {B : Heap} {W : WX} {E : XK}
theorem XEq.of_call (I : Inv X pins σ H s) (hW : ∀ cls d H', E cls d H' → W cls d σ H') {u : Value} (c : CXq X.prog X.w X.stack H s E u s') : XEq X W u s' := by
  obtain ⟨a, B, H', cls, d, rfl, fl, hok, ub, na, os, ag, hE⟩ := c
  have c' : L2.CX X.prog X.w X.stack H s (fun _ _ H2 => H2 = H') (.ref a) s' := ⟨a, B, H', cls, d, rfl, L2H.flyingZ_imp (fun _ => Zq.zc) fl, hok, ub, na, os, ag, rfl⟩
  obtain ⟨G, g1, g2⟩ := restrict s'.heap fun b => (B.get? b).isSome || decide (b ∈ frs X.stack)
  have st : B.StaysIn s'.heap := fl.1
  have inB : ∀ b o, B.get? b = some o → G.get? b = some o := fun b o e => (g1 b (by rw [e]; rfl)).trans (st b o e)
  have inF : ∀ b, b ∈ frs X.stack → G.get? b = s'.heap.get? b := fun b hb => g1 b (by rw [decide_eq_true hb, Bool.or_true])
  have out : ∀ b o, G.get? b = some o → s'.heap.get? b = some o ∧ ((B.get? b).isSome = true ∨ b ∈ frs X.stack) := fun b o e => by
    by_cases q : ((B.get? b).isSome || decide (b ∈ frs X.stack)) = true
    · refine ⟨(g1 b q).symm.trans e, ?_⟩
      rcases Bool.or_eq_true_iff.mp q with q | q
      · exact .inl q
      · exact .inr (of_decide_eq_true q)
    · rw [g2 b (Bool.eq_false_iff.mpr q)] at e
      cases e
  refine ⟨a, B, { s with heap := G, gens := s'.gens, drawn := s'.drawn, toks := s'.toks }, pins, σ, H', cls, d, rfl, ?_, ?_, Heap.UpToSlots.of_keeps fun b o e => (out b o e).1, .inr (.inl fl), na, os, ag, hW _ _ _ hE⟩
  · refine I.call (ch := []) ⟨fun b o e n hb _ => inB b o (ub.keep b o e n hb), fun b o e n hb _ => ?_, fun b o e n _ => ub.free b o e n, fun b o e _ => ?_, ub.tups, ub.frzs, ub.tbls⟩ (hok.kept inB) ag (fun _ z => nomatch z)
    · obtain ⟨sl, q⟩ := ub.slot b o e hb
      exact ⟨sl, (inF b hb).trans q⟩
    · by_cases hb : b ∈ frs X.stack
      · obtain ⟨sl, q⟩ := ub.slot b o e hb
        exact ⟨_, (inF b hb).trans q⟩
      · obtain ⟨o', q⟩ := ub.there b o e hb
        exact ⟨o', inB b o' q⟩
  · rintro b o e hb
    obtain ⟨e', h | h⟩ := out b o e
    · obtain ⟨o', q⟩ := Option.isSome_iff_exists.mp h
      rw [st b o' q] at e'
      cases e'
      exact q
    · exact absurd h hb
theorem XEq.leave (hs : X.stack = X.env :: X.outer) (hf : X.env.frame = some X.env.locals) (hex : X.ex = []) {E₁ : Value → Shared → Prop} (hW : ∀ cls d σ H, W cls d σ H → E cls d H) {u : Value} (x : XEq X W u s') :
    wpAny (model X.prog X.w) X.A (leaving X.env u) (fun _ s'' => CXq X.prog X.w X.outer X.H_0 X.s_0 E u s'') E₁ s' := by
  obtain ⟨a, B, sI, pins, σ, H, cls, d, rfl, I, nb, up, sky, na, os, ag, w⟩ := x
  have hfr : X.A.frames = some (X.env :: X.outer) := by rw [I.ok.frames, hs]
  have noX : ∀ b, b ∉ X.ex := by rw [hex]; intro b z; cases z
  have notS : ∀ b o, X.s_0.heap.get? b = some o → b ∉ X.fs → b ∉ frs X.stack := by
    intro b o e hb hm
    rcases List.mem_cons.mp (I.stkSub b hm) with z | z
    · exact absurd (z ▸ Nat.lt_of_lt_of_le (Heap.lt_size e) I.ok.above) (Nat.lt_irrefl _)
    · exact hb z
  have hokB := I.inGround nb
  have fin : ∀ h', HandSPX.FlyingZ B X.outer a (Zq B H cls d) h' → s'.heap.UpToSlots h' → CXq X.prog X.w X.outer X.H_0 X.s_0 E (.ref a) { s' with heap := h' } := by
    intro h' fl up'
    refine ⟨a, B, H, cls, d, rfl, fl, hokB, ⟨?_, ?_, fun b o e n => I.base.free b o e n (noX b), ?_, I.base.tups, I.base.frzs, I.base.tbls⟩, na, os.trans I.os, ag, hW _ _ _ _ w⟩
    · exact fun b o e n hb => nb b o (I.base.keep b o e n hb (noX b)) (notS b o e hb)
    · intro b o e hb
      obtain ⟨_, o₀, e₀, hnf⟩ := I.ok.funs.mem hb
      cases e.symm.trans e₀
      obtain ⟨sl, e1⟩ := I.base.slot b o e (I.ok.frf b hb) hb (noX b)
      obtain ⟨sl2, e2⟩ := up b _ e1 hnf
      obtain ⟨sl3, e3⟩ := up' b _ e2 hnf
      exact ⟨sl3, e3⟩
    · intro b o e hb
      obtain ⟨o', e1⟩ := I.base.there b o e (noX b)
      exact ⟨o', nb b o' e1 (notS b o e hb)⟩
  rw [hs] at sky
  rcases sky with ⟨hB, hn, hl, oe, vs, he, hz, hd, h1⟩ | fl | hd
  · exact PXN.leaving_firstZ Zq.steady hfr hl hf he hB hn hd h1 hz fin
  · exact PXN.leaves_onZ Zq.steady hfr hf fl fin
  · exact HandSPX.leaves_heldZ hf hd fin
theorem takesQ_of (hs : X.stack = X.env :: X.outer) (hf : X.env.frame = some X.env.locals) (hex : X.ex = []) {E₁ : Value → Shared → Prop}
    (hx : X.xe = fun e s' => wpAny (model X.prog X.w) X.A (leaving X.env e) (fun _ s'' => CXq X.prog X.w X.outer X.H_0 X.s_0 E e s'') E₁ s') : TakesQ X (fun cls d _ H => E cls d H) := by
  intro u s' x
  rw [hx]
  exact XEq.leave (W := fun cls d _ H => E cls d H) (E := E) hs hf hex (fun _ _ _ _ h => h) x
theorem passAtQ {W : WX} (tk : TakesQ X W) (σ : L2.St) : PassesAt (CXq X.prog X.w) X σ (WE W σ) := fun _ _ _ e s' I c => tk e s' (XEq.of_call I (fun _ _ _ h => h) c)
/-- a new exception, its context pinned -/
theorem XEq.new {a : Addr} {oe : Obj} {vs : Array Value} {cls : Value} {d : Option Addr} (I : Inv X pins σ H sI) (k : ∀ b o, sI.heap.get? b = some o → s'.heap.get? b = some o) (hne : sI.heap.get? a = none) (he : s'.heap.get? a = some oe)
    (hz : Zq (PySem.W.hideAll sI.heap (frs X.stack)) H cls d oe) (hd : oe.data = .fields vs) (h1 : vs[1]? = some .none) (na : H a = none) (os : s'.os = sI.os) (ag : AllBare s'.gens) (w : W cls d σ H) : XEq X W (.ref a) s' := by
  have hid : ∀ b o, (PySem.W.hideAll sI.heap (frs X.stack)).get? b = some o → sI.heap.get? b = some o := fun b o e => PySem.W.of_hideAll _ e
  refine ⟨a, _, sI, pins, σ, H, cls, d, rfl, I, fun b o e hb => PySem.W.hideAll_get _ e hb, Heap.UpToSlots.of_keeps k, .inl ⟨fun b o e => k b o (hid b o e), ?_, ?_, oe, vs, he, hz, hd, h1⟩, na, os, ag, w⟩
  · cases q : (PySem.W.hideAll sI.heap (frs X.stack)).get? a with
    | none => rfl
    | some o => cases hne.symm.trans (hid a o q)
  · exact Heap.FunFrames.of_keeps (fun b o e _ => ⟨o, k b o e, rfl⟩) (funFrames_none I.stack fun b hb => PySem.W.hideAll_none _ hb)
end
/-- raised in an except suite: the handled exception is its context -/
theorem ps_raiseQ {X : Cx} {W : WX} {e : Expr} {t : L2.St → Hp → XK → Prop} {pos : Pos} (hc : L2H.HotC X) (tk : TakesQ X W) (he : L2N.PMk X e t) : PS X (.Raise (some e) none pos) (fun _ σ H => t σ H fun cls d H' => W cls d σ H') := by
  obtain ⟨p, ⟨hh, v1, e1, c1⟩, hp⟩ := hc
  refine ⟨fun pins s σ H D I h => ?_⟩
  show wpAny _ _ (do standAt pos; raiseStmt X.env (some (do let v ← eval e X.env; standAt pos; pure v)) none) _ _ _
  refine wpAny_bind (wpAny_standAt (HotX.raise_made_hot (x1 := p.1) (wpAny_bind (wpAny_mono (he pins s σ H _ I h) (fun u s1 hu => wpAny_bind (wpAny_standAt (wpAny_pure ?_))) fun _ _ x => x))))
  obtain ⟨a, oe, vs, sI, H', cls, d, rfl, J, k, hne, ha, hz, hd, h1, na, os, ag, r, q⟩ := hu
  obtain ⟨r1, r2⟩ := r (model X.prog X.w) s1.heap (J.kIn.keeps k)
  obtain ⟨P1, P2, P3, P4, -⟩ := J.pin p (List.mem_append_left _ hp)
  have nap : p.1 ≠ a := by
    intro z
    rw [z, hne] at P1
    cases P1
  have hi : 2 < vs.size := (Array.getElem?_eq_some_iff.mp (hz.2.2 vs hd)).1
  have g1 : (vs.setIfInBounds 2 (Value.ref p.1))[1]? = some Value.none := by
    have e3 : (vs.setIfInBounds 2 (Value.ref p.1))[1]? = vs[1]? := by
      first | exact Array.getElem?_setIfInBounds_ne (by decide) | simp [Array.getElem?_setIfInBounds]
    exact e3.trans h1
  have g2 : (vs.setIfInBounds 2 (Value.ref p.1))[2]? = some (Value.ref p.1) := by
    first | exact Array.getElem?_setIfInBounds_self_of_lt hi | simp [Array.getElem?_setIfInBounds, hi]
  have pS : p.1 ∉ frs X.stack := fun hm => (List.mem_cons.mp (J.stkSub p.1 hm)).elim P3 P4
  have dn := Obj.data_mapFields hd (·.setIfInBounds 2 (Value.ref p.1))
  refine ⟨a, oe, vs, cls, rfl, ha, hz.1, hd, h1, hi, nap, ⟨hh, p.2, v1, k _ _ P1, e1, c1⟩, r1, r2, tk _ _ (XEq.new J (fun b u z => ?_) hne (Heap.get?_update_self _ ha (Obj.isFreed_of_fields dn)) ⟨(Obj.cls_mapFields ..).trans hz.1, (HandSPX.dict_mapFields ..).trans hz.2.1, fun v2 e2 => ?_⟩ dn g1 na os ag q)⟩
  · have nab : a ≠ b := by
      intro y
      rw [← y, hne] at z
      cases z
    show (s1.heap.update a (Obj.mapFields (·.setIfInBounds 2 (.ref p.1)))).get? b = some u
    exact (Heap.get?_update_other _ _ nab).trans (k b u z)
  · refine ⟨[p], ⟨_, dn, .inr ⟨p, v1, rfl, g2, e1, c1⟩⟩, fun q hq => ?_⟩
    have eq : q = p := by simpa using hq
    rw [eq]
    exact ⟨PySem.W.hideAll_get _ P1 pS, P2⟩
/-! ### a try whose clause names what is raised, for sure -/
def wSure (K : PySem.W.Frag) (c : Value) (ts : TS) (D : Ends) : WX := fun cls d σ H => PySem.W.exmOne K cls c = some true ∧ ∀ a, H a = none → ts D σ H
def wSureAs (K : PySem.W.Frag) (c : Value) (i : Nat) (ts : Addr → Value → Option Addr → TS) (D : Ends) : WX := fun cls d σ H =>
  PySem.W.exmOne K cls c = some true ∧ ∀ a, H a = none → ts a cls d { nx := fun σ' H' => D.nx (σ'.set i none) H', rt := D.rt, bk := fun σ' H' => D.bk (σ'.set i none) H', ct := fun σ' H' => D.ct (σ'.set i none) H' } (σ.set i (some (.ref a))) H
section
variable {X : Cx} {x n : Str} {c : Value} {i : Nat} {body suite : List Stmt} {b₀ : Stmt} {np pos pos' : Pos} {tb : WX → TS} {Wout : WX}
theorem ps_try_sureQ {ts : TS} (hs : X.stack = X.env :: X.outer) (hf : X.env.frame = some X.env.locals) (hc : Names X x c) (hpa : ∀ hd : Option Value, PassesOwnAt (model X.prog X.w) (X.A.mark hd) X.A X.env X.xe) (tk : TakesQ X Wout)
    (hb : ∀ (W : WX) (pn : List (Addr × Obj)) (xe : Value → Shared → Prop), L2N.Takes (X.tr pn xe) W → PassesOwn (model X.prog X.w) X.A X.env xe → PSs (X.tr pn xe) body (tb W))
    (hsu : ∀ (a : Addr) (oe : Obj) (pn : List (Addr × Obj)), TakesQ (L2H.suiteX X a ((a, oe) :: pn)) Wout → L2H.HotC (L2H.suiteX X a ((a, oe) :: pn)) → PSs (L2H.suiteX X a ((a, oe) :: pn)) (b₀ :: suite) ts) :
    PS X (.Try body [.ExceptHandler (some (.Name x np)) none (b₀ :: suite) pos'] [] [] pos) (fun D σ H => tb (wSure X.K c ts D) D σ H) := by
  refine ⟨fun pins s σ H D I h => ?_⟩
  have ok := I.ok
  have hfr : X.A.frames = some (X.env :: X.outer) := by rw [ok.frames, hs]
  refine wpAny_Try_except (wpAny_mono ((hb (wSure X.K c ts D) (X.pn ++ pins) (fun e s₁ => wpAny (model X.prog X.w) X.A (noteFrame e X.env) (fun _ s₂ => wpAny (model X.prog X.w) X.A (setFlight e none) (fun _ s₃ =>
    wpAny (model X.prog X.w) X.A (handleBy e X.env [.ExceptHandler (some (.Name x np)) none (b₀ :: suite) pos']) (SP X pins D) X.xe s₃) X.xe s₂) X.xe s₁) (fun u s' xx => ?_) PassesOwn.looking).run [] s σ H D (I.toTry _) h) (fun f s1 hsp => ?_) (fun e s1 he => he))
  · obtain ⟨a, B, sI, pins', σ', H', cls, d, rfl, J', nb, up, sky, na, os, ag, hb1, hyes⟩ := xx
    have J : Inv X pins σ' H' sI := J'.ofTry ok
    have sky' : Sky B (X.env :: X.outer) a (L2N.Zn cls d) X.env.locals s'.heap := by rw [← hs]; exact sky
    show wpAny (model X.prog X.w) X.A (noteFrame (.ref a) X.env) _ _ _
    refine L2N.Sky.land L2N.Zn.steady hfr hf sky' fun h3 fl3 up3 => ?_
    have J3 : Inv X pins σ' H' { s' with heap := h3 } := J.landed nb fl3.1 (up.trans up3) os ag
    obtain ⟨oe3, vs3, he3, hz3, hd3⟩ := fl3.there
    have nfr : a ∉ frs (X.env :: X.outer) := fun hm => by
      obtain ⟨_, o', e', hnf⟩ := fl3.2.2.1.mem hm
      cases he3.symm.trans e'
      exact hnf _ hd3
    have nL : a ≠ X.env.locals := fun z => nfr (List.mem_filterMap.mpr ⟨X.env, List.mem_cons_self, by rw [hf, z]⟩)
    have nF : a ∉ X.fs := fun hm => by
      obtain ⟨e, he, q⟩ := List.mem_filterMap.mp hm
      exact nfr (List.mem_filterMap.mpr ⟨e, List.mem_cons_of_mem _ he, q⟩)
    have S3 := J3.suite he3 hd3 na nL nF
    have LT : PySem.W.Looks (model X.prog X.w) h3 (typeOf (.ref a)) cls := fun A Q E s k q => wpAny_typeOf_ref (k _ _ he3) (by rw [hz3.1]; exact q)
    have LM := PySem.W.exm_one (M := model X.prog X.w) (J3.kIn) LT hb1
    have test : ∀ {Q E : Value → Shared → Prop}, Q c { s' with heap := h3 } → wpAny (model X.prog X.w) (X.A.mark (some (.ref a))) (eval (.Name x np) X.env) Q E { s' with heap := h3 } := by
      intro Q E q
      obtain ⟨hg, hdbg, hm | ⟨hm, hv, hnn⟩⟩ := hc
      · exact ld_glob (X := X.suite a ((a, oe3) :: (X.pn ++ pins))) S3 hg hm q hdbg
      · exact ld_blt (X := X.suite a ((a, oe3) :: (X.pn ++ pins))) S3 hg hm hv q hnn hdbg
    refine wpAny_handleBy_cons (codeAny_handlers_test (test (LM.here (codeAny_handlers_suite (HandSPX.lands_againZ fl3 fun h4 fl4 up4 => ?_))))) (by intro q; cases q)
    have J4 : Inv X pins σ' H' { s' with heap := h4 } := J.landed nb fl4.1 ((up.trans up3).trans up4) os ag
    obtain ⟨oe4, vs4, he4, hz4, hd4⟩ := fl4.there
    have S4 := J4.suite he4 hd4 na nL nF
    have tkS : TakesQ (L2H.suiteX X a ((a, oe4) :: (X.pn ++ pins))) Wout := by
      rintro u2 s2 ⟨a2, B2, sI2, pn2, σ2, H2, cls2, d2, e2, I2, r2⟩
      exact tk u2 s2 ⟨a2, B2, sI2, pins, σ2, H2, cls2, d2, e2, L2H.unsuiteX I2 ok, r2⟩
    have hot : L2H.HotC (L2H.suiteX X a ((a, oe4) :: (X.pn ++ pins))) := ⟨(a, oe4), ⟨rfl, vs4, hd4, hz4.2.2 vs4 hd4⟩, List.mem_cons_self⟩
    refine wpAny_mono ((hsu a oe4 (X.pn ++ pins) tkS hot).run [] _ _ H' _ (L2H.suiteX_of S4) (hyes a na)) (fun f s6 hsp => ?_) (fun e6 s6 z => hpa (some (.ref a)) e6 s6 z)
    rcases f with _ | _ | _ | u
    case ret => obtain ⟨v6, σ6, H6, S6, r6, q6⟩ := hsp; exact ⟨_, _, _, L2H.unsuiteX S6 ok, r6, q6⟩
    all_goals (obtain ⟨σ6, H6, S6, q6⟩ := hsp; exact ⟨_, _, L2H.unsuiteX S6 ok, q6⟩)
  · rcases f with _ | _ | _ | u
    case next => obtain ⟨σ', H', J', q⟩ := hsp; exact wpAny_execs_nil ⟨σ', H', J'.ofTry ok, q⟩
    case ret => obtain ⟨v, σ', H', J', r, q⟩ := hsp; exact ⟨v, σ', H', J'.ofTry ok, r, q⟩
    all_goals (obtain ⟨σ', H', J', q⟩ := hsp; exact ⟨σ', H', J'.ofTry ok, q⟩)
theorem Ctx2.fields {o : Obj} {l : List (Addr × Obj)} (h : Ctx2 o l) : ∀ q ∈ l, ∃ vs, q.2.data = .fields vs := by
  obtain ⟨vs, -, ⟨rfl, -⟩ | ⟨p, v2, rfl, -, d, -⟩⟩ := h
  · exact fun _ z => nomatch z
  · intro q hq
    have e : q = p := by simpa using hq
    exact ⟨v2, e ▸ d⟩
section
variable {pins pn' : List (Addr × Obj)} {σ : L2.St} {H : Hp} {s : Shared}
theorem inv_suiteQ (I : Inv X pins σ H s) {a : Addr} (h : ∀ p ∈ pn', s.heap.get? p.1 = some p.2 ∧ H p.1 = none ∧ p.1 ≠ X.env.locals ∧ p.1 ∉ X.fs ∧ ∀ v, p.2.data ≠ .cell v) : Inv (X.suite a (pn' ++ (X.pn ++ pins))) [] σ H s :=
  ⟨I.ok.suite _ _, I.os, I.bare, I.base, I.loc, I.cell, I.free, I.freeC, fun p hp => by
    rw [List.append_nil] at hp
    rcases List.mem_append.mp hp with z | z
    · exact h p z
    · exact I.pin p z, I.hok, I.len⟩
theorem inv_unsuiteQ {a : Addr} {pn2 : List (Addr × Obj)} (I : Inv (X.suite a (pn' ++ (X.pn ++ pins))) pn2 σ H s) (ok : X.Ok) : Inv X pins σ H s :=
  ⟨ok, I.os, I.bare, I.base, I.loc, I.cell, I.free, I.freeC, fun p hp => I.pin p (List.mem_append_left _ (List.mem_append_right _ hp)), I.hok, I.len⟩
end
theorem ps_try_asQ {ts : Addr → Value → Option Addr → TS} (hs : X.stack = X.env :: X.outer) (hf : X.env.frame = some X.env.locals) (hN : X.N.Nodup) (hi : X.N[i]? = some n) (hln : X.env.kindOf n = some .local) (hc : Names X x c)
    (hb : ∀ (W : WX) (pn : List (Addr × Obj)) (xe : Value → Shared → Prop), TakesQ (X.tr pn xe) W → PassesOwn (model X.prog X.w) X.A X.env xe → PSs (X.tr pn xe) body (tb W))
    (hsu : ∀ (a : Addr) (oe : Obj) (cls : Value) (d : Option Addr) (pn : List (Addr × Obj)), (a, oe) ∈ pn → Zc cls d oe → (∃ vs, oe.data = .fields vs) → HotQ (X.suite a pn) → PSs (X.suite a pn) (b₀ :: suite) (ts a cls d)) :
    PS X (.Try body [.ExceptHandler (some (.Name x np)) (some n) (b₀ :: suite) pos'] [] [] pos) (fun D σ H => tb (wSureAs X.K c i ts D) D σ H) := by
  refine ⟨fun pins s σ H D I h => ?_⟩
  have ok := I.ok
  have hfr : X.A.frames = some (X.env :: X.outer) := by rw [ok.frames, hs]
  refine wpAny_Try_except (wpAny_mono ((hb (wSureAs X.K c i ts D) (X.pn ++ pins) (fun e s₁ => wpAny (model X.prog X.w) X.A (noteFrame e X.env) (fun _ s₂ => wpAny (model X.prog X.w) X.A (setFlight e none) (fun _ s₃ =>
    wpAny (model X.prog X.w) X.A (handleBy e X.env [.ExceptHandler (some (.Name x np)) (some n) (b₀ :: suite) pos']) (SP X pins D) X.xe s₃) X.xe s₂) X.xe s₁) (fun u s' xx => ?_) PassesOwn.looking).run [] s σ H D (I.toTry _) h) (fun f s1 hsp => ?_) (fun e s1 he => he))
  · obtain ⟨a, B, sI, pins', σ', H', cls, d, rfl, J', nb, up, sky, na, os, ag, hb1, hyes⟩ := xx
    have J : Inv X pins σ' H' sI := J'.ofTry ok
    have sky' : Sky B (X.env :: X.outer) a (Zq B H' cls d) X.env.locals s'.heap := by rw [← hs]; exact sky
    show wpAny (model X.prog X.w) X.A (noteFrame (.ref a) X.env) _ _ _
    refine L2N.Sky.land Zq.steady hfr hf sky' fun h3 fl3 up3 => ?_
    have J3 : Inv X pins σ' H' { s' with heap := h3 } := J.landed nb fl3.1 (up.trans up3) os ag
    obtain ⟨oe3, vs3, he3, hz3, hd3⟩ := fl3.there
    have notS : ∀ {b : Addr}, b ∉ frs (X.env :: X.outer) → b ≠ X.env.locals ∧ b ∉ X.fs := fun {b} nb => ⟨fun z => nb (List.mem_filterMap.mpr ⟨X.env, List.mem_cons_self, by rw [hf, z]⟩), fun hm => by
      obtain ⟨e, he, q⟩ := List.mem_filterMap.mp hm
      exact nb (List.mem_filterMap.mpr ⟨e, List.mem_cons_of_mem _ he, q⟩)⟩
    obtain ⟨nL, nF⟩ := notS (b := a) fun hm => by
      obtain ⟨_, o', e', hnf⟩ := fl3.2.2.1.mem hm
      cases he3.symm.trans e'
      exact hnf _ hd3
    have S3 := J3.suite he3 hd3 na nL nF
    have LT : PySem.W.Looks (model X.prog X.w) h3 (typeOf (.ref a)) cls := fun A Q E s k q => wpAny_typeOf_ref (k _ _ he3) (by rw [hz3.1]; exact q)
    have LM := PySem.W.exm_one (M := model X.prog X.w) (J3.kIn) LT hb1
    have test : ∀ {Q E : Value → Shared → Prop}, Q c { s' with heap := h3 } → wpAny (model X.prog X.w) (X.A.mark (some (.ref a))) (eval (.Name x np) X.env) Q E { s' with heap := h3 } := by
      intro Q E q
      obtain ⟨hg, hdbg, hm | ⟨hm, hv, hnn⟩⟩ := hc
      · exact ld_glob (X := X.suite a ((a, oe3) :: (X.pn ++ pins))) S3 hg hm q hdbg
      · exact ld_blt (X := X.suite a ((a, oe3) :: (X.pn ++ pins))) S3 hg hm hv q hnn hdbg
    refine wpAny_handleBy_cons (codeAny_handlers_test (test (LM.here (codeAny_handlers_suite_as (HandSPX.lands_againZ fl3 fun h4 fl4 up4 => ?_))))) (by intro q; cases q)
    have J4 : Inv X pins σ' H' { s' with heap := h4 } := J.landed nb fl4.1 ((up.trans up3).trans up4) os ag
    obtain ⟨oe4, vs4, he4, hz4, hd4⟩ := fl4.there
    obtain ⟨l, c4, hl⟩ := hz4.2.2 vs4 hd4
    have S4 : Inv (X.suite a (((a, oe4) :: l) ++ (X.pn ++ pins))) [] σ' H' { s' with heap := h4 } := by
      refine inv_suiteQ J4 fun p hp => ?_
      rcases List.mem_cons.mp hp with rfl | hp
      · exact ⟨he4, na, nL, nF, fun v z => by cases hd4.symm.trans z⟩
      · obtain ⟨g1, g2⟩ := hl p hp
        obtain ⟨v5, e5⟩ := c4.fields p hp
        obtain ⟨m1, m2⟩ := notS (b := p.1) fun hm => by
          obtain ⟨g, _⟩ := fl4.2.2.1.mem hm
          cases g1.symm.trans g
        exact ⟨fl4.1 _ _ g1, g2, m1, m2, fun v z => by cases e5.symm.trans z⟩
    refine store_ok (X := X.suite a (((a, oe4) :: l) ++ (X.pn ++ pins))) (v := .ref a) S4 hN hi (.inl hln) rfl (fun s5 S5 => ?_) (.inr hln)
    have hot : HotQ (X.suite a (((a, oe4) :: l) ++ (X.pn ++ pins))) := ⟨a, oe4, l, rfl, List.mem_cons_self, c4, fun q hq => List.mem_append_left _ (List.mem_cons_of_mem _ hq)⟩
    refine wpAny_mono ((hsu a oe4 cls d _ List.mem_cons_self hz4.zc ⟨_, hd4⟩ hot).run [] s5 _ H' _ S5 (hyes a na)) (fun f s6 hsp => ?_) (fun _ _ z => False.elim z)
    have end_ : ∀ {σ6 : L2.St} {H6 : Hp} {Q : Shared → Prop}, Inv (X.suite a (((a, oe4) :: l) ++ (X.pn ++ pins))) [] σ6 H6 s6 → (∀ s7, Inv X pins (σ6.set i none) H6 s7 → Q s7) → wpAny (model X.prog X.w) X.A (do bindName X.env n .none; unbindBehindTheSuite X.env n pos') (fun _ s7 => Q s7) X.xe s6 :=
      fun {σ6 H6 Q} S6 hq => gone_ok (inv_unsuiteQ S6 ok) hN hi hln hq
    rcases f with _ | _ | _ | u
    case ret => obtain ⟨v6, σ6, H6, S6, r6, q6⟩ := hsp; exact end_ S6 fun s7 J7 => ⟨_, _, _, J7, r6, q6⟩
    all_goals (obtain ⟨σ6, H6, S6, q6⟩ := hsp; exact end_ S6 fun s7 J7 => ⟨_, _, J7, q6⟩)
  · rcases f with _ | _ | _ | u
    case next => obtain ⟨σ', H', J', q⟩ := hsp; exact wpAny_execs_nil ⟨σ', H', J'.ofTry ok, q⟩
    case ret => obtain ⟨v, σ', H', J', r, q⟩ := hsp; exact ⟨v, σ', H', J'.ofTry ok, r, q⟩
    all_goals (obtain ⟨σ', H', J', q⟩ := hsp; exact ⟨σ', H', J'.ofTry ok, q⟩)
end
/-! ### in the readings' form -/
theorem passQ0 {X : Cx} : Passes (CXq X.prog X.w) X E0 := by
  rintro pins σ H s e s' I ⟨_, _, _, _, _, _, _, _, _, _, _, _, z⟩
  exact z.elim
theorem ps_raiseQx {X : Cx} {W : WX} {x m : Str} {j : Nat} {p p2 p3 pos : Pos} (hc : L2H.HotC X) (tk : TakesQ X W) (F : ExcF X.K x) (g : X.mg x = some (.ref (He.ga X.K x))) (hg : Gl X x := by rfl) (hdb : (x == ("__debug__" : Str)) = false := by decide) :
    PS X (.Raise (some (.Call (.Name x p) [.Constant (.str m) j p2] [] p3)) none pos) (tRaise W (He.ga X.K x)) :=
  ps_raiseQ hc tk (L2N.pmk_own PySem.F.excBase_ValueError F.q g F.k (raises_own F.s F.t) hg hdb)
def tTrySure (K : PySem.W.Frag) (C : Addr) (ts : TS) (tb : WX → TS) : TS := fun D σ H => tb (wSure K (.ref C) ts D) D σ H
def tTryAsQ (K : PySem.W.Frag) (C : Addr) (i : Nat) (tb : WX → TS) (ts : Addr → Value → Option Addr → TS) : TS := fun D σ H => tb (wSureAs K (.ref C) i ts D) D σ H
section
variable {X : Cx} {x n : Str} {C : Addr} {i : Nat} {body suite : List Stmt} {b₀ : Stmt} {np pos pos' : Pos} {tb : WX → TS} {Wout : WX}
theorem ps_trySure {ts : TS} (hs : X.stack = X.env :: X.outer) (hf : X.env.frame = some X.env.locals) (hc : Names X x (.ref C)) (hpa : ∀ hd : Option Value, PassesOwnAt (model X.prog X.w) (X.A.mark hd) X.A X.env X.xe) (tk : TakesQ X Wout)
    (hb : ∀ (W : WX) (pn : List (Addr × Obj)) (xe : Value → Shared → Prop), L2N.Takes (X.tr pn xe) W → PassesOwn (model X.prog X.w) X.A X.env xe → PSs (X.tr pn xe) body (tb W))
    (hsu : ∀ (a : Addr) (oe : Obj) (pn : List (Addr × Obj)), TakesQ (L2H.suiteX X a ((a, oe) :: pn)) Wout → L2H.HotC (L2H.suiteX X a ((a, oe) :: pn)) → PSs (L2H.suiteX X a ((a, oe) :: pn)) (b₀ :: suite) ts) :
    PS X (.Try body [.ExceptHandler (some (.Name x np)) none (b₀ :: suite) pos'] [] [] pos) (tTrySure X.K C ts tb) := ps_try_sureQ hs hf hc hpa tk hb hsu
theorem ps_tryAsQ {ts : Addr → Value → Option Addr → TS} (hs : X.stack = X.env :: X.outer) (hf : X.env.frame = some X.env.locals) (hN : X.N.Nodup) (hi : X.N[i]? = some n) (hln : X.env.kindOf n = some .local) (hc : Names X x (.ref C))
    (hb : ∀ (W : WX) (pn : List (Addr × Obj)) (xe : Value → Shared → Prop), TakesQ (X.tr pn xe) W → PassesOwn (model X.prog X.w) X.A X.env xe → PSs (X.tr pn xe) body (tb W))
    (hsu : ∀ (a : Addr) (oe : Obj) (cls : Value) (d : Option Addr) (pn : List (Addr × Obj)), (a, oe) ∈ pn → Zc cls d oe → (∃ vs, oe.data = .fields vs) → HotQ (X.suite a pn) → PSs (X.suite a pn) (b₀ :: suite) (ts a cls d)) :
    PS X (.Try body [.ExceptHandler (some (.Name x np)) (some n) (b₀ :: suite) pos'] [] [] pos) (tTryAsQ X.K C i tb ts) := ps_try_asQ hs hf hN hi hln hc hb hsu
end
/-- isinstance of the handled exception, whatever its class -/
def rIsQ (K : PySem.W.Frag) (a : Addr) (cls : Value) (d : Option Addr) : List V → Hp → VK → Prop := fun xs H Q => ∃ D, cls = .ref D ∧ d = none ∧ ExcC K D ∧ rIsE K D a xs H Q
theorem call_isQ {X : Cx} {a : Addr} {oe : Obj} {cls : Value} {d : Option Addr} (hp : (a, oe) ∈ X.pn) (hz : Zc cls d oe) (hf : ∃ vs, oe.data = .fields vs) : CallR X (.builtin "isinstance") (rIsQ X.K a cls d) := by
  rintro pins s σ H xs us Q I r ⟨D, rfl, rfl, C, h⟩
  exact call_isP hp C hz hf pins s σ H xs us Q I r h
theorem pe_callN0 {X : Cx} {CX : CXT} {k : Nat} {x : Str} {sp : Sp} {E : XK} {p pos : Pos} (F : FnB X.prog X.w X.K X.mg X.base CX k (x, none) [] sp) (hm : X.mg x = some (.ref (He.ga X.K x))) (hr : Room k X.A) (hx : Passes CX X E) (hg : Gl X x := by rfl) (hdb : (x == ("__debug__" : Str)) = false := by decide) :
    PE X (.Call (.Name x p) [] [] pos) (tCall sp [] E tNil) := by
  obtain ⟨⟨fd, F, b⟩, kp⟩ := F
  exact pe_call0 F hr hg hm kp b .nil hx hdb
/-! ### methods of texts -/
abbrev qSplit : V → List V → Hp → VK → Prop := fun x xs H Q => ∃ a b, x = .str a ∧ xs = [.str b] ∧ (b.length == 0) = false ∧ a.length + 2 ≤ sizeLine ∧ rNewStrs (Txt.split a b) H Q
abbrev qPartition : V → List V → Hp → VK → Prop := fun x xs H Q => ∃ a b, x = .str a ∧ xs = [.str b] ∧ (b.length == 0) = false ∧ a.length ≤ sizeLine ∧ ∀ p, H p = none → Q (.ref p) (upd H p (.tup [.str (Txt.partition a b).1, .str (Txt.partition a b).2.1, .str (Txt.partition a b).2.2]))
abbrev qStripC : V → List V → Hp → VK → Prop := fun x xs H Q => ∃ a b, x = .str a ∧ xs = [.str b] ∧ a.length ≤ sizeLine ∧ Q (.str (Txt.stripChars a b)) H
abbrev qStarts : V → List V → Hp → VK → Prop := fun x xs H Q => ∃ a b, x = .str a ∧ xs = [.str b] ∧ Q (.bl (Txt.startswith a b)) H
abbrev qLenS : List V → Hp → VK → Prop := fun xs H Q => ∃ z, xs = [.str z] ∧ z.length ≤ sizeLine ∧ Q (.int z.length) H
abbrev qIntS : List V → Hp → VK → Prop := fun xs H Q => ∃ a n, xs = [.str a] ∧ PySem.intText? a = some n ∧ a.length ≤ 640 ∧ Q (.int n) H
section
variable {X : Cx} {o e : Expr} {to te : TE} {apos pos : Pos}
theorem pe_stripC (ho : PE X o to) (he : PE X e te) (hs : starEach [e] X.env = [(false, eval e X.env)] := by rfl) (hbase : attributeBase o "strip" X.env (eval o X.env) = eval o X.env := by rfl) (hline : (apos.endLine == pos.line) = true := by rfl) :
    PE X (.Call (.Attribute o "strip" apos) [e] [] pos) (tM1 qStripC to te) := pe_m1 F.slot_str_strip F.type_str_strip mt_stripChars ho he hs hbase hline
theorem pe_starts (ho : PE X o to) (he : PE X e te) (hs : starEach [e] X.env = [(false, eval e X.env)] := by rfl) (hbase : attributeBase o "startswith" X.env (eval o X.env) = eval o X.env := by rfl) (hline : (apos.endLine == pos.line) = true := by rfl) :
    PE X (.Call (.Attribute o "startswith" apos) [e] [] pos) (tM1 qStarts to te) := pe_m1 F.slot_str_startswith F.type_str_startswith mt_startswith ho he hs hbase hline
end
end Spn

namespace Spn
open PySem PySem.Spec PyProof.Rows L2
/-! ### texts read, what the defs promise -/
/-- a text that is not too long -/
def TxtOk (x : Str) : Prop := x.length ≤ 40000 ∧ (wordsT x).length ≤ 1000
def optI : Option Int → V
  | none => .non
  | some i => .int i
/-- no text -/
def NoTx (H : Hp) (v : V) : Prop := v = .non ∨ (∃ i, v = .int i) ∨ (∃ b, v = .bl b) ∨ ∃ a xs, v = .ref a ∧ H a = some (.lst xs)
def sp_number_in (K : PySem.W.Frag) (w : World) : Sp := fun vs H Q E => ∃ x, vs = [.str x] ∧ x.length ≤ 40000 ∧ NoT H ∧ (∀ i, numT x = some i → Q (.int i) H) ∧ (numT x = none → Rf K H E "BadText")
def sp_read (K : PySem.W.Frag) (w : World) : Sp := fun vs H Q E => ∃ v, vs = [v] ∧ NoT H ∧ ((NoTx H v ∧ Rf K H E "BadText") ∨ ∃ x, v = .str x ∧ TxtOk x ∧ (readT x = none → Rf K H E "BadText") ∧
  ∀ rs, readT x = some rs → ∀ H' a, Same H H' → NoT H' → H a = none → ReqsAt H' a rs → Q (.ref a) H')
def sp__law_number (K : PySem.W.Frag) (w : World) : Sp := fun vs H Q _ => ∃ x, vs = [.str x] ∧ x.length ≤ 40000 ∧ NoT H ∧ Q (optI (numT x)) H
def sp__law_in (K : PySem.W.Frag) (w : World) : Sp := fun vs H Q _ => ∃ x, vs = [.str x] ∧ TxtOk x ∧ NoT H ∧ (readT x = none → Q .non H) ∧ ∀ rs, readT x = some rs → ∀ H' a, Same H H' → NoT H' → H a = none → ReqsAt H' a rs → Q (.ref a) H'
def sp__law_refused (K : PySem.W.Frag) (w : World) : Sp := fun vs H Q _ => ∃ v, vs = [v] ∧ NoT H ∧ (NoTx H v ∨ ∃ x, v = .str x ∧ TxtOk x ∧ readT x = none) ∧ Q (.bl true) H
def sp__law_right (K : PySem.W.Frag) (w : World) : Sp := fun vs H Q _ => ∃ x, vs = [.str x] ∧ TxtOk x ∧ NoT H ∧ Q (.bl true) H
def sp__law_few (K : PySem.W.Frag) (w : World) : Sp := fun vs H Q _ => vs = [] ∧ NoT H ∧ ∀ (p : Addr) (xs : List Str), H p = none → (∀ x ∈ xs, TxtOk x) → xs.length ≤ 100 → Q (.ref p) (upd H p (.lst (xs.map V.str)))
end Spn

namespace Spn
open PySem PySem.Spec PyProof.Rows L2
/-! ### readings -/
/-- number_in -/
def t_number_in (K : PySem.W.Frag) (w : World) (E : XK) : TS :=
  (tSeq (tAsg (tVar 0) (gName 1))
  (tSeq (tIfS (tB (tM1 qStarts (tVar 0) (tC (.str "-")))) (tAsg (L2.tSl rSlS (tVar 0) (tPart (tC (.int 1))) tNoPart) (gName 1)) tNext)
  (tSeq (tIfS (tOr (tNot (tTest (tChain qLe qLe (tC (.int 1)) (tCB qLenS (tCons (tVar 1) tNil)) (tC (.int 60))))) (tOr (tTest (tOp rNe (tM1 qStripC (tVar 1) (tC (.str v_FIGURES))) (tC (.str "")))) (tAnd (tTest (tOp rEq (tOp rIxS (tVar 1) (tC (.int 0))) (tC (.str "0")))) (tTest (tOp rNe (tVar 0) (tC (.str "0"))))))) (tRaise (wE E) (He.ga K "BadText")) tNext)
  (tRet (tCB qIntS (tCons (tVar 0) tNil))))))

/-- read -/
def t_read (K : PySem.W.Frag) (w : World) (E : XK) : TS :=
  (tSeq (tIfS (tNot (tB (tCB (rIsi K) (tCons (tVar 0) (tCons (tC (.ty "str")) tNil))))) (tRaise (wE E) (He.ga K "BadText")) tNext)
  (tSeq (tIfS (tTest (tOp rEq (tVar 0) (tC (.str "-")))) (tRet (tLst tNil)) tNext)
  (tSeq (tAsg (tLst tNil) (gName 1))
  (tSeq (tFor (iList K (tM1 qSplit (tVar 0) (tC (.str " ")))) (gName 2) (tSeq (tAsg (tM1 qPartition (tVar 2) (tC (.str ":"))) (gTup K 3 (gCons (gName 3) (gCons (gName 4) (gCons (gName 5) gNil)))))
  (tSeq (tAsg (tM1 qPartition (tVar 3) (tC (.str ".."))) (gTup K 3 (gCons (gName 6) (gCons (gName 7) (gCons (gName 8) gNil)))))
  (tDrop (tBM K "list" rAppend (tVar 1) (tCons (tTup (tCons (tCallS (sp_number_in K w) (WE (wE E)) (tCons (tVar 6) tNil)) (tCons (tCallS (sp_number_in K w) (WE (wE E)) (tCons (tVar 8) tNil)) (tCons (tCallS (sp_number_in K w) (WE (wE E)) (tCons (tVar 5) tNil)) tNil)))) tNil))))))
  (tSeq (tTrySure K (He.ga K "BadRequests") (tRaise (wE E) (He.ga K "BadText")) (fun W => (tDrop (tCallS (sp_check_requestsX K w) (WE W) (tCons (tVar 1) tNil)))))
  (tRet (tVar 1)))))))

/-- _law_number -/
def t__law_number (K : PySem.W.Frag) (w : World) : TS :=
  (tSeq (tAsg (tIf (tTest (tOp rEq (L2.tSl rSlS (tVar 0) tNoPart (tPart (tC (.int 1)))) (tC (.str "-")))) (L2.tSl rSlS (tVar 0) (tPart (tC (.int 1))) tNoPart) (tVar 0)) (gName 1))
  (tSeq (tIfS (tOr (tTest (tOp rEq (tVar 1) (tC (.str "")))) (tOr (tTest (tOp qGt (tCB qLenS (tCons (tVar 1) tNil)) (tC (.int 60)))) (tOr (tTest (tOp rNe (tM1 qStripC (tVar 1) (tC (.str "0123456789"))) (tC (.str "")))) (tAnd (tTest (tOp rEq (tOp rIxS (tVar 1) (tC (.int 0))) (tC (.str "0")))) (tTest (tOp rNe (tVar 0) (tC (.str "0")))))))) (tRet (tC .non)) tNext)
  (tRet (tCB qIntS (tCons (tVar 0) tNil)))))

/-- _law_in -/
def t__law_in (K : PySem.W.Frag) (w : World) : TS :=
  (tSeq (tAsg (tLst tNil) (gName 1))
  (tSeq (tFor (iList K (tIf (tTest (tOp rNe (tVar 0) (tC (.str "-")))) (tM1 qSplit (tVar 0) (tC (.str " "))) (tLst tNil))) (gName 2) (tSeq (tAsg (tM1 qPartition (tVar 2) (tC (.str ":"))) (gTup K 3 (gCons (gName 3) (gCons (gName 4) (gCons (gName 5) gNil)))))
  (tSeq (tAsg (tM1 qPartition (tVar 3) (tC (.str ".."))) (gTup K 3 (gCons (gName 6) (gCons (gName 7) (gCons (gName 8) gNil)))))
  (tSeq (tAsg (tTup (tCons (tCall (sp__law_number K w) [] E0 (tCons (tVar 6) tNil)) (tCons (tCall (sp__law_number K w) [] E0 (tCons (tVar 8) tNil)) (tCons (tCall (sp__law_number K w) [] E0 (tCons (tVar 5) tNil)) tNil)))) (gName 9))
  (tSeq (tIfS (tOr (tTest (tOp (rIn K false) (tC .non) (tVar 9))) (tOr (tTest (tOp qGt (tOp (rIxT K) (tVar 9) (tC (.int 0))) (tOp (rIxT K) (tVar 9) (tC (.int 1))))) (tTest (tOp qLt (tOp (rIxT K) (tVar 9) (tC (.int 2))) (tC (.int 0)))))) (tRet (tC .non)) tNext)
  (tDrop (tBM K "list" rAppend (tVar 1) (tCons (tVar 9) tNil))))))))
  (tRet (tVar 1))))

/-- _law_refused -/
def t__law_refused (K : PySem.W.Frag) (w : World) : TS :=
  (tSeq (tTryAsQ K (He.ga K "SpanError") 1 (fun W => (tDrop (tCallS (sp_read K w) (WE W) (tCons (tVar 0) tNil)))) (fun a cls d => (tSeq (tAsg (tLst (tCons (tCB (rIsQ K a cls d) (tCons (tVar 1) (tCons (tC (.ref (He.ga K "BadDays"))) tNil))) (tCons (tCB (rIsQ K a cls d) (tCons (tVar 1) (tCons (tC (.ref (He.ga K "BadRequests"))) tNil))) (tCons (tCB (rIsQ K a cls d) (tCons (tVar 1) (tCons (tC (.ref (He.ga K "BadRooms"))) tNil))) tNil)))) (gName 2))
  (tRet (tAndV (tCB (rIsQ K a cls d) (tCons (tVar 1) (tCons (tC (.ref (He.ga K "BadText"))) tNil))) (tAndV (tCB (rIsQ K a cls d) (tCons (tVar 1) (tCons (tC (.ty "ValueError")) tNil))) (tNotV (tCB (rAny K) (tCons (tVar 2) tNil)))))))))
  (tRet (tC (.bl false))))

/-- _law_right -/
def t__law_right (K : PySem.W.Frag) (w : World) : TS :=
  (tSeq (tAsg (tCall (sp__law_in K w) [] E0 (tCons (tVar 0) tNil)) (gName 1))
  (tSeq (tIfS (tB (tIsN (tVar 1))) (tRet (tCall (sp__law_refused K w) [] E0 (tCons (tVar 0) tNil))) tNext)
  (tSeq (tAsg (tCall (sp_read K w) [] E0 (tCons (tVar 0) tNil)) (gName 2))
  (tSeq (tIfS (tOr (tNot (tB (tCB (rIsi K) (tCons (tVar 2) (tCons (tC (.ty "list")) tNil))))) (tOr (tTest (tOp (rNeD K) (tVar 2) (tVar 1))) (tTest (tOp rNe (tCall (sp_writtenX K w) [] E0 (tCons (tVar 2) tNil)) (tVar 0))))) (tRet (tC (.bl false))) tNext)
  (tSeq (tDrop (tBM K "list" rAppend (tVar 2) (tCons (tTup (tCons (tC (.int 0)) (tCons (tC (.int 0)) (tCons (tC (.int 0)) tNil)))) tNil)))
  (tRet (tOp (rEqD K) (tCall (sp_read K w) [] E0 (tCons (tVar 0) tNil)) (tVar 1))))))))

/-- _law_few -/
def t__law_few (K : PySem.W.Frag) (w : World) : TS :=
  (tSeq (tAsg (tLst (tCons (tC (.str "")) (tCons (tC (.str "-")) (tCons (tC (.str " ")) (tCons (tC (.str "--")) (tCons (tC (.str "0..0:0")) (tCons (tC (.str "0..1:5")) (tCons (tC (.str "1..0:5")) (tCons (tC (.str "0..0:-1")) (tCons (tC (.str "-1..0:5")) (tCons (tC (.str "-2..-1:5")) (tCons (tC (.str "-0..0:5")) (tCons (tC (.str "0..-0:5")) tNil))))))))))))) (gName 0))
  (tSeq (tAsg (tOp rCat (tVar 0) (tLst (tCons (tC (.str "00..1:5")) (tCons (tC (.str "0..01:5")) (tCons (tC (.str "0..1:05")) (tCons (tC (.str "0...1:5")) (tCons (tC (.str "0.1:5")) (tCons (tC (.str "0..1")) (tCons (tC (.str "0..1:")) (tCons (tC (.str "0..:5")) (tCons (tC (.str "..1:5")) (tCons (tC (.str ":5")) tNil)))))))))))) (gName 0))
  (tSeq (tAsg (tOp rCat (tVar 0) (tLst (tCons (tC (.str "0..1:5:6")) (tCons (tC (.str "0..1:5 ")) (tCons (tC (.str " 0..1:5")) (tCons (tC (.str "0..1:5  2..3:4")) (tCons (tC (.str "0..1:5 2..3:4")) (tCons (tC (.str "0..1:5\n")) (tCons (tC (.str "0..1:5\t2..3:4")) tNil))))))))) (gName 0))
  (tSeq (tAsg (tOp rCat (tVar 0) (tLst (tCons (tC (.str "0 ..1:5")) (tCons (tC (.str "0.. 1:5")) (tCons (tC (.str "0..1: 5")) (tCons (tC (.str "+0..1:5")) (tCons (tC (.str "0..+1:5")) (tCons (tC (.str "1_0..20:5")) (tCons (tC (.str "x..1:5")) (tCons (tC (.str "0..1:x")) (tCons (tC (.str "0..1..2:5")) tNil))))))))))) (gName 0))
  (tSeq (tAsg (tOp rCat (tVar 0) (tLst (tCons (tC (.str "0..1:5,2..3:4")) (tCons (tC (.str "- 0..1:5")) (tCons (tOp qAddS (tC (.str "0..1:")) (tOp qRepS (tC (.str "9")) (tC (.int 60)))) (tCons (tOp qAddS (tC (.str "0..1:")) (tOp qRepS (tC (.str "9")) (tC (.int 61)))) (tCons (tOp qAddS (tOp qAddS (tC (.str "-")) (tOp qRepS (tC (.str "9")) (tC (.int 60)))) (tC (.str "..0:1"))) tNil))))))) (gName 0))
  (tRet (tOp rCat (tVar 0) (tLst (tCons (tOp qAddS (tOp qRepS (tC (.str "9")) (tC (.int 4000))) (tC (.str "..0:1"))) tNil)))))))))

end Spn

namespace Spn
open PySem PySem.Spec PyProof.Rows L2 TL
/-! ### a word's signs -/
theorem starts_iff (x : Str) : Txt.startswith x "-" = decide ((tl x).head? = some 45) := by
  have e : tl ("-" : Str) = [45] := by decide +kernel
  have l1 : ("-" : Str).length = 1 := by decide +kernel
  unfold Txt.startswith
  rw [PySem.StrLaws.subAt_eq, l1, len_tl, show ("-" : Str).cps.toList = [45] from e, show x.cps.toList = tl x from rfl]
  cases tl x with
  | nil => rfl
  | cons a r =>
    simp only [List.drop_zero, List.length_cons, List.head?_cons, Option.some.injEq]
    rw [decide_eq_true (by omega : 0 + 1 ≤ r.length + 1), Bool.true_and]
    show ([a] == [45]) = decide (a = 45)
    by_cases h : a = 45
    · subst h; rfl
    · rw [decide_eq_false h]
      simpa using h
theorem tl_cut (x : Str) (lo hi : Option Int) : tl (cutS x lo hi) = ((tl x).drop (HT.sIx x.length 0 lo)).take (HT.sIx x.length x.length hi - HT.sIx x.length 0 lo) := rfl
theorem cut_from (x : Str) (k : Nat) : tl (cutS x (some (k : Int)) none) = (tl x).drop k := by
  rw [tl_cut, HT.sIx_none, HT.sIx_nat, len_tl]
  by_cases h : k ≤ (tl x).length
  · rw [Nat.min_eq_left h, List.take_of_length_le (by rw [List.length_drop]; omega)]
  · rw [Nat.min_eq_right (by omega), List.drop_length, List.drop_of_length_le (by omega), List.take_nil]
theorem cut_to (x : Str) (k : Nat) : tl (cutS x none (some (k : Int))) = (tl x).take k := by
  rw [tl_cut, HT.sIx_none, HT.sIx_nat, len_tl, Nat.sub_zero, List.drop_zero]
  by_cases h : k ≤ (tl x).length
  · rw [Nat.min_eq_left h]
  · rw [Nat.min_eq_right (by omega), List.take_length, List.take_of_length_le (by omega)]
theorem head_minus (x : Str) : (cutS x none (some 1) = "-") ↔ (tl x).head? = some 45 := by
  have e : tl ("-" : Str) = [45] := by decide +kernel
  have c := cut_to x 1
  constructor
  · intro h
    have c' : tl (cutS x none (some 1)) = (tl x).take 1 := c
    rw [h, e] at c'
    cases q : tl x with
    | nil => rw [q] at c'; cases c'
    | cons a r => rw [q] at c'; cases c'; rfl
  · intro h
    refine ext_tl (c.trans ?_)
    rw [e]
    cases q : tl x with
    | nil => rw [q] at h; cases h
    | cons a r => rw [q] at h; cases h; rfl
/-- a word's figures, as they are cut -/
theorem fig_cut {x : Str} (h : (tl x).head? = some 45) : tl (cutS x (some 1) none) = figL (tl x) := (cut_from x 1).trans (if_pos h).symm
theorem fig_id {x : Str} (h : ¬ (tl x).head? = some 45) : tl x = figL (tl x) := (if_neg h).symm
theorem figs_tl : tl v_FIGURES = [48, 49, 50, 51, 52, 53, 54, 55, 56, 57] := by decide +kernel
theorem strip_nil (x : Str) : Txt.stripChars x v_FIGURES = "" ↔ NumText.AllDigits (tl x) := by
  have mem : ∀ c : Nat, v_FIGURES.cps.contains c = true ↔ 48 ≤ c ∧ c ≤ 57 := by
    intro c
    have e : v_FIGURES.cps.contains c = (tl v_FIGURES).contains c := by
      unfold tl
      rw [Array.contains_toList]
    rw [e, figs_tl]
    simp only [List.contains_cons, List.contains_nil, Bool.or_false, Bool.or_eq_true, beq_iff_eq]
    omega
  have get : ∀ k, x.cps.getD k 0 = (tl x).getD k 0 := fun k => (getD_list x k).symm
  have hx := len_tl x
  have nil0 : tl ("" : Str) = [] := by decide +kernel
  unfold Txt.stripChars
  rw [stripBy_eq]
  obtain ⟨a1, a2, a3⟩ := lo_facts v_FIGURES.cps.contains x
  generalize stripLo v_FIGURES.cps.contains true x = lo at a1 a2 a3 ⊢
  obtain ⟨b1, b2, b3, b4⟩ := hi_facts v_FIGURES.cps.contains x lo a1
  generalize stripHi v_FIGURES.cps.contains true x lo = hi at b1 b2 b3 b4 ⊢
  constructor
  · intro h c hc
    have e := congrArg tl h
    rw [tl_strSub, nil0] at e
    have e2 := congrArg List.length e
    rw [List.length_take, List.length_drop, ← hx, List.length_nil] at e2
    obtain ⟨k, hk, ek⟩ := List.mem_iff_getElem.mp hc
    have g : x.cps.getD k 0 = c := by rw [get k, List.getD_eq_getElem?_getD, List.getElem?_eq_getElem hk, ek]; rfl
    rw [← mem c, ← g]
    by_cases z : k < lo
    · exact a2 k z
    · exact b3 k (by omega) (by omega)
  · intro h
    refine ext_tl ?_
    rw [tl_strSub, nil0]
    have bad : ∀ k, k < x.length → v_FIGURES.cps.contains (x.cps.getD k 0) = true := by
      intro k hk
      rw [mem, get k, List.getD_eq_getElem?_getD, List.getElem?_eq_getElem (by omega)]
      exact h _ (List.getElem_mem _)
    have e : lo = x.length := by
      rcases a3 with e | e
      · exact e
      · by_cases z : lo < x.length
        · rw [bad lo z] at e; cases e
        · omega
    rw [show hi - lo = 0 by omega, List.take_zero]
theorem sign_is (c : Nat) : (⟨#[c]⟩ : Str) = "0" ↔ c = 48 := by
  have e : tl ("0" : Str) = [48] := by decide +kernel
  constructor
  · intro h
    have := congrArg tl h
    rw [e] at this
    exact List.head_eq_of_cons_eq this
  · rintro rfl
    exact ext_tl e.symm
theorem zero_is (x : Str) : x = "0" ↔ tl x = [48] := by
  have e : tl ("0" : Str) = [48] := by decide +kernel
  exact ⟨fun h => by rw [h, e], fun h => ext_tl (h.trans e.symm)⟩
theorem empty_is (x : Str) : x = "" ↔ tl x = [] := by
  have e : tl ("" : Str) = [] := by decide +kernel
  exact ⟨fun h => by rw [h, e], fun h => ext_tl (h.trans e.symm)⟩
theorem numT_some {x : Str} (h : NumC (tl x)) : numT x = some (numV (tl x)) := by
  unfold numT numOk
  have e : ((figL (tl x)).all isDig) = true := allDig_iff.mpr h.dig
  rw [decide_eq_true h.len.1, decide_eq_true h.len.2, e]
  by_cases c : (figL (tl x)).head? = some 48
  · rw [decide_eq_true c, decide_eq_true (h.nul c)]
    rfl
  · rw [decide_eq_false c]
    rfl
theorem numT_none {x : Str} (h : ¬ NumC (tl x)) : numT x = none := if_neg fun e => h (numC_of e)
section
variable {K : PySem.W.Frag} {w : World} {vs : List V} {H : Hp} {Q Q0 : VK} {E : XK}
theorem rne_str {i j : Str} {Q : VK} (q : Q (.bl (!decide (i = j))) H) : rNe (.str i) (.str j) H Q := ⟨rfl, by
  have e : decide (V.str i = V.str j) = decide (i = j) := by simp
  rw [e]; exact q⟩
theorem req_str {i j : Str} {Q : VK} (q : Q (.bl (decide (i = j))) H) : rEq (.str i) (.str j) H Q := ⟨rfl, by
  have e : decide (V.str i = V.str j) = decide (i = j) := by simp
  rw [e]; exact q⟩
theorem le40 {n : Nat} (h : n ≤ 40000) : n + 2 ≤ sizeLine := by rw [sizeLine_eq]; omega
/-- the first figure -/
theorem rix0 {f : Str} {c : Nat} {Q : VK} (hc : (tl f).head? = some c) (z : f.length ≤ 40000) (q : Q (.str ⟨#[c]⟩) H) : rIxS (.str f) (.int 0) H Q := by
  refine ⟨f, 0, c, rfl, rfl, by have := le40 z; omega, ?_, q⟩
  show atI (tl f) 0 = some c
  cases e : tl f with
  | nil => rw [e] at hc; cases hc
  | cons d r =>
    rw [e] at hc
    have ed : d = c := Option.some.inj hc
    subst ed
    show (ixN (d :: r).length 0).bind (fun j => (d :: r)[j]?) = some d
    unfold ixN
    rw [if_pos (by decide), if_pos (by rw [List.length_cons]; omega)]
    rfl
/-- what is asked of figures behind their number -/
theorem fig_test {x f : Str} {th el : Hp → Prop} (ef : tl f = figL (tl x)) (z : f.length ≤ 40000) (l1 : 1 ≤ (figL (tl x)).length) (l2 : (figL (tl x)).length ≤ 60) (h1 : ¬ NumC (tl x) → th H) (h2 : NumC (tl x) → el H) :
    f.length ≤ sizeLine ∧ rNe (.str (Txt.stripChars f v_FIGURES)) (.str "") H fun v H' => ∃ b, v = V.bl b ∧ if b = true then th H' else rIxS (.str f) (.int 0) H' fun v H' => rEq v (.str "0") H' fun v H' => ∃ b, v = V.bl b ∧ if b = true then rNe (.str x) (.str "0") H' fun v H' => ∃ b, v = V.bl b ∧ if b = true then th H' else el H' else el H' := by
  refine ⟨by have := le40 z; omega, rne_str ⟨_, rfl, ?_⟩⟩
  by_cases c : NumText.AllDigits (figL (tl x))
  · rw [decide_eq_true ((strip_nil f).mpr (by rw [ef]; exact c))]
    refine iteF ?_
    obtain ⟨d, hd⟩ : ∃ d, (figL (tl x)).head? = some d := by
      cases e : figL (tl x) with
      | nil => rw [e] at l1; simp at l1
      | cons a r => exact ⟨a, rfl⟩
    refine rix0 (c := d) (by rw [ef]; exact hd) z (req_str ⟨_, rfl, ?_⟩)
    by_cases c3 : d = 48
    · subst c3
      rw [decide_eq_true ((sign_is 48).mpr rfl)]
      refine iteT (rne_str ⟨_, rfl, ?_⟩)
      by_cases c4 : tl x = [48]
      · rw [decide_eq_true ((zero_is x).mpr c4)]
        exact iteF (h2 ⟨⟨l1, l2⟩, c, fun _ => c4⟩)
      · rw [decide_eq_false (fun q => c4 ((zero_is x).mp q))]
        exact iteT (h1 fun C => c4 (C.nul hd))
    · rw [decide_eq_false (fun q => c3 ((sign_is d).mp q))]
      exact iteF (h2 ⟨⟨l1, l2⟩, c, fun q => by rw [hd] at q; cases q; exact absurd rfl c3⟩)
  · rw [decide_eq_false (fun q => c (by rw [← ef]; exact (strip_nil f).mp q))]
    exact iteT (h1 fun C => c C.dig)
theorem num_len {x : Str} (h : NumC (tl x)) : x.length ≤ 61 := by
  rw [len_tl]
  have := h.len.2
  by_cases m : (tl x).head? = some 45
  · rw [show figL (tl x) = (tl x).drop 1 from if_pos m, List.length_drop] at this
    omega
  · rw [show figL (tl x) = tl x from if_neg m] at this
    omega
theorem rint {x : Str} {Q : VK} (h : NumC (tl x)) (q : Q (.int (numV (tl x))) H) : qIntS [.str x] H Q := ⟨x, _, rfl, num_int (numT_some h), by have := num_len h; omega, q⟩
theorem pure_number_in (h : sp_number_in K w vs H Q E) (fin : Fin H Q Q0) : t_number_in K w E (endS Q0) (start ["word", "figures"] vs) H := by
  obtain ⟨x, rfl, z, n, hq, hr⟩ := h
  refine seq_i fun nx k => ?_
  try walk_at "rd"
  refine k _ _ (seq_i fun nx2 k2 => if_i fun th el h1 h2 => ?_)
  have go : ∀ f, tl f = figL (tl x) → f.length ≤ 40000 → nx2 [some (.str x), some (.str f)] H := by
    intro f ef zf
    refine k2 _ _ (seq_i fun nx3 k3 => if_i fun th el h1 h2 => ?_)
    have bad : ¬ NumC (tl x) → th H := fun c => h1 _ ((hr (numT_none c)).at_ n)
    have good : NumC (tl x) → el H := fun c => h2 _ (k3 _ _ (by try walk_at "rd"; exact rint c (fin.same n (Same.refl H) (hq _ (numT_some c)))))
    have lf : f.length = (figL (tl x)).length := by rw [len_tl, ef]
    try walk_at "rd"
    simp only [L2.tM1]
    try walk_at "rd"
    refine ⟨f, rfl, by have := le40 zf; omega, _, rfl, ?_⟩
    by_cases l1 : 1 ≤ (figL (tl x)).length
    · rw [if_pos (by omega)]
      refine ⟨_, rfl, ?_⟩
      by_cases l2 : (figL (tl x)).length ≤ 60
      · rw [if_neg (by simp; omega)]
        exact ⟨⟨_, rfl⟩, f, _, rfl, rfl, fig_test ef zf l1 l2 bad good⟩
      · rw [if_pos (by simp; omega)]
        exact bad fun C => l2 C.len.2
    · rw [if_neg (by omega)]
      exact bad fun C => l1 C.len.1
  try walk_at "rd"
  simp only [L2.tM1]
  try walk_at "rd"
  refine ⟨⟨_, rfl⟩, x, _, rfl, rfl, _, rfl, ?_⟩
  rw [starts_iff]
  by_cases m : (tl x).head? = some 45
  · rw [decide_eq_true m]
    refine iteT (h1 _ ?_)
    try walk_at "rd"
    exact ⟨x, rfl, by have := le40 z; omega, go _ (fig_cut m) (Nat.le_trans (cutS_length x _ _) z)⟩
  · rw [decide_eq_false m]
    exact iteF (h2 _ (go x (fig_id m) z))
theorem pure__law_number (h : sp__law_number K w vs H Q E) (fin : Fin H Q Q0) : t__law_number K w (endS Q0) (start ["_law_text", "_law_figures"] vs) H := by
  obtain ⟨x, rfl, z, n, q⟩ := h
  refine seq_i fun nx k => ?_
  have go : ∀ f, tl f = figL (tl x) → f.length ≤ 40000 → nx [some (.str x), some (.str f)] H := by
    intro f ef zf
    refine k _ _ (seq_i fun nx3 k3 => if_i fun th el h1 h2 => ?_)
    have bad : ¬ NumC (tl x) → th H := fun c => h1 _ (by try walk_at "rd"; rw [numT_none c] at q; exact fin.same n (Same.refl H) q)
    have good : NumC (tl x) → el H := fun c => h2 _ (k3 _ _ (by try walk_at "rd"; rw [numT_some c] at q; exact rint c (fin.same n (Same.refl H) q)))
    have lf : f.length = (figL (tl x)).length := by rw [len_tl, ef]
    try walk_at "rd"
    simp only [L2.tM1]
    try walk_at "rd"
    refine req_str ⟨_, rfl, ?_⟩
    by_cases l1 : 1 ≤ (figL (tl x)).length
    · rw [decide_eq_false (fun e => by rw [(empty_is f).mp e] at ef; rw [← ef] at l1; simp at l1)]
      refine iteF ⟨f, rfl, by have := le40 zf; omega, _, rfl, ?_⟩
      by_cases l2 : (figL (tl x)).length ≤ 60
      · rw [if_neg (by omega)]
        exact ⟨⟨_, rfl⟩, f, _, rfl, rfl, fig_test ef zf l1 l2 bad good⟩
      · rw [if_pos (by omega)]
        exact bad fun C => l2 C.len.2
    · have e0 : f = "" := (empty_is f).mpr (by rw [ef]; exact List.length_eq_zero_iff.mp (by omega))
      rw [decide_eq_true e0]
      exact iteT (bad fun C => l1 C.len.1)
  try walk_at "rd"
  refine ⟨x, rfl, by have := le40 z; omega, req_str ⟨_, rfl, ?_⟩⟩
  by_cases m : (tl x).head? = some 45
  · rw [decide_eq_true ((head_minus x).mpr m)]
    refine iteT ?_
    try walk_at "rd"
    exact ⟨x, rfl, by have := le40 z; omega, go _ (fig_cut m) (Nat.le_trans (cutS_length x _ _) z)⟩
  · rw [decide_eq_false (fun e => m ((head_minus x).mp e))]
    refine iteF ?_
    try walk_at "rd"
    exact go x (fig_id m) z
end
end Spn

namespace Spn
open PySem PySem.Spec PyProof.Rows L2 TL
section
variable {K : PySem.W.Frag} {w : World} {vs : List V} {H : Hp} {Q Q0 : VK} {E : XK}
/-- what is found so far, and the words -/
structure RJ (H H' : Hp) (pf p : Addr) (ws : List V) (rs : List Rq) : Prop where
  s : Same H H'
  n : NoT H'
  r : ReqsAt H' pf rs
  l : H' p = some (.lst ws)
  ne : p ≠ pf
theorem RJ.new {H H' : Hp} {pf p t : Addr} {ws : List V} {rs : List Rq} {o : HO} (I : RJ H H' pf p ws rs) (ht : H' t = none) (ho : plainO o = true := by rfl) : RJ H (upd H' t o) pf p ws rs :=
  ⟨Same.upd2 I.s ht, I.n.upd ho, I.r.same (Same.upd ht), (Same.upd ht) _ _ I.l, I.ne⟩
/-- found.append(r) -/
theorem RJ.add {H H' : Hp} {pf p : Addr} {ws : List V} {rs : List Rq} (I : RJ H H' pf p ws rs) (r : Rq) {t : Addr} {P : Hp → Prop} (hpf : H pf = none) (hz : rs.length < 1000) (ht : H' t = some (.tup (r3 r))) (k : ∀ H3, RJ H H3 pf p ws (rs ++ [r]) → P H3) :
    rAppend (.ref pf) [.ref t] H' fun _ H1 => P H1 := by
  obtain ⟨vs, e, pr⟩ := I.r
  refine rapp (K := []) e (by rw [pr.length, sizeLine_eq]; omega) (k _ ⟨Same.upd3 I.s hpf, I.n.upd, ⟨_, upd_same, (pr.mono fun _ _ q => q.keep ((TK.refl _).lst e)).snoc ⟨t, rfl, ?_⟩⟩, ?_, I.ne⟩)
  · exact ((TK.refl _).lst e) _ _ ht
  · rw [upd_ne I.ne]
    exact I.l
/-- x.partition(s) into three names -/
theorem part_i {k i j l : Nat} {σ : L2.St} {D : Ends} {x s : Str} (hσ : σ[k]? = some (some (.str x))) (hs : (s.length == 0) = false) (z : x.length ≤ 40000)
    (q : ∀ t o, H t = none → plainO o = true → D.nx (((σ.set i (some (.str (Txt.partition x s).1))).set j (some (.str (Txt.partition x s).2.1))).set l (some (.str (Txt.partition x s).2.2))) (upd H t o)) :
    tAsg (tM1 qPartition (tVar k) (tC (.str s))) (gTup K 3 (gCons (gName i) (gCons (gName j) (gCons (gName l) gNil)))) D σ H := by
  refine ⟨_, hσ, ⟨x, rfl⟩, x, s, rfl, rfl, hs, by have := le40 z; omega, fun t ht => ?_⟩
  exact gtup3 upd_same (q t _ ht rfl)
theorem part_z {x y : Str} {m : Nat} (z : x.length ≤ m) : (Txt.partition x y).1.length ≤ m ∧ (Txt.partition x y).2.2.length ≤ m := by
  obtain ⟨a, -, c⟩ := PyProof.Rows.fact_partition x y
  omega
theorem sep1 : ((":" : Str).length == 0) = false := by decide +kernel
theorem sep2 : ((".." : Str).length == 0) = false := by decide +kernel
theorem sep3 : ((" " : Str).length == 0) = false := by decide +kernel
theorem word_none {x : Str} (h : numT (Txt.partition (wDays x) "..").1 = none ∨ numT (Txt.partition (wDays x) "..").2.2 = none ∨ numT (Txt.partition x ":").2.2 = none) : wordT x = none := by
  unfold wordT
  rcases h with h | h | h
  · rw [h]
  · rw [h]
    cases numT (Txt.partition (wDays x) "..").1 <;> rfl
  · rw [h]
    cases numT (Txt.partition (wDays x) "..").1 <;> cases numT (Txt.partition (wDays x) "..").2.2 <;> rfl
theorem word_some {x : Str} {i j k : Int} (h1 : numT (Txt.partition (wDays x) "..").1 = some i) (h2 : numT (Txt.partition (wDays x) "..").2.2 = some j) (h3 : numT (Txt.partition x ":").2.2 = some k) : wordT x = some (i, j, k) := by
  unfold wordT
  rw [h1, h2, h3]
theorem notx_ty {v : V} (h : NoTx H v) : ∃ S, TyX K H v (.type S) ∧ kitB S "str" = some false := by
  rcases h with rfl | ⟨i, rfl⟩ | ⟨b, rfl⟩ | ⟨a, xs, rfl, e⟩
  · exact ⟨"NoneType", .base .non, by decide +kernel⟩
  · exact ⟨"int", .base (.int i), by decide +kernel⟩
  · exact ⟨"bool", .base (.bl b), by decide +kernel⟩
  · exact ⟨"list", .base (.lst e), by decide +kernel⟩
theorem chk_any {a : Addr} {rs : List Rq} (hr : ReqsAt H a rs) (z : rs.length ≤ 1000) : ChkV H (.ref a) (rs.all okQ) := by
  obtain ⟨us, ea, pr⟩ := hr
  have e : (rs.map okQ).all id = rs.all okQ := by rw [List.all_map]; rfl
  rw [← e]
  refine .lst ea ?_ (by rw [pr.length]; exact z)
  clear e ea z
  induction pr with
  | nil => exact .nil
  | @cons v r vs rs q _ ih =>
    obtain ⟨t, rfl, ht⟩ := q
    exact .cons (.req r ht) ih
theorem okR_of {rs : List Rq} (h : rs.all okQ = true) : OkR rs := fun r hr => by
  have := List.all_eq_true.mp h r hr
  unfold okQ at this
  rw [Bool.and_eq_true, decide_eq_true_eq, decide_eq_true_eq] at this
  exact this
theorem num_i {k : Nat} {σ : L2.St} {y : Str} (hσ : σ[k]? = some (some (.str y))) (z : y.length ≤ 40000) (n : NoT H) (bad : numT y = none → Rf K H E "BadText") (good : ∀ i, numT y = some i → Q (.int i) H) : tCallS (sp_number_in K w) (WE (wE E)) (tCons (tVar k) tNil) σ H Q := ⟨_, hσ, y, rfl, z, n, good, bad⟩
theorem take_snoc1 {α : Type} {xs : List α} {i : Nat} {y : α} (h : xs[i]? = some y) : xs.take (i + 1) = xs.take i ++ [y] := by
  rw [List.take_add_one, h]
  rfl
theorem free_of_upd {a b : Addr} {o : HO} (h : upd H a o b = none) : H b = none := by
  by_cases e : b = a
  · subst e
    rw [upd_same] at h
    cases h
  · rwa [upd_ne e] at h
theorem ne_of_upd {a b : Addr} {o : HO} (h : upd H a o b = none) : b ≠ a := by
  rintro rfl
  rw [upd_same] at h
  cases h
theorem pure_read (ex : PySem.W.exmOne K (.ref (He.ga K "BadRequests")) (.ref (He.ga K "BadRequests")) = some true) (h : sp_read K w vs H Q E) (fin : Fin H Q Q0) : t_read K w E (endS Q0) (start ["text", "found", "word", "days", "colon", "price", "first", "dots", "last"] vs) H := by
  obtain ⟨v, rfl, n, h⟩ := h
  refine seq_i fun nx k => if_i fun th el h1 h2 => ?_
  try walk_at "rd"
  rcases h with ⟨nt, rf⟩ | ⟨x, rfl, ⟨z, zw⟩, rf, q⟩
  · obtain ⟨S, ty, kk⟩ := notx_ty (K := K) nt
    exact isi_of ty kk ⟨_, rfl, iteT (h1 _ (rf.at_ n))⟩
  refine isi_of (.base (.str x)) (by decide +kernel : kitB "str" "str" = some true) ⟨_, rfl, iteF (h2 _ (k _ _ (seq_i fun nx2 k2 => if_i fun th el h1 h2 => ?_)))⟩
  try walk_at "rd"
  refine req_str ⟨_, rfl, ?_⟩
  by_cases e0 : x = "-"
  · rw [decide_eq_true e0]
    refine iteT (h1 _ ?_)
    try walk_at "rd"
    have e1 : readT x = some [] := by
      unfold readT wordsT
      rw [if_pos e0]
      rfl
    refine ⟨Nat.zero_le _, fun l hl => ?_⟩
    exact fin _ _ _ (Shr.one n (Same.upd hl) hl upd_same (fun _ _ _ z => by cases z)) (q [] e1 _ l (Same.upd hl) n.upd hl ⟨[], upd_same, .nil⟩)
  rw [decide_eq_false e0]
  refine iteF (h2 _ (k2 _ _ (seq_i fun nx3 k3 => ?_)))
  try walk_at "rd"
  refine ⟨Nat.zero_le _, fun pf hpf => k3 _ _ (seq_i fun nx4 k4 => ?_)⟩
  have ew : wordsT x = Txt.split x " " := if_neg e0
  refine ⟨_, rfl, ⟨x, rfl⟩, x, _, rfl, rfl, sep3, le40 z, fun p hp => ?_⟩
  have hp0 : H p = none := free_of_upd hp
  have np : p ≠ pf := ne_of_upd hp
  rw [← ew]
  have I0 : RJ H (upd (upd H pf (.lst [])) p (.lst ((wordsT x).map V.str))) pf p ((wordsT x).map V.str) [] := ⟨(Same.upd hpf).trans (Same.upd hp), n.upd.upd, ⟨[], by rw [upd_ne np.symm, upd_same], .nil⟩, upd_same, np⟩
  refine tFor_lst (K := K) (a := p) (xs := (wordsT x).map V.str) (ta := fun _ _ R => R (.ref p) (upd (upd H pf (.lst [])) p (.lst ((wordsT x).map V.str)))) (fun R h => h)
    (fun i σ H' => ∃ rs x2 x3 x4 x5 x6 x7 x8, σ = [some (.str x), some (.ref pf), x2, x3, x4, x5, x6, x7, x8] ∧ RJ H H' pf p ((wordsT x).map V.str) rs ∧ rawW ((wordsT x).take i) = some rs) ⟨[], none, none, none, none, none, none, none, rfl, I0, rfl⟩ ?_ ?_ ?_
  · rintro i σ H' ⟨rs, x2, x3, x4, x5, x6, x7, x8, rfl, I, hr⟩
    exact I.l
  · rintro i v σ H1 nxL kL hi ⟨rs, x2, x3, x4, x5, x6, x7, x8, rfl, I, hr⟩
    rw [List.getElem?_map] at hi
    obtain ⟨y, hy, rfl⟩ := Option.map_eq_some_iff.mp hi
    have ym : y ∈ wordsT x := List.mem_of_getElem? hy
    have zy : y.length ≤ 40000 := Nat.le_trans (words_part ym) z
    have bad : wordT y = none → ∀ H2, Same H H2 → Rf K H2 E "BadText" := fun e H2 s => (rf (read_none ym fun r h => by rw [e] at h; cases h)).same s
    have zr : rs.length < 1000 := by
      have a := raw_len hr
      rw [List.length_take] at a
      have b := (List.getElem?_eq_some_iff.mp hy).1
      omega
    refine seq_i fun nx5 k5 => ?_
    refine part_i rfl sep1 zy fun t1 o1 ht1 po1 => k5 _ _ (seq_i fun nx6 k6 => ?_)
    have I1 := I.new (o := o1) ht1 po1
    obtain ⟨zd, zp⟩ := part_z (y := ":") zy
    refine part_i rfl sep2 zd fun t2 o2 ht2 po2 => k6 _ _ ?_
    have I2 := I1.new (o := o2) ht2 po2
    obtain ⟨zf, zl⟩ := part_z (y := "..") zd
    generalize (upd (upd H1 t1 o1) t2 o2 : Hp) = H2 at I2
    try walk_at "rd"
    refine ⟨ty_lst I2.r.choose_spec.1, num_i rfl zf I2.n (fun e => bad (word_none (.inl e)) _ I2.s) fun a ea => num_i rfl zl I2.n (fun e => bad (word_none (.inr (.inl e))) _ I2.s) fun b eb => num_i rfl zp I2.n (fun e => bad (word_none (.inr (.inr e))) _ I2.s) fun c ec => ⟨by decide, fun t ht => ?_⟩⟩
    refine (I2.new (o := .tup (r3 (a, b, c))) ht).add (a, b, c) hpf zr upd_same fun H3 I3 => kL _ _ ⟨_, _, _, _, _, _, _, _, rfl, I3, ?_⟩
    rw [take_snoc1 hy]
    exact raw_snoc hr (word_some ea eb ec)
  · rintro σ H' ⟨rs, x2, x3, x4, x5, x6, x7, x8, rfl, I, hr⟩
    rw [List.length_map, List.take_length] at hr
    have zr : rs.length ≤ 1000 := by rw [raw_len hr]; exact zw
    refine k4 _ _ (seq_i fun nx5 k5 => ?_)
    refine ⟨_, rfl, .ref pf, rs.all okQ, rfl, chk_any I.r zr, I.n, fun ok => k5 _ _ ?_, fun ok H2 s2 n2 => ⟨ex, fun a _ => ?_⟩⟩
    · try walk_at "rd"
      obtain ⟨us, e, pr⟩ := I.r
      exact fin.new n I.s (q rs (read_some hr ok) _ pf (ltH_same I.s) (ltH_noT n I.s) hpf ⟨us, ltH_lst e, pr.mono fun _ _ q => q.keep (ltH_tk _ _)⟩)
    · exact rf (read_bad hr ok) H2 (I.s.trans s2) n2
end
end Spn

namespace Spn
open PySem PySem.Spec PyProof.Rows L2 TL
section
variable {K : PySem.W.Frag} {w : World} {vs : List V} {H : Hp} {Q Q0 : VK} {E : XK}
theorem inN (a b c : Option Int) : inV V.non [optI a, optI b, optI c] = (a.isNone || (b.isNone || c.isNone)) := by
  cases a <;> cases b <;> cases c <;> rfl
theorem flatN (a b c : Option Int) : [optI a, optI b, optI c].all flatV = true := by
  cases a <;> cases b <;> cases c <;> rfl
theorem pure__law_in (h : sp__law_in K w vs H Q E) (fin : Fin H Q Q0) : t__law_in K w (endS Q0) (start ["_law_text", "_law_found", "_law_word", "_law_days", "_law_colon", "_law_price", "_law_first", "_law_dots", "_law_last", "_law_one"] vs) H := by
  obtain ⟨x, rfl, ⟨z, zw⟩, n, qn, q⟩ := h
  refine seq_i fun nx k => ?_
  try walk_at "rd"
  refine ⟨Nat.zero_le _, fun pf hpf => k _ _ (seq_i fun nx4 k4 => ?_)⟩
  have rest : ∀ p, upd H pf (.lst []) p = none → tFor (iList K fun _ _ R => R (.ref p) (upd (upd H pf (.lst [])) p (.lst ((wordsT x).map V.str)))) (gName 2) (tSeq (tAsg (tM1 qPartition (tVar 2) (tC (.str ":"))) (gTup K 3 (gCons (gName 3) (gCons (gName 4) (gCons (gName 5) gNil)))))
      (tSeq (tAsg (tM1 qPartition (tVar 3) (tC (.str ".."))) (gTup K 3 (gCons (gName 6) (gCons (gName 7) (gCons (gName 8) gNil)))))
      (tSeq (tAsg (tTup (tCons (tCall (sp__law_number K w) [] E0 (tCons (tVar 6) tNil)) (tCons (tCall (sp__law_number K w) [] E0 (tCons (tVar 8) tNil)) (tCons (tCall (sp__law_number K w) [] E0 (tCons (tVar 5) tNil)) tNil)))) (gName 9))
      (tSeq (tIfS (tOr (tTest (tOp (rIn K false) (tC .non) (tVar 9))) (tOr (tTest (tOp qGt (tOp (rIxT K) (tVar 9) (tC (.int 0))) (tOp (rIxT K) (tVar 9) (tC (.int 1))))) (tTest (tOp qLt (tOp (rIxT K) (tVar 9) (tC (.int 2))) (tC (.int 0)))))) (tRet (tC .non)) tNext)
      (tDrop (tBM K "list" rAppend (tVar 1) (tCons (tVar 9) tNil)))))))
      { endS Q0 with nx := nx4 } [some (.str x), some (.ref pf), none, none, none, none, none, none, none, none] (upd (upd H pf (.lst [])) p (.lst ((wordsT x).map V.str))) := by
    intro p hp
    have np : p ≠ pf := ne_of_upd hp
    have I0 : RJ H (upd (upd H pf (.lst [])) p (.lst ((wordsT x).map V.str))) pf p ((wordsT x).map V.str) [] := ⟨(Same.upd hpf).trans (Same.upd hp), n.upd.upd, ⟨[], by rw [upd_ne np.symm, upd_same], .nil⟩, upd_same, np⟩
    refine tFor_lst (K := K) (a := p) (xs := (wordsT x).map V.str) (fun R h => h)
      (fun i σ H' => ∃ rs x2 x3 x4 x5 x6 x7 x8 x9, σ = [some (.str x), some (.ref pf), x2, x3, x4, x5, x6, x7, x8, x9] ∧ RJ H H' pf p ((wordsT x).map V.str) rs ∧ rawW ((wordsT x).take i) = some rs ∧ rs.all okQ = true) ⟨[], none, none, none, none, none, none, none, none, rfl, I0, rfl, rfl⟩ ?_ ?_ ?_
    · rintro i σ H' ⟨rs, x2, x3, x4, x5, x6, x7, x8, x9, rfl, I, hr, ok⟩
      exact I.l
    · rintro i v σ H1 nxL kL hi ⟨rs, x2, x3, x4, x5, x6, x7, x8, x9, rfl, I, hr, ok⟩
      rw [List.getElem?_map] at hi
      obtain ⟨y, hy, rfl⟩ := Option.map_eq_some_iff.mp hi
      have ym : y ∈ wordsT x := List.mem_of_getElem? hy
      have zy : y.length ≤ 40000 := Nat.le_trans (words_part ym) z
      have zr : rs.length < 1000 := by
        have a := raw_len hr
        rw [List.length_take] at a
        have b := (List.getElem?_eq_some_iff.mp hy).1
        omega
      refine seq_i fun nx5 k5 => ?_
      refine part_i rfl sep1 zy fun t1 o1 ht1 po1 => k5 _ _ (seq_i fun nx6 k6 => ?_)
      have I1 := I.new (o := o1) ht1 po1
      obtain ⟨zd, zp⟩ := part_z (y := ":") zy
      refine part_i rfl sep2 zd fun t2 o2 ht2 po2 => k6 _ _ (seq_i fun nx7 k7 => ?_)
      have I2 := I1.new (o := o2) ht2 po2
      obtain ⟨zf, zl⟩ := part_z (y := "..") zd
      generalize (upd (upd H1 t1 o1) t2 o2 : Hp) = H2 at I2
      try walk_at "rd"
      refine ⟨_, rfl, zf, I2.n, _, rfl, zl, I2.n, _, rfl, zp, I2.n, by decide, fun t ht => k7 _ _ (seq_i fun nx8 k8 => if_i fun th el h1 h2 => ?_)⟩
      have I3 := I2.new (o := .tup [optI (numT (Txt.partition (Txt.partition y ":").1 "..").1), optI (numT (Txt.partition (Txt.partition y ":").1 "..").2.2), optI (numT (Txt.partition y ":").2.2)]) ht
      have no : (∀ r, wordT y = some r → okQ r = false) → th (upd H2 t (.tup [optI (numT (Txt.partition (Txt.partition y ":").1 "..").1), optI (numT (Txt.partition (Txt.partition y ":").1 "..").2.2), optI (numT (Txt.partition y ":").2.2)])) := fun e => h1 _ (by
        try walk_at "rd"
        exact fin.same n I3.s (qn (read_none ym e)))
      try walk_at "rd"
      refine ⟨t, _, rfl, .inr (SqT.of upd_same), rfl, flatN _ _ _, ?_⟩
      refine ⟨_, rfl, ?_⟩
      rw [if_neg Bool.false_ne_true, inN]
      generalize ea : numT (Txt.partition (Txt.partition y ":").1 "..").1 = a at I3 no ⊢
      generalize eb : numT (Txt.partition (Txt.partition y ":").1 "..").2.2 = b at I3 no ⊢
      generalize ec : numT (Txt.partition y ":").2.2 = c at I3 no ⊢
      have wn : (a = none ∨ b = none ∨ c = none) → ∀ r, wordT y = some r → okQ r = false := by
        intro h r e
        have : wordT y = none := word_none (h.imp (fun h => ea.trans h) (Or.imp (fun h => eb.trans h) fun h => ec.trans h))
        rw [this] at e
        cases e
      rcases a with _ | a
      · exact iteT (no (wn (.inl rfl)))
      rcases b with _ | b
      · exact iteT (no (wn (.inr (.inl rfl))))
      rcases c with _ | c
      · exact iteT (no (wn (.inr (.inr rfl))))
      have ew : wordT y = some (a, b, c) := word_some ea eb ec
      have wk : okQ (a, b, c) = false → ∀ r, wordT y = some r → okQ r = false := by
        intro h r e
        rw [ew] at e
        cases e
        exact h
      refine iteF (rix_tup upd_same (by decide) rfl (rix_tup upd_same (by decide) rfl ⟨a, rfl, b, rfl, ?_⟩))
      by_cases c1 : b < a
      · rw [if_pos c1]
        exact no (wk (by unfold okQ; rw [decide_eq_false (by show ¬ a ≤ b; omega)]; rfl))
      rw [if_neg c1]
      refine rix_tup upd_same (by decide) rfl ⟨c, rfl, ?_⟩
      by_cases c2 : c < 0
      · rw [if_pos c2]
        exact no (wk (by unfold okQ; rw [decide_eq_false (show ¬ (0 : Int) ≤ c by omega), Bool.and_false]))
      rw [if_neg c2]
      refine h2 _ (k8 _ _ ?_)
      try walk_at "rd"
      refine ⟨ty_lst I3.r.choose_spec.1, I3.add (a, b, c) hpf zr upd_same fun H4 I4 => kL _ _ ⟨_, _, _, _, _, _, _, _, _, rfl, I4, ?_, ?_⟩⟩
      · rw [take_snoc1 hy]
        exact raw_snoc hr ew
      · rw [List.all_append, ok]
        show (true && (okQ (a, b, c) && true)) = true
        unfold okQ
        rw [decide_eq_true (show a ≤ b by omega), decide_eq_true (show (0 : Int) ≤ c by omega)]
        rfl
    · rintro σ H' ⟨rs, x2, x3, x4, x5, x6, x7, x8, x9, rfl, I, hr, ok⟩
      rw [List.length_map, List.take_length] at hr
      refine k4 _ _ ?_
      try walk_at "rd"
      obtain ⟨us, e, pr⟩ := I.r
      exact fin.new n I.s (q rs (read_some hr ok) _ pf (ltH_same I.s) (ltH_noT n I.s) hpf ⟨us, ltH_lst e, pr.mono fun _ _ q => q.keep (ltH_tk _ _)⟩)
  refine ⟨_, rfl, ?_⟩
  simp only [L2.tC]
  refine rne_str ⟨_, rfl, ?_⟩
  by_cases e0 : x = "-"
  · have ew : wordsT x = [] := if_pos e0
    rw [decide_eq_true e0]
    rw [ew] at rest
    exact ⟨Nat.zero_le _, fun p hp => rest p hp⟩
  · have ew : wordsT x = Txt.split x " " := if_neg e0
    rw [decide_eq_false e0]
    rw [ew] at rest
    exact ⟨_, rfl, ⟨x, rfl⟩, x, _, rfl, rfl, sep3, le40 z, fun p hp => rest p hp⟩
end
end Spn

namespace Spn
open PySem PySem.Spec PyProof.Rows L2 TL
/-- what BadText says of itself -/
structure RefC (K : PySem.W.Frag) : Prop where
  e : PySem.W.exmOne K (.ref (He.ga K "BadText")) (.ref (He.ga K "SpanError")) = some true
  c : ExcC K (He.ga K "BadText")
  k1 : PySem.W.kitOne K (.ref (He.ga K "BadText")) (.ref (He.ga K "BadDays")) = some false
  k2 : PySem.W.kitOne K (.ref (He.ga K "BadText")) (.ref (He.ga K "BadRequests")) = some false
  k3 : PySem.W.kitOne K (.ref (He.ga K "BadText")) (.ref (He.ga K "BadRooms")) = some false
  k4 : PySem.W.kitOne K (.ref (He.ga K "BadText")) (.ref (He.ga K "BadText")) = some true
  k5 : PySem.W.kitOne K (.ref (He.ga K "BadText")) (.type "ValueError") = some true
section
variable {K : PySem.W.Frag} {w : World} {vs : List V} {H : Hp} {Q Q0 : VK} {E : XK} {σ : L2.St} {D : Ends}
theorem risQ {D C : Addr} {a : Addr} {b : Bool} {Q : VK} (c : ExcC K D) (k : PySem.W.kitOne K (.ref D) (.ref C) = some b) (q : Q (.bl b) H) : rIsQ K a (.ref D) none [.ref a, .ref C] H Q := ⟨D, rfl, rfl, c, _, .ref C, b, rfl, fun _ r => r, k, q⟩
theorem pure__law_refused (C : RefC K) (h : sp__law_refused K w vs H Q E) (fin : Fin H Q Q0) : t__law_refused K w (endS Q0) (start ["_law_text", "error", "_law_others"] vs) H := by
  obtain ⟨v, rfl, n, hv, q⟩ := h
  refine seq_i fun nx k => ?_
  have rf : Rf K H (WE (wSureAs K (.ref (He.ga K "SpanError")) 1 (fun a cls d => (tSeq (tAsg (tLst (tCons (tCB (rIsQ K a cls d) (tCons (tVar 1) (tCons (tC (.ref (He.ga K "BadDays"))) tNil))) (tCons (tCB (rIsQ K a cls d) (tCons (tVar 1) (tCons (tC (.ref (He.ga K "BadRequests"))) tNil))) (tCons (tCB (rIsQ K a cls d) (tCons (tVar 1) (tCons (tC (.ref (He.ga K "BadRooms"))) tNil))) tNil)))) (gName 2))
      (tRet (tAndV (tCB (rIsQ K a cls d) (tCons (tVar 1) (tCons (tC (.ref (He.ga K "BadText"))) tNil))) (tAndV (tCB (rIsQ K a cls d) (tCons (tVar 1) (tCons (tC (.ty "ValueError")) tNil))) (tNotV (tCB (rAny K) (tCons (tVar 2) tNil)))))))) { endS Q0 with nx := nx }) [some v, none, none]) "BadText" := by
    intro H' s n'
    refine ⟨C.e, fun a ha => seq_i fun nx2 k2 => ?_⟩
    try walk_at "rd"
    refine risQ C.c C.k1 (risQ C.c C.k2 (risQ C.c C.k3 ⟨by show 3 ≤ sizeLine; decide, fun l hl => k2 _ _ ?_⟩))
    try walk_at "rd"
    refine risQ C.c C.k4 ⟨_, rfl, ?_⟩
    rw [if_pos rfl]
    refine ⟨He.ga K "BadText", rfl, rfl, C.c, .ty "ValueError", .type "ValueError", true, rfl, fun _ r => r, C.k5, ⟨_, rfl, ?_⟩⟩
    rw [if_pos rfl]
    refine any_new (bs := [false, false, false]) rfl ⟨_, rfl, ?_⟩
    exact fin.same n (s.trans (Same.upd hl)) q
  refine ⟨_, rfl, v, rfl, n, ?_⟩
  rcases hv with nt | ⟨x, rfl, ok, e⟩
  · exact .inl ⟨nt, rf⟩
  · exact .inr ⟨x, rfl, ok, fun _ => rf, fun rs e2 => by rw [e] at e2; cases e2⟩
theorem pure__law_right (h : sp__law_right K w vs H Q E) (fin : Fin H Q Q0) : t__law_right K w (endS Q0) (start ["_law_text", "_law_wanted", "_law_found"] vs) H := by
  obtain ⟨x, rfl, ok, n, q⟩ := h
  refine seq_i fun nx k => ?_
  try walk_at "rd"
  refine ⟨x, rfl, ok, n, fun e => k _ _ (seq_i fun nx2 k2 => if_i fun th el h1 h2 => ?_), fun rs e H1 pw s1 n1 hpw hw => k _ _ (seq_i fun nx2 k2 => if_i fun th el h1 h2 => ?_)⟩
  · try walk_at "rd"
    refine h1 _ ?_
    try walk_at "rd"
    exact ⟨_, rfl, n, .inr ⟨x, rfl, ok, e⟩, fin.same n (Same.refl H) q⟩
  obtain ⟨bk, sm, okr, lr⟩ := read_back e
  have zr : rs.length ≤ 1000 := by rw [lr]; exact ok.2
  obtain ⟨uw, ew, pw'⟩ := id hw
  try walk_at "rd"
  refine h2 _ (k2 _ _ (seq_i fun nx3 k3 => ?_))
  try walk_at "rd"
  refine ⟨_, rfl, n1, .inr ⟨x, rfl, ok, (fun z => by rw [e] at z; cases z), fun rs' e' H2 pf s2 n2 hpf hf => k3 _ _ (seq_i fun nx4 k4 => if_i fun th el h1 h2 => ?_)⟩⟩
  cases e.symm.trans e'
  obtain ⟨uf, ef, pf'⟩ := id hf
  have hw2 := hw.same s2
  try walk_at "rd"
  refine isi_of (.base (.lst ef)) (by decide +kernel : kitB "list" "list" = some true) ⟨_, rfl, iteF ?_⟩
  refine rneD_R hf hw2 ⟨_, rfl, ?_⟩
  rw [decide_eq_true rfl]
  refine iteF ⟨_, rfl, n2, .inr ⟨pf, rs, rfl, hf, okr, zr, .inr ⟨sm, ?_⟩⟩⟩
  rw [bk]
  refine rne_str ⟨_, rfl, ?_⟩
  rw [decide_eq_true rfl]
  refine iteF (h2 _ (k4 _ _ (seq_i fun nx5 k5 => ?_)))
  try walk_at "rd"
  refine ⟨ty_lst ef, by show 3 ≤ sizeLine; decide, fun t ht => ?_⟩
  have s3 := Same.upd (o := .tup [V.int 0, .int 0, .int 0]) ht
  have npw : pw ≠ pf := fun z => by rw [z] at ew; rw [ew] at hpf; cases hpf
  refine rapp (K := K) (s3 _ _ ef) (by rw [pf'.length, sizeLine_eq]; omega) (k5 _ _ ?_)
  have s4 : Same H (upd (upd H2 t (.tup [V.int 0, .int 0, .int 0])) pf (.lst (uf ++ [.ref t]))) := Same.upd3 ((s1.trans s2).trans s3) (s1.free hpf)
  have n4 : NoT (upd (upd H2 t (.tup [V.int 0, .int 0, .int 0])) pf (.lst (uf ++ [.ref t]))) := n2.upd.upd
  have hw4 : ReqsAt (upd (upd H2 t (.tup [V.int 0, .int 0, .int 0])) pf (.lst (uf ++ [.ref t]))) pw rs := by
    obtain ⟨us, eu, pu⟩ := hw2.same s3
    exact ⟨us, by rw [upd_ne npw]; exact eu, pu.mono fun _ _ q => q.keep ((TK.refl _).lst (s3 _ _ ef))⟩
  generalize (upd (upd H2 t (.tup [V.int 0, .int 0, .int 0])) pf (.lst (uf ++ [.ref t])) : Hp) = H4 at s4 n4 hw4 ⊢
  try walk_at "rd"
  refine ⟨_, rfl, n4, .inr ⟨x, rfl, ok, (fun z => by rw [e] at z; cases z), fun rs' e' H5 pg s5 n5 hpg hg => ?_⟩⟩
  cases e.symm.trans e'
  refine reqD_R hg (hw4.same s5) ?_
  rw [decide_eq_true rfl]
  exact fin.same n (s4.trans s5) q
end
end Spn

namespace Spn
open PySem PySem.Spec PyProof.Rows L2 TL
/-! ### texts laid in lists -/
def StrE (e : TE) (σ : L2.St) (x : Str) : Prop := ∀ (H : Hp) (Q : VK), Q (.str x) H → e σ H Q
def StrA (t : TA) (σ : L2.St) (xs : List Str) : Prop := ∀ (H : Hp) (Q : List V → Hp → Prop), Q (xs.map V.str) H → t σ H Q
theorem rep_tl (x : Str) (n : Nat) : tl (repS x n) = (List.replicate n (tl x)).flatten := by
  have key : ∀ (n : Nat) (a : Array Nat), ((List.replicate n x.cps).foldl (· ++ ·) a).toList = a.toList ++ (List.replicate n (tl x)).flatten := by
    intro n
    induction n with
    | zero => intro a; simp
    | succ n ih =>
      intro a
      rw [List.replicate_succ, List.foldl_cons, ih, List.replicate_succ, List.flatten_cons, Array.toList_append, List.append_assoc]
  exact (key n #[]).trans (by simp)
theorem nine_tl (n : Nat) : tl (repS "9" n) = List.replicate n 57 := by
  have e : tl ("9" : Str) = [57] := by decide +kernel
  rw [rep_tl, e]
  induction n with
  | zero => rfl
  | succ n ih => rw [List.replicate_succ, List.flatten_cons, ih, List.replicate_succ]; rfl
theorem nine_len (n : Nat) : (repS "9" n).length = n := by rw [len_tl, nine_tl, List.length_replicate]
theorem txt_of_count {x : Str} (z : x.length ≤ 40000) (h : (tl x).count 32 ≤ 900) : TxtOk x := ⟨z, by have := words_len h; omega⟩
theorem txt_short {x : Str} (z : x.length ≤ 900) : TxtOk x := txt_of_count (by omega) (by have := List.count_le_length (a := 32) (l := tl x); rw [← len_tl] at this; omega)
section
variable {K : PySem.W.Frag} {w : World} {vs : List V} {H : Hp} {Q Q0 : VK} {E : XK} {σ : L2.St} {D : Ends} {e a b : TE} {t : TA} {x y : Str} {xs ys : List Str}
theorem se_c : StrE (tC (.str x)) σ x := fun _ _ h => h
theorem se_add (ha : StrE a σ x) (hb : StrE b σ y) (z : x.length + y.length ≤ 10000) : StrE (tOp qAddS a b) σ (x ++ y) := fun H Q q => ha _ _ (hb _ _ ⟨x, y, rfl, rfl, by rw [sizeLine_eq]; omega, q⟩)
theorem se_nine {n : Nat} (h : 2 ≤ n) (h2 : n ≤ 10000) : StrE (tOp qRepS (tC (.str "9")) (tC (.int (n : Int)))) σ (repS "9" n) := fun H Q q => ⟨"9", n, rfl, rfl, by decide +kernel, by decide +kernel, h, h2, by rw [nine_len]; omega, q⟩
theorem sa_0 : StrA tNil σ [] := fun _ _ h => h
theorem sa_1 (h : StrE e σ x) (ht : StrA t σ xs) : StrA (tCons e t) σ (x :: xs) := fun H Q q => h _ _ (ht _ _ q)
/-- x = [..] -/
theorem str_lst {k : Nat} (h : StrA t σ xs) (z : xs.length ≤ 1000) (n : NoT H) (q : ∀ p H', Same H H' → NoT H' → H' p = some (.lst (xs.map V.str)) → D.nx (σ.set k (some (.ref p))) H') : tAsg (tLst t) (gName k) D σ H := by
  refine h _ _ ⟨le1000 (by rw [List.length_map]; exact z), fun p hp => ?_⟩
  exact q p _ (Same.upd hp) n.upd upd_same
theorem str_cat {p : Addr} {Q : VK} (hp : H p = some (.lst (xs.map V.str))) (h : StrA t σ ys) (z : xs.length + ys.length ≤ 1000) (n : NoT H) (hv : e = tVar 0 ∧ σ[0]? = some (some (.ref p))) (q : ∀ l H1, Same H H1 → NoT H1 → H1 l = none → Q (.ref l) (upd H1 l (.lst ((xs ++ ys).map V.str)))) : tOp rCat e (tLst t) σ H Q := by
  obtain ⟨rfl, hv⟩ := hv
  refine ⟨_, hv, h _ _ ⟨le1000 (by rw [List.length_map]; omega), fun p2 hp2 => ?_⟩⟩
  refine ⟨p, p2, xs.map V.str, ys.map V.str, rfl, rfl, (Same.upd hp2) _ _ hp, upd_same, ?_, fun l hl => ?_⟩
  · rw [List.length_map, List.length_map, sizeLine_eq]; omega
  · rw [← List.map_append]
    exact q l _ (Same.upd hp2) n.upd hl
theorem str_more {k : Nat} {p : Addr} (hp : H p = some (.lst (xs.map V.str))) (h : StrA t σ ys) (z : xs.length + ys.length ≤ 1000) (n : NoT H) (hv : e = tVar 0 ∧ σ[0]? = some (some (.ref p))) (q : ∀ p H', Same H H' → NoT H' → H' p = some (.lst ((xs ++ ys).map V.str)) → D.nx (σ.set k (some (.ref p))) H') : tAsg (tOp rCat e (tLst t)) (gName k) D σ H :=
  str_cat hp h z n hv fun l H1 s n1 hl => q l _ (s.trans (Same.upd hl)) n1.upd upd_same
def fewA : List Str := ["", "-", " ", "--", "0..0:0", "0..1:5", "1..0:5", "0..0:-1", "-1..0:5", "-2..-1:5", "-0..0:5", "0..-0:5"]
def fewB : List Str := ["00..1:5", "0..01:5", "0..1:05", "0...1:5", "0.1:5", "0..1", "0..1:", "0..:5", "..1:5", ":5"]
def fewC : List Str := ["0..1:5:6", "0..1:5 ", " 0..1:5", "0..1:5  2..3:4", "0..1:5 2..3:4", "0..1:5\n", "0..1:5\t2..3:4"]
def fewD : List Str := ["0 ..1:5", "0.. 1:5", "0..1: 5", "+0..1:5", "0..+1:5", "1_0..20:5", "x..1:5", "0..1:x", "0..1..2:5"]
def fewE : List Str := ["0..1:5,2..3:4", "- 0..1:5", "0..1:" ++ repS "9" 60, "0..1:" ++ repS "9" 61, ("-" : Str) ++ repS "9" 60 ++ "..0:1"]
def fewF : List Str := [repS "9" 4000 ++ "..0:1"]
theorem sat {b : Bool} (P : Prop) [Decidable P] (h : b = true) (e : b = decide P) : P := of_decide_eq_true (e ▸ h)
theorem few_ok : ∀ x ∈ ((((fewA ++ fewB) ++ fewC) ++ fewD) ++ fewE) ++ fewF, TxtOk x := by
  have short : ∀ l : List Str, (l.all fun x => decide (x.length ≤ 900)) = true → ∀ x ∈ l, TxtOk x := fun l h x hx => txt_short (of_decide_eq_true (List.all_eq_true.mp h x hx))
  have c1 : ("0..1:" : Str).length = 5 := by decide +kernel
  have c2 : ("-" : Str).length = 1 := by decide +kernel
  have c3 : ("..0:1" : Str).length = 5 := by decide +kernel
  intro x hx
  rcases List.mem_append.mp hx with hx | hx
  · rcases List.mem_append.mp hx with hx | hx
    · exact short (((fewA ++ fewB) ++ fewC) ++ fewD) (by decide +kernel) x hx
    · refine txt_short ?_
      unfold fewE at hx
      simp only [List.mem_cons, List.not_mem_nil, or_false] at hx
      rcases hx with rfl | rfl | rfl | rfl | rfl
      · decide +kernel
      · decide +kernel
      · rw [str_len_app, nine_len, c1]; omega
      · rw [str_len_app, nine_len, c1]; omega
      · rw [str_len_app, str_len_app, nine_len, c2, c3]; omega
  · rw [List.mem_singleton.mp hx]
    refine txt_of_count (by rw [str_len_app, nine_len, c3]; omega) ?_
    rw [tl_append, nine_tl, List.count_append, List.count_replicate]
    have : (tl ("..0:1" : Str)).count 32 ≤ 5 := by decide +kernel
    rw [if_neg (by decide)]
    omega
theorem pure__law_few (h : sp__law_few K w vs H Q E) (fin : Fin H Q Q0) : t__law_few K w (endS Q0) (start ["_law_some"] vs) H := by
  obtain ⟨rfl, n, q⟩ := h
  have z1 : (fewA).length = 12 := rfl
  refine seq_i fun nx k => ?_
  refine str_lst (xs := fewA) (sa_1 se_c (sa_1 se_c (sa_1 se_c (sa_1 se_c (sa_1 se_c (sa_1 se_c (sa_1 se_c (sa_1 se_c (sa_1 se_c (sa_1 se_c (sa_1 se_c (sa_1 se_c sa_0)))))))))))) (by decide) n fun p1 H1 s1 n1 h1 => k _ _ (seq_i fun nx k => ?_)
  refine str_more (ys := fewB) h1 (sa_1 se_c (sa_1 se_c (sa_1 se_c (sa_1 se_c (sa_1 se_c (sa_1 se_c (sa_1 se_c (sa_1 se_c (sa_1 se_c (sa_1 se_c sa_0)))))))))) (by decide) n1 ⟨rfl, rfl⟩ fun p2 H2 s2 n2 h2 => k _ _ (seq_i fun nx k => ?_)
  refine str_more (ys := fewC) h2 (sa_1 se_c (sa_1 se_c (sa_1 se_c (sa_1 se_c (sa_1 se_c (sa_1 se_c (sa_1 se_c sa_0))))))) (by decide) n2 ⟨rfl, rfl⟩ fun p3 H3 s3 n3 h3 => k _ _ (seq_i fun nx k => ?_)
  refine str_more (ys := fewD) h3 (sa_1 se_c (sa_1 se_c (sa_1 se_c (sa_1 se_c (sa_1 se_c (sa_1 se_c (sa_1 se_c (sa_1 se_c (sa_1 se_c sa_0))))))))) (by decide) n3 ⟨rfl, rfl⟩ fun p4 H4 s4 n4 h4 => k _ _ (seq_i fun nx k => ?_)
  have c1 : ("0..1:" : Str).length = 5 := by decide +kernel
  have c2 : ("-" : Str).length = 1 := by decide +kernel
  have c3 : ("..0:1" : Str).length = 5 := by decide +kernel
  refine str_more (ys := fewE) h4 (sa_1 se_c (sa_1 se_c (sa_1 (se_add se_c (se_nine (n := 60) (by decide) (by decide)) (by rw [nine_len, c1]; omega)) (sa_1 (se_add se_c (se_nine (n := 61) (by decide) (by decide)) (by rw [nine_len, c1]; omega)) (sa_1 (se_add (se_add se_c (se_nine (n := 60) (by decide) (by decide)) (by rw [nine_len, c2]; omega)) se_c (by rw [str_len_app, nine_len, c2, c3]; omega)) sa_0))))) (by decide) n4 ⟨rfl, rfl⟩ fun p5 H5 s5 n5 h5 => k _ _ ?_
  refine str_cat (ys := fewF) h5 (sa_1 (se_add (se_nine (n := 4000) (by decide) (by decide)) se_c (by rw [nine_len, c3]; omega)) sa_0) (by decide) n5 ⟨rfl, rfl⟩ fun l H6 s6 n6 hl => ?_
  have s := (((s1.trans s2).trans s3).trans s4).trans (s5.trans s6)
  have h0 := s.free hl
  exact fin _ _ _ (Shr.one n (s.trans (Same.upd hl)) h0 upd_same (fun _ _ _ z => by cases z)) (q l _ h0 few_ok (by decide))
end
end Spn

namespace Spn
open PySem PySem.Spec PyProof.Rows L2
/-! ### readings -/
/-- law -/
def t_law (K : PySem.W.Frag) (w : World) : TS :=
  (tSeq (tAsg (tCall (sp__law_requests K w) [] E0 (tCons (tVar 0) tNil)) (gName 1))
  (tSeq (tAsg (tLc (iList K (tVar 1)) (gTup K 3 (gCons (gName 9) (gCons (gName 10) (gCons (gName 11) gNil)))) tYes (tOp qAddS (tOp qAddS (tOp qAddS (tOp qAddS (tCB qStrI (tCons (tVar 9) tNil)) (tC (.str ".."))) (tCB qStrI (tCons (tVar 10) tNil))) (tC (.str ":"))) (tCB qStrI (tCons (tVar 11) tNil))) [9, 10, 11]) (gName 2))
  (tSeq (tAsg (tIf (tTest (tOp (rNeD K) (tVar 2) (tLst tNil))) (tM1 (qJoin K) (tC (.str " ")) (tVar 2)) (tC (.str "-"))) (gName 3))
  (tSeq (tAsg (tCB (qList K) (tCons (tVar 1) tNil)) (gName 4))
  (tSeq (tIfS (tOr (tTest (tOp rNe (tCall (sp_writtenX K w) [] E0 (tCons (tVar 4) tNil)) (tVar 3))) (tOr (tTest (tOp (rNeD K) (tVar 4) (tVar 1))) (tNot (tB (tCall (sp__law_right K w) [] E0 (tCons (tVar 3) tNil)))))) (tRet (tC (.bl false))) tNext)
  (tSeq (tAsg (tOp qAdd (tCall (sp__law_cell_at K w) [] E0 (tCons (tVar 0) (tCons (tC (.int 3)) tNil))) (tOp qMul (tC (.int 7)) (tCall (sp__law_cell_at K w) [] E0 (tCons (tVar 0) (tCons (tC (.int 0)) tNil))))) (gName 5))
  (tSeq (tFor (iRng1 (tCons (tC (.int 2)) tNil)) (gName 6) (tSeq (tAsg (tCall (sp__law_draw K w) [] E0 (tCons (tOp qAdd (tVar 5) (tVar 6)) (tCons (tC (.int 1)) (tCons (tOp qAdd (tCB qLenS (tCons (tVar 3) tNil)) (tC (.int 1))) tNil)))) (gName 7))
  (tSeq (tAsg (tOp (rIxT K) (tTup (tCons (tC (.str "")) (tCons (tOp rIxS (tC (.str "0123456789:. -x\n")) (tCall (sp__law_draw K w) [] E0 (tCons (tOp qAdd (tVar 5) (tVar 6)) (tCons (tC (.int 2)) (tCons (tC (.int 16)) tNil))))) tNil))) (tCall (sp__law_draw K w) [] E0 (tCons (tOp qAdd (tVar 5) (tVar 6)) (tCons (tC (.int 3)) (tCons (tC (.int 2)) tNil))))) (gName 8))
  (tIfS (tNot (tB (tCall (sp__law_right K w) [] E0 (tCons (tOp qAddS (tOp qAddS (L2.tSl rSlS (tVar 3) tNoPart (tPart (tVar 7))) (tVar 8)) (L2.tSl rSlS (tVar 3) (tPart (tOp qAdd (tVar 7) (tCall (sp__law_draw K w) [] E0 (tCons (tOp qAdd (tVar 5) (tVar 6)) (tCons (tC (.int 4)) (tCons (tC (.int 2)) tNil)))))) tNoPart)) tNil)))) (tRet (tC (.bl false))) tNext))))
  (tSeq (tIfS (tNot (tB (tCB (rAll K) (tCons (tLc (iList K (tCall (sp__law_few K w) [] E0 tNil)) (gName 13) tYes (tCall (sp__law_right K w) [] E0 (tCons (tVar 13) tNil)) [13]) tNil)))) (tRet (tC (.bl false))) tNext)
  (tRet (tCB (rAll K) (tCons (tLc (iList K (tLst (tCons (tC .non) (tCons (tC (.int 5)) (tCons (tLst (tCons (tC (.str "0..1:5")) tNil)) (tCons (tC (.bl true)) tNil)))))) (gName 12) tYes (tCall (sp__law_refused K w) [] E0 (tCons (tVar 12) tNil)) [12]) tNil)))))))))))

end Spn

namespace Spn
open PySem PySem.Spec PyProof.Rows L2 TL
def sp_law (K : PySem.W.Frag) (w : World) : Sp := fun vs H Q _ => ∃ a ns, vs = [.ref a] ∧ ScrAt K H a ns ∧ ns.length ≤ 63 ∧ NoT H ∧ ∀ H', Q (.bl true) H'
section
variable {K : PySem.W.Frag} {w : World} {vs : List V} {H : Hp} {Q Q0 : VK} {E : XK}
theorem dp_strs (H : Hp) : ∀ ws : List Str, DpAll K H (ws.map V.str) (ws.map PyData.str)
  | [] => .nil
  | x :: ws => .cons (.str x) (dp_strs H ws)
theorem strI_lt (i : Int) : ∀ c ∈ strI i, c < 0x110000 := by
  have f : ∀ n, ∀ c ∈ numL n, c < 0x110000 := fun n c hc => by have := numL_digits n c hc; omega
  unfold strI
  split
  · intro c h
    rcases List.mem_cons.mp h with rfl | h
    · decide
    · exact f _ c h
  · exact f _
theorem wrR_ok (r : Rq) : PyData.strOk (wrR r) = true := by
  have e1 : ∀ c ∈ tl (".." : Str), c < 0x110000 := by decide +kernel
  have e2 : ∀ c ∈ tl (":" : Str), c < 0x110000 := by decide +kernel
  have key : ∀ c ∈ tl (wrR r), c < 0x110000 := by
    unfold wrR
    rw [tl_append, tl_append, tl_append, tl_append, tl_strI, tl_strI, tl_strI]
    intro c hc
    simp only [List.mem_append] at hc
    rcases hc with (((h | h) | h) | h) | h
    · exact strI_lt _ c h
    · exact e1 c h
    · exact strI_lt _ c h
    · exact e2 c h
    · exact strI_lt _ c h
  unfold PyData.strOk
  rw [← Array.all_toList, List.all_eq_true]
  exact fun c hc => decide_eq_true (key c hc)
theorem rneD_S {a b : Addr} {rs : List Rq} {Q : VK} (h1 : H a = some (.lst ((rs.map wrR).map V.str))) (h2 : H b = some (.lst [])) (q : Q (.bl (!decide (rs.length = 0))) H) : rNeD K (.ref a) (.ref b) H Q := by
  refine ⟨_, _, .lst (SqL.of h1) (dp_strs H _), .lst (SqL.of h2) .nil, ?_, by decide +kernel, ?_⟩
  · rw [List.map_map]
    exact sh_list (fun r => PyData.str (wrR r)) wrR_ok (fun _ => Nat.zero_le _) rs
  · have e : PyData.eqv (.list ((rs.map wrR).map PyData.str)) (.list []) = decide (rs.length = 0) := by
      cases rs <;> rfl
    rw [e]
    exact q
theorem paired_str (xs : List Str) : Paired (fun (v : V) x => v = V.str x) (xs.map V.str) xs := by
  induction xs with
  | nil => exact .nil
  | cons x xs ih => exact .cons rfl ih
theorem at_some {α : Type} {xs : List α} {i : Int} (h0 : 0 ≤ i) (h1 : i < xs.length) : ∃ c, atI xs i = some c := by
  unfold atI ixN
  rw [if_pos h0, if_pos h1]
  exact ⟨_, List.getElem?_eq_getElem (by omega : i.toNat < xs.length)⟩
theorem sign_len (c : Nat) : (⟨#[c]⟩ : Str).length = 1 := rfl
theorem small_of {rs : List Rq} (ok : OkL rs) : rs.all small = true := by
  rw [List.all_eq_true]
  intro r hr
  obtain ⟨h1, h2, h3, h4, h5⟩ := ok r hr
  refine (small_iff h2).mpr ?_
  have e : ((10 : Int) ^ 60) = ((10 ^ 60 : Nat) : Int) := by decide +kernel
  rw [e] at h3 h4 h5
  generalize (10 ^ 60 : Nat) = m at h3 h4 h5 ⊢
  omega
/-- a text with one sign changed -/
theorem edit_ok {x s : Str} {i d : Int} (zx : x.length ≤ 30000) (cx : (tl x).count 32 ≤ 200) (hs : s.length ≤ 1) (h0 : 0 ≤ i) (d0 : 0 ≤ d) : TxtOk (cutS x none (some i) ++ s ++ cutS x (some (i + d)) none) := by
  obtain ⟨k, rfl⟩ := Int.eq_ofNat_of_zero_le h0
  obtain ⟨m, rfl⟩ := Int.eq_ofNat_of_zero_le d0
  have e1 := cut_to x k
  have e2 : tl (cutS x (some ((k : Int) + m)) none) = (tl x).drop (k + m) := by
    have := cut_from x (k + m)
    rw [Int.natCast_add] at this
    exact this
  have l0 := len_tl x
  have l1 := len_tl s
  refine txt_of_count ?_ ?_
  · rw [len_tl, tl_append, tl_append, e1, e2, List.length_append, List.length_append, List.length_take, List.length_drop]
    omega
  · rw [tl_append, tl_append, e1, e2, List.count_append, List.count_append]
    have a := (List.take_sublist k (tl x)).count_le 32
    have b := (List.drop_sublist (k + m) (tl x)).count_le 32
    have c := List.count_le_length (a := 32) (l := tl s)
    omega
theorem pure_law (h : sp_law K w vs H Q E) (fin : Fin H Q Q0) : t_law K w (endS Q0) (start ["_law_script", "_law_requests_here", "_law_words", "_law_text", "_law_handed", "_law_cell", "_law_k", "_law_at", "_law_sign", "_law_first", "_law_last", "_law_price", "_law_thing", "_law_other"] vs) H := by
  obtain ⟨a, sc, rfl, hs, hl, n, q⟩ := h
  have q : ∀ H', Same H H' → Q0 (.bl true) H' := fun H' s => fin.same n s (q H)
  refine seq_i fun nx k => ?_
  try walk_at "rd"
  refine ⟨a, sc, rfl, hs, hl, n, fun H1 pr rs s1 n1 hpr hr ok zr => k _ _ (seq_i fun nx2 k2 => ?_)⟩
  have okr := ok.r
  have sm := small_of ok
  have sm3 : ∀ r ∈ rs, r.1.natAbs < 10 ^ 60 ∧ r.2.1.natAbs < 10 ^ 60 ∧ r.2.2.natAbs < 10 ^ 60 := fun r hr => (small_iff (okr r hr).2).mp (List.all_eq_true.mp sm r hr)
  have wl := write_len fun r hr => wrR_len (sm3 r hr).1 (sm3 r hr).2.1 (sm3 r hr).2.2
  have tok : TxtOk (writeT rs) := txt_of_count (by omega) (by omega)
  obtain ⟨us, ea, pr1⟩ := id hr
  try walk_at "rd"
  refine tLc_list rs (fun r => some (.str (wrR r))) (fun R h => ⟨_, rfl, h⟩) ea pr1 (le1000 (by omega)) ?_ ?_
  · rintro D v r acc Nx hD ⟨t, rfl, ht⟩ hm add _
    refine gtup3 (Same.upd hD _ _ ht) ?_
    obtain ⟨m1, m2, m3⟩ := sm3 r hm
    have a1 := len_strI (k := 60) (by decide) m1
    have a2 := len_strI (k := 60) (by decide) m2
    have a3 := len_strI (k := 60) (by decide) m3
    have b1 : ((".." : Str)).length = 2 := by decide +kernel
    have b2 : ((":" : Str)).length = 1 := by decide +kernel
    try walk_at "rd"
    refine ⟨_, rfl, log_lt m1, _, _, rfl, rfl, le1000 (by rw [b1]; omega), _, rfl, log_lt m2, _, _, rfl, rfl, le1000 (by rw [str_len_app, b1]; omega), _, _, rfl, rfl, le1000 (by rw [str_len_app, str_len_app, b1, b2]; omega), _, rfl, log_lt m3, _, _, rfl, rfl, le1000 (by rw [str_len_app, str_len_app, str_len_app, b1, b2]; omega), ?_⟩
    exact add _ rfl
  intro D2 hD2
  rw [fm_map wrR V.str]
  have s2 := Same.upd2 (o := .lst ((rs.map wrR).map V.str)) s1 hD2
  have n2 : NoT (upd H1 D2 (.lst ((rs.map wrR).map V.str))) := n1.upd
  have hw : (upd H1 D2 (.lst ((rs.map wrR).map V.str)) : Hp) D2 = some (.lst ((rs.map wrR).map V.str)) := upd_same
  have hr2 : ReqsAt (upd H1 D2 (.lst ((rs.map wrR).map V.str))) pr rs := hr.same (Same.upd hD2)
  generalize (upd H1 D2 (.lst ((rs.map wrR).map V.str)) : Hp) = H2 at s2 n2 hw hr2 ⊢
  refine k2 _ _ (seq_i fun nx3 k3 => ?_)
  have after : ∀ H3, Same H2 H3 → NoT H3 → nx3 [some (.ref a), some (.ref pr), some (.ref D2), some (.str (writeT rs)), none, none, none, none, none, none, none, none, none, none] H3 := by
    intro H3 s23 n3
    have s3 := s2.trans s23
    have hr3 := hr2.same s23
    obtain ⟨rv3, er3, pr3⟩ := id hr3
    refine k3 _ _ (seq_i fun nx4 k4 => ?_)
    try walk_at "rd"
    refine ⟨pr, rv3, rfl, .inl (SqL.of er3), fun ph hph => k4 _ _ (seq_i fun nx5 k5 => if_i fun th el h1 h2 => ?_)⟩
    have s4 := Same.upd2 (o := .lst rv3) s3 hph
    have n4 : NoT (upd H3 ph (.lst rv3)) := n3.upd
    have hr4 : ReqsAt (upd H3 ph (.lst rv3)) pr rs := hr3.same (Same.upd hph)
    have hh4 : ReqsAt (upd H3 ph (.lst rv3)) ph rs := ⟨rv3, upd_same, pr3.mono fun _ _ q => q.same (Same.upd hph)⟩
    generalize (upd H3 ph (.lst rv3) : Hp) = H4 at s4 n4 hr4 hh4 ⊢
    try walk_at "rd"
    refine ⟨_, rfl, n4, .inr ⟨ph, rs, rfl, hh4, okr, by omega, .inr ⟨sm, rne_str ⟨_, rfl, ?_⟩⟩⟩⟩
    rw [decide_eq_true rfl]
    refine iteF (rneD_R hh4 hr4 ⟨_, rfl, ?_⟩)
    rw [decide_eq_true rfl]
    refine iteF ⟨_, rfl, tok, n4, ⟨_, rfl, iteF (h2 _ (k5 _ _ (seq_i fun nx6 k6 => ?_)))⟩⟩
    have hs4 := hs.same s4
    try walk_at "rd"
    refine ⟨a, sc, 3, rfl, hs4, by decide, n4, fun c1 => ⟨a, sc, 0, rfl, hs4, by decide, n4, fun c2 => ?_⟩⟩
    refine ⟨c2, rfl, .inl ⟨by decide, by decide⟩, c1, rfl, k6 _ _ (seq_i fun nx7 k7 => ?_)⟩
    generalize c1 + 7 * c2 = cc
    refine tFor_rng1 (n := 2) (fun R h => h) (by decide) (fun i σ H' => ∃ x6 x7 x8, σ = [some (.ref a), some (.ref pr), some (.ref D2), some (.str (writeT rs)), some (.ref ph), some (.int cc), x6, x7, x8, none, none, none, none, none] ∧ Same H4 H' ∧ NoT H') ⟨none, none, none, rfl, Same.refl _, n4⟩ ?_ ?_
    · rintro i σ H' nxL kL hi ⟨x6, x7, x8, rfl, s5, n5⟩
      have zt : (writeT rs).length ≤ 30000 := by omega
      refine seq_i fun nx8 k8 => ?_
      try walk_at "rd"
      refine ⟨writeT rs, rfl, by rw [sizeLine_eq]; omega, _, rfl, cc + i, 1, _, rfl, by decide, by omega, n5, fun at_ at0 at1 => k8 _ _ (seq_i fun nx9 k9 => ?_)⟩
      try walk_at "rd"
      refine ⟨cc + i, 2, 16, rfl, by decide, by decide, n5, fun sg sg0 sg1 => ?_⟩
      have ls : (("0123456789:. -x\n" : Str).cps.toList).length = 16 := by decide +kernel
      obtain ⟨ch, hch⟩ := at_some (xs := ("0123456789:. -x\n" : Str).cps.toList) sg0 (by rw [ls]; exact sg1)
      refine ⟨_, sg, ch, rfl, rfl, by decide +kernel, hch, by decide, fun t ht => ?_⟩
      have s6 := Same.upd (o := .tup [V.str "", .str ⟨#[ch]⟩]) ht
      have n6 : NoT (upd H' t (.tup [V.str "", .str ⟨#[ch]⟩])) := n5.upd
      have ht6 : (upd H' t (.tup [V.str "", .str ⟨#[ch]⟩]) : Hp) t = some (.tup [V.str "", .str ⟨#[ch]⟩]) := upd_same
      generalize (upd H' t (.tup [V.str "", .str ⟨#[ch]⟩]) : Hp) = H6 at s6 n6 ht6 ⊢
      refine ⟨cc + i, 3, 2, rfl, by decide, by decide, n6, fun d3 d30 d31 => ?_⟩
      have fin_ : ∀ s : Str, s.length ≤ 1 → nx9 [some (.ref a), some (.ref pr), some (.ref D2), some (.str (writeT rs)), some (.ref ph), some (.int cc), some (.int i), some (.int at_), some (.str s), none, none, none, none, none] H6 := by
        intro s hs1
        refine k9 _ _ (if_i fun th el h1 h2 => ?_)
        try walk_at "rd"
        refine ⟨writeT rs, rfl, by rw [sizeLine_eq]; omega, _, s, rfl, rfl, ?_, cc + i, 4, 2, rfl, by decide, by decide, n6, fun d4 d40 d41 => ⟨d4, rfl, writeT rs, rfl, by rw [sizeLine_eq]; omega, _, _, rfl, rfl, ?_, ?_⟩⟩
        · have := cutS_length (writeT rs) none (some at_)
          rw [sizeLine_eq]; omega
        · have := cutS_length (writeT rs) none (some at_)
          have := cutS_length (writeT rs) (some (at_ + d4)) none
          rw [str_len_app, sizeLine_eq]; omega
        · refine ⟨_, rfl, edit_ok zt (by omega) hs1 at0 d40, n6, _, rfl, iteF (h2 _ ?_)⟩
          exact kL _ _ ⟨_, _, _, rfl, s5.trans s6, n6⟩
      have d3c : d3 = 0 ∨ d3 = 1 := by omega
      rcases d3c with rfl | rfl
      · exact rix_tup ht6 (by decide) rfl (fin_ "" (by decide +kernel))
      · exact rix_tup ht6 (by decide) rfl (fin_ _ (Nat.le_refl _))
    · rintro σ H' ⟨x6, x7, x8, rfl, s5, n5⟩
      refine k7 _ _ (seq_i fun nx8 k8 => if_i fun th el h1 h2 => ?_)
      try walk_at "rd"
      suffices body : ∀ (p : Addr) (xs : List Str), H' p = none → (∀ x ∈ xs, TxtOk x) → xs.length ≤ 100 → tLc (iList K fun _ _ R => R (.ref p) (upd H' p (.lst (xs.map V.str)))) (gName 13) tYes (tCall (sp__law_right K w) [] E0 (tCons (tVar 13) tNil)) [13]
          [some (V.ref a), some (V.ref pr), some (V.ref D2), some (V.str (writeT rs)), some (V.ref ph), some (V.int cc), x6, x7, x8, none, none, none, none, none] (upd H' p (.lst (xs.map V.str))) (fun x H1 => rAll K [x] H1 fun x H1 => ∃ c, x = V.bl c ∧ if (!c) = true then th H1 else el H1) by
        exact ⟨rfl, n5, fun p xs hp ok z => body p xs hp ok z⟩
      intro p xs hp ok z
      have s6 := s5.trans (Same.upd (o := .lst (xs.map V.str)) hp)
      refine tLc_list (K := K) (a := p) (R := fun v x => v = V.str x) xs (fun _ => some (.bl true)) (fun R h => h) upd_same (paired_str xs) (le1000 (by omega)) ?_ ?_
      · rintro D _ x acc Nx hD rfl hm add _
        try walk_at "rd"
        exact ⟨_, rfl, ok x hm, n5.upd.upd, add _ rfl⟩
      · intro D hD
        refine all_new (bs := xs.map fun _ => true) (by rw [fm_map (fun _ : Str => true) V.bl]) ⟨_, rfl, ?_⟩
        have e : (xs.map fun _ => true).all id = true := by simp
        rw [e]
        refine iteF (h2 _ (k8 _ _ ?_))
        have s7 := s6.trans (Same.upd (o := .lst (xs.filterMap fun _ => some (V.bl true))) hD)
        have n7 : NoT (upd (upd H' p (.lst (xs.map V.str))) D (.lst (xs.filterMap fun _ => some (V.bl true)))) := n5.upd.upd
        generalize (upd (upd H' p (.lst (xs.map V.str))) D (.lst (xs.filterMap fun _ => some (V.bl true))) : Hp) = H7 at s7 n7 ⊢
        suffices body : ∀ l1 p, H7 l1 = none → (upd H7 l1 (.lst [.str "0..1:5"]) : Hp) p = none → tLc (iList K fun _ _ R => R (.ref p) (upd (upd H7 l1 (.lst [.str "0..1:5"])) p (.lst [.non, .int 5, .ref l1, .bl true]))) (gName 12) tYes (tCall (sp__law_refused K w) [] E0 (tCons (tVar 12) tNil)) [12]
            [some (.ref a), some (.ref pr), some (.ref D2), some (.str (writeT rs)), some (.ref ph), some (.int cc), x6, x7, x8, none, none, none, none, none] (upd (upd H7 l1 (.lst [.str "0..1:5"])) p (.lst [.non, .int 5, .ref l1, .bl true])) (fun x H1 => rAll K [x] H1 Q0) by
          exact ⟨by show 1 ≤ sizeLine; decide, fun l1 h1 => ⟨by show 4 ≤ sizeLine; decide, fun p hp => body l1 p h1 hp⟩⟩
        intro l1 p hl1 hp
        have sA := Same.upd (o := .lst [V.str "0..1:5"]) hl1
        have sB := Same.upd (o := .lst [V.non, .int 5, .ref l1, .bl true]) hp
        have nB : NoT (upd (upd H7 l1 (.lst [.str "0..1:5"])) p (.lst [.non, .int 5, .ref l1, .bl true])) := n7.upd.upd
        have e1 := sB _ _ (upd_same (H := H7) (a := l1) (o := .lst [V.str "0..1:5"]))
        refine tLc_list (K := K) (a := p) (R := fun v y => v = y) [V.non, .int 5, .ref l1, .bl true] (fun _ => some (.bl true)) (fun R h => h) upd_same (.cons rfl (.cons rfl (.cons rfl (.cons rfl .nil)))) (le1000 (by show 4 ≤ 1000; decide)) ?_ ?_
        · rintro D v y acc Nx hD rfl hm add _
          try walk_at "rd"
          refine ⟨v, rfl, nB.upd, .inl ?_, add _ rfl⟩
          simp only [List.mem_cons, List.not_mem_nil, or_false] at hm
          rcases hm with rfl | rfl | rfl | rfl
          · exact .inl rfl
          · exact .inr (.inl ⟨_, rfl⟩)
          · exact .inr (.inr (.inr ⟨l1, _, rfl, (Same.upd hD) _ _ e1⟩))
          · exact .inr (.inr (.inl ⟨_, rfl⟩))
        · intro D hD
          refine all_new (bs := [true, true, true, true]) rfl ?_
          exact q _ (s4.trans (s7.trans ((sA.trans sB).trans (Same.upd hD))))
  try walk_at "rd"
  refine ⟨Nat.zero_le _, fun p hp => ?_⟩
  have s23 := Same.upd (o := .lst []) hp
  have n23 : NoT (upd H2 p (.lst [])) := n2.upd
  refine rneD_S (s23 _ _ hw) upd_same ⟨_, rfl, ?_⟩
  by_cases z0 : rs.length = 0
  · rw [decide_eq_true z0]
    refine iteF ?_
    have e0 : writeT rs = "-" := if_pos z0
    rw [← e0]
    exact after _ s23 n23
  · rw [decide_eq_false z0]
    refine iteT ?_
    have e1 : Txt.join " " (rs.map wrR) = writeT rs := (if_neg z0).symm
    have ls := sum_len (k := 190) fun r hr => wrR_len (sm3 r hr).1 (sm3 r hr).2.1 (sm3 r hr).2.2
    have b1 : ((" " : Str)).length = 1 := by decide +kernel
    simp only [L2.tM1]
    try walk_at "rd"
    refine ⟨⟨_, rfl⟩, _, D2, rs.map wrR, rfl, rfl, .inl (SqL.of (s23 _ _ hw)), by rw [b1, List.length_map]; omega, ?_⟩
    rw [e1]
    exact after _ s23 n23
end
end Spn
namespace Spn
open PySem PySem.Spec PyProof.Rows L2
/-! ### the text, by its places -/
def top (i : Nat) : Stmt := PySem.Challenge.pw_spantolls_k06_written.main.body.getD i (.Pass ⟨0, 0, 0, 0⟩)
abbrev s__law_draw : Stmt := top 18
abbrev s__law_cell_at : Stmt := top 17
abbrev s__law_requests : Stmt := top 19
abbrev s_is_whole : Stmt := top 7
abbrev s_is_requestX : Stmt := top 8
abbrev s_check_requestsX : Stmt := top 9
abbrev s_writtenX : Stmt := top 13
abbrev s__law_number : Stmt := top 26
abbrev s__law_in : Stmt := top 27
abbrev s_number_in : Stmt := top 14
abbrev s_read : Stmt := top 15
abbrev s__law_refused : Stmt := top 28
abbrev s__law_right : Stmt := top 29
abbrev s__law_few : Stmt := top 30
abbrev s_law : Stmt := top 31
theorem sc__law_draw : FnScope ["_law_cell", "_law_k", "_law_many", "_law_primes"] ["_law_cell", "_law_k", "_law_many"] (defScope s__law_draw) := ⟨rfl, rfl, rfl, by decide +kernel, rfl, by decide +kernel, by decide +kernel⟩
theorem sc__law_cell_at : FnScope ["_law_script", "_law_k"] ["_law_script", "_law_k"] (defScope s__law_cell_at) := ⟨rfl, rfl, rfl, by decide +kernel, rfl, by decide +kernel, by decide +kernel⟩
theorem sc__law_requests : FnScope ["_law_script", "_law_found", "_law_k", "_law_first", "_law_kind", "_law_times", "_law_days", "_law_most", "_law_each", "_law_cell", "_law_last"] ["_law_script"] (defScope s__law_requests) := ⟨rfl, rfl, rfl, by decide +kernel, rfl, by decide +kernel, by decide +kernel⟩
theorem sc_is_whole : FnScope ["thing"] ["thing"] (defScope s_is_whole) := ⟨rfl, rfl, rfl, by decide +kernel, rfl, by decide +kernel, by decide +kernel⟩
theorem sc_is_requestX : FnScope ["thing", "one"] ["thing"] (defScope s_is_requestX) := ⟨rfl, rfl, rfl, by decide +kernel, rfl, by decide +kernel, by decide +kernel⟩
theorem sc_check_requestsX : FnScope ["requests", "request"] ["requests"] (defScope s_check_requestsX) := ⟨rfl, rfl, rfl, by decide +kernel, rfl, by decide +kernel, by decide +kernel⟩
theorem sc_writtenX : FnScope ["requests", "first", "last", "price"] ["requests"] (defScope s_writtenX) := ⟨rfl, rfl, rfl, by decide +kernel, rfl, by decide +kernel, by decide +kernel⟩
theorem sc__law_number : FnScope ["_law_text", "_law_figures"] ["_law_text"] (defScope s__law_number) := ⟨rfl, rfl, rfl, by decide +kernel, rfl, by decide +kernel, by decide +kernel⟩
theorem sc__law_in : FnScope ["_law_text", "_law_found", "_law_word", "_law_days", "_law_colon", "_law_price", "_law_first", "_law_dots", "_law_last", "_law_one"] ["_law_text"] (defScope s__law_in) := ⟨rfl, rfl, rfl, by decide +kernel, rfl, by decide +kernel, by decide +kernel⟩
theorem sc_number_in : FnScope ["word", "figures"] ["word"] (defScope s_number_in) := ⟨rfl, rfl, rfl, by decide +kernel, rfl, by decide +kernel, by decide +kernel⟩
theorem sc_read : FnScope ["text", "found", "word", "days", "colon", "price", "first", "dots", "last"] ["text"] (defScope s_read) := ⟨rfl, rfl, rfl, by decide +kernel, rfl, by decide +kernel, by decide +kernel⟩
theorem sc__law_refused : FnScope ["_law_text", "error", "_law_others"] ["_law_text"] (defScope s__law_refused) := ⟨rfl, rfl, rfl, by decide +kernel, rfl, by decide +kernel, by decide +kernel⟩
theorem sc__law_right : FnScope ["_law_text", "_law_wanted", "_law_found"] ["_law_text"] (defScope s__law_right) := ⟨rfl, rfl, rfl, by decide +kernel, rfl, by decide +kernel, by decide +kernel⟩
theorem sc__law_few : FnScope ["_law_some"] [] (defScope s__law_few) := ⟨rfl, rfl, rfl, by decide +kernel, rfl, by decide +kernel, by decide +kernel⟩
theorem sc_law : FnScope ["_law_script", "_law_requests_here", "_law_words", "_law_text", "_law_handed", "_law_cell", "_law_k", "_law_at", "_law_sign", "_law_first", "_law_last", "_law_price", "_law_thing", "_law_other"] ["_law_script"] (defScope s_law) := ⟨rfl, rfl, rfl, by decide +kernel, rfl, by decide +kernel, by decide +kernel⟩
/-! ### facts of the module -/
/-- isinstance, of a thing of class c -/
structure IsaX (K : PySem.W.Frag) (c : Str) : Prop where
  ha : PySem.W.findIn K (.ref (He.ga K c)) "__class__" = some (some (.builtin "object.__class__"))
  hn : PySem.W.specialIn K (.builtin "object.__class__") "__get__" = some (some (.builtin "getset_descriptor.__get__"))
  htk : PySem.W.takesIn K (.builtin "object.__class__") = some true
  hm : PySem.W.mroIn K (He.ga K c) (.type "object") = some true
theorem IsaX.isa {K : PySem.W.Frag} {c : Str} (h : IsaX K c) (cl : Cls K (He.ga K c)) : Isa K c := ⟨cl, h.ha, h.hn, h.htk, h.hm⟩
inductive Fx where
  | isa (c : Str)
  | kit (c d : Str) (b : Bool)
  | kitV (c : Str) (b : Bool)
  | excC (c : Str)
def Fx.ok (K : PySem.W.Frag) : Fx → Bool
  | .isa c => He.eqO (PySem.W.findIn K (.ref (He.ga K c)) "__class__") (some (some (.builtin "object.__class__"))) && (He.eqO (PySem.W.specialIn K (.builtin "object.__class__") "__get__") (some (some (.builtin "getset_descriptor.__get__"))) && (decide (PySem.W.takesIn K (.builtin "object.__class__") = some true) && decide (PySem.W.mroIn K (He.ga K c) (.type "object") = some true)))
  | .kit c d b => decide (PySem.W.kitOne K (.ref (He.ga K c)) (.ref (He.ga K d)) = some b)
  | .kitV c b => decide (PySem.W.kitOne K (.ref (He.ga K c)) (.type "ValueError") = some b)
  | .excC c => He.eqO (PySem.W.findIn K (.ref (He.ga K c)) "__getattribute__") (some (some (.builtin "BaseException.__getattribute__"))) && (He.eqO (PySem.W.findIn K (.ref (He.ga K c)) "__getattr__") (some none) && (decide (PySem.W.subIn K (.ref (He.ga K c)) (.type "BaseException") = some true) && (PySem.W.hasDictIn K (He.ga K c) && (He.eqO (PySem.W.findIn K (.ref (He.ga K c)) "__class__") (some (some (.builtin "object.__class__"))) && (He.eqO (PySem.W.specialIn K (.builtin "object.__class__") "__get__") (some (some (.builtin "getset_descriptor.__get__"))) && (decide (PySem.W.takesIn K (.builtin "object.__class__") = some true) && decide (PySem.W.mroIn K (He.ga K c) (.type "object") = some true)))))))
theorem fx_kitV {K : PySem.W.Frag} {c : Str} {b : Bool} (h : (Fx.kitV c b).ok K = true) : PySem.W.kitOne K (.ref (He.ga K c)) (.type "ValueError") = some b := of_decide_eq_true h
theorem fx_excC {K : PySem.W.Frag} {c : Str} (h : (Fx.excC c).ok K = true) : ExcC K (He.ga K c) := by
  obtain ⟨h1, h⟩ := He.ba h
  obtain ⟨h2, h⟩ := He.ba h
  obtain ⟨h3, h⟩ := He.ba h
  obtain ⟨h4, h⟩ := He.ba h
  obtain ⟨h5, h⟩ := He.ba h
  obtain ⟨h6, h⟩ := He.ba h
  obtain ⟨h7, h8⟩ := He.ba h
  exact ⟨He.eqO_ok h1, He.eqO_ok h2, of_decide_eq_true h3, h4, He.eqO_ok h5, He.eqO_ok h6, of_decide_eq_true h7, of_decide_eq_true h8⟩
theorem fx_isa {K : PySem.W.Frag} {c : Str} (h : (Fx.isa c).ok K = true) : IsaX K c := by
  obtain ⟨h1, h⟩ := He.ba h
  obtain ⟨h2, h⟩ := He.ba h
  obtain ⟨h3, h4⟩ := He.ba h
  exact ⟨He.eqO_ok h1, He.eqO_ok h2, of_decide_eq_true h3, of_decide_eq_true h4⟩
theorem fx_kit {K : PySem.W.Frag} {c d : Str} {b : Bool} (h : (Fx.kit c d b).ok K = true) : Kit K c d b := by
  unfold Kit
  exact of_decide_eq_true h
def obsX (fa : List He.Fa) (fn : List He.DefD) (fx : List Fx) (K : PySem.W.Frag) : He.AlD × Bool := (He.obsD fa fn K, fx.all fun f => f.ok K)
def SaysX (fa : List He.Fa) (fn : List He.DefD) (fx : List Fx) (K : PySem.W.Frag) : Prop := He.SaysD fa fn K ∧ (fx.all fun f => f.ok K) = true
theorem fx_at {K : PySem.W.Frag} {fx : List Fx} (h : (fx.all fun f => f.ok K) = true) (i : Nat) {f : Fx} (e : fx[i]? = some f := by rfl) : f.ok K = true := List.all_eq_true.mp h f (List.mem_of_getElem? e)
def obsXG (n : Nat) (fa : List He.Fa) (fn : List He.DefD) (fx : List Fx) (g : Addr → Option Obj) : He.AlD × Bool := obsX fa fn fx (He.frG g (He.asD g n))
def hookX (n : Nat) (fa : List He.Fa) (fn : List He.DefD) (fx : List Fx) : PySem.W.Hook where
  α := He.AlD × Bool
  obs := fun s => obsXG n fa fn fx s.heap.get?
  val := fun _ => (He.valD fn, true)
  says := fun _ h => ∃ K : PySem.W.Frag, K.In h ∧ SaysX fa fn fx K
  of := fun _ _ e => ⟨_, He.frG_in, congrArg (fun z : He.AlD × Bool => z.1) e, congrArg (fun z : He.AlD × Bool => z.2) e⟩
  keeps := fun _ _ _ ⟨K, hK, c⟩ k => ⟨K, PySem.W.Frag.In.keeps hK k, c⟩
theorem obsXG_eq {n : Nat} {fa : List He.Fa} {fn : List He.DefD} {fx : List Fx} {g : Addr → Option Obj} {s : Shared} (h : ∀ a, g a = s.heap.get? a) : obsXG n fa fn fx g = (hookX n fa fn fx).obs s := by
  have e : g = s.heap.get? := funext h
  rw [e] <;> rfl
theorem noT_only {H : Hp} (h : Only H) : NoT H := fun a o e => by
  rcases h a with h | ⟨ob, xs, h⟩
  · rw [h] at e; cases e
  · rw [h] at e; cases e; rfl

/-- what the walks ask of the module -/
structure Txt (K : PySem.W.Frag) (mg : Str → Option Value) : Prop where
  d__law_draw : ∃ fd, FunD K "_law_draw" "_law_draw" (defArgs s__law_draw) (defBody s__law_draw) (defScope s__law_draw) [] [] (He.fAd K ("_law_draw", none)) fd
  d__law_cell_at : ∃ fd, FunD K "_law_cell_at" "_law_cell_at" (defArgs s__law_cell_at) (defBody s__law_cell_at) (defScope s__law_cell_at) [] [] (He.fAd K ("_law_cell_at", none)) fd
  d__law_requests : ∃ fd, FunD K "_law_requests" "_law_requests" (defArgs s__law_requests) (defBody s__law_requests) (defScope s__law_requests) [] [] (He.fAd K ("_law_requests", none)) fd
  d_is_whole : ∃ fd, FunD K "is_whole" "is_whole" (defArgs s_is_whole) (defBody s_is_whole) (defScope s_is_whole) [] [] (He.fAd K ("is_whole", none)) fd
  d_is_requestX : ∃ fd, FunD K "is_request" "is_request" (defArgs s_is_requestX) (defBody s_is_requestX) (defScope s_is_requestX) [] [] (He.fAd K ("is_request", none)) fd
  d_check_requestsX : ∃ fd, FunD K "check_requests" "check_requests" (defArgs s_check_requestsX) (defBody s_check_requestsX) (defScope s_check_requestsX) [] [] (He.fAd K ("check_requests", none)) fd
  d_writtenX : ∃ fd, FunD K "written" "written" (defArgs s_writtenX) (defBody s_writtenX) (defScope s_writtenX) [] [] (He.fAd K ("written", none)) fd
  d__law_number : ∃ fd, FunD K "_law_number" "_law_number" (defArgs s__law_number) (defBody s__law_number) (defScope s__law_number) [] [] (He.fAd K ("_law_number", none)) fd
  d__law_in : ∃ fd, FunD K "_law_in" "_law_in" (defArgs s__law_in) (defBody s__law_in) (defScope s__law_in) [] [] (He.fAd K ("_law_in", none)) fd
  d_number_in : ∃ fd, FunD K "number_in" "number_in" (defArgs s_number_in) (defBody s_number_in) (defScope s_number_in) [] [] (He.fAd K ("number_in", none)) fd
  d_read : ∃ fd, FunD K "read" "read" (defArgs s_read) (defBody s_read) (defScope s_read) [] [] (He.fAd K ("read", none)) fd
  d__law_refused : ∃ fd, FunD K "_law_refused" "_law_refused" (defArgs s__law_refused) (defBody s__law_refused) (defScope s__law_refused) [] [] (He.fAd K ("_law_refused", none)) fd
  d__law_right : ∃ fd, FunD K "_law_right" "_law_right" (defArgs s__law_right) (defBody s__law_right) (defScope s__law_right) [] [] (He.fAd K ("_law_right", none)) fd
  d__law_few : ∃ fd, FunD K "_law_few" "_law_few" (defArgs s__law_few) (defBody s__law_few) (defScope s__law_few) [] [] (He.fAd K ("_law_few", none)) fd
  d_law : ∃ fd, FunD K "law" "law" (defArgs s_law) (defBody s_law) (defScope s_law) [] [] (He.fAd K ("law", none)) fd
  e_BadRequests_BadRequests : PySem.W.exmOne K (.ref (He.ga K "BadRequests")) (.ref (He.ga K "BadRequests")) = some true
  e_BadText_SpanError : PySem.W.exmOne K (.ref (He.ga K "BadText")) (.ref (He.ga K "SpanError")) = some true
  f_ValueError : mg "ValueError" = none
  f_abs : mg "abs" = none
  f_all : mg "all" = none
  f_any : mg "any" = none
  f_bool : mg "bool" = none
  f_int : mg "int" = none
  f_isinstance : mg "isinstance" = none
  f_len : mg "len" = none
  f_list : mg "list" = none
  f_max : mg "max" = none
  f_range : mg "range" = none
  f_str : mg "str" = none
  f_tuple : mg "tuple" = none
  g_BadDays : mg "BadDays" = some (.ref (He.ga K "BadDays"))
  g_BadRequests : mg "BadRequests" = some (.ref (He.ga K "BadRequests"))
  g_BadRooms : mg "BadRooms" = some (.ref (He.ga K "BadRooms"))
  g_BadText : mg "BadText" = some (.ref (He.ga K "BadText"))
  g_SpanError : mg "SpanError" = some (.ref (He.ga K "SpanError"))
  g__law_cell_at : mg "_law_cell_at" = some (.ref (He.ga K "_law_cell_at"))
  g__law_draw : mg "_law_draw" = some (.ref (He.ga K "_law_draw"))
  g__law_few : mg "_law_few" = some (.ref (He.ga K "_law_few"))
  g__law_in : mg "_law_in" = some (.ref (He.ga K "_law_in"))
  g__law_number : mg "_law_number" = some (.ref (He.ga K "_law_number"))
  g__law_refused : mg "_law_refused" = some (.ref (He.ga K "_law_refused"))
  g__law_requests : mg "_law_requests" = some (.ref (He.ga K "_law_requests"))
  g__law_right : mg "_law_right" = some (.ref (He.ga K "_law_right"))
  g_check_requests : mg "check_requests" = some (.ref (He.ga K "check_requests"))
  g_is_request : mg "is_request" = some (.ref (He.ga K "is_request"))
  g_is_whole : mg "is_whole" = some (.ref (He.ga K "is_whole"))
  g_law : mg "law" = some (.ref (He.ga K "law"))
  g_number_in : mg "number_in" = some (.ref (He.ga K "number_in"))
  g_read : mg "read" = some (.ref (He.ga K "read"))
  g_written : mg "written" = some (.ref (He.ga K "written"))
  j_BadText : ExcC K (He.ga K "BadText")
  kt_BadText_BadDays_0 : Kit K "BadText" "BadDays" false
  kt_BadText_BadRequests_0 : Kit K "BadText" "BadRequests" false
  kt_BadText_BadRooms_0 : Kit K "BadText" "BadRooms" false
  kt_BadText_BadText_1 : Kit K "BadText" "BadText" true
  v_FIGURES : ∃ t, mg "FIGURES" = some (.str v_FIGURES t)
  v_MOST : ∃ t, mg "MOST" = some (.int v_MOST t)
  w_BadText : PySem.W.kitOne K (.ref (He.ga K "BadText")) (.type "ValueError") = some true
  x_BadRequests : ExcF K "BadRequests"
  x_BadText : ExcF K "BadText"
section
variable {P : Program} {w : World} {K : PySem.W.Frag} {mg : Str → Option Value} {base : Heap}
theorem ok__law_draw (T : Txt K mg) : FnB P w K mg base CX0 1 ("_law_draw", none) ["_law_cell", "_law_k", "_law_many"] (sp__law_draw K w) :=
  FnB.mk' T.d__law_draw sc__law_draw (fun _ _ _ _ _ _ us hl => match us, hl with | [_, _, _], _ => rfl) (fun vs H Q E h => by first | (obtain ⟨_, rfl, _⟩ := h; rfl) | (obtain ⟨_, _, rfl, _⟩ := h; rfl) | (obtain ⟨_, _, _, rfl, _⟩ := h; rfl) | (obtain ⟨_, _, _, _, rfl, _⟩ := h; rfl) | (obtain ⟨_, _, _, _, _, rfl, _⟩ := h; rfl) | (obtain ⟨_, _, _, _, _, _, rfl, _⟩ := h; rfl) | (obtain ⟨_, _, _, _, _, _, _, rfl, _⟩ := h; rfl) | (obtain ⟨_, _, _, _, _, _, _, _, rfl, _⟩ := h; rfl) | (obtain ⟨_, _, _, _, _, _, _, _, _, rfl, _⟩ := h; rfl) | (obtain ⟨_, _, _, _, _, _, _, _, _, _, rfl, _⟩ := h; rfl) | (obtain ⟨_, _, _, _, _, _, _, _, _, _, _, rfl, _⟩ := h; rfl) | (obtain ⟨_, _, _, _, _, _, _, _, _, _, _, _, rfl, _⟩ := h; rfl) | (obtain ⟨_, _, _, _, _, _, _, _, _, _, _, _, _, rfl, _⟩ := h; rfl) | (obtain ⟨_, _, _, _, _, _, _, _, _, _, _, _, _, _, rfl, _⟩ := h; rfl) | (obtain ⟨_, _, _, _, _, _, _, _, _, _, _, _, _, _, _, rfl, _⟩ := h; rfl) | (obtain ⟨_, _, _, _, _, _, _, _, _, _, _, _, _, _, _, _, rfl, _⟩ := h; rfl) | (obtain ⟨_, _, _, _, _, _, _, _, _, _, _, _, _, _, _, _, _, rfl, _⟩ := h; rfl) | (obtain ⟨_, _, _, _, _, _, _, _, _, _, _, _, _, _, _, _, _, _, rfl, _⟩ := h; rfl))
  (fun cdv A outer s H vs Q Q0 E hr h fin => ⟨t__law_draw K w, PSs.nox ((pss_cons (ps_set (i := 3) sc__law_draw.nd rfl (Or.inl rfl) (pe_tup (pa_cons pe_int (pa_cons pe_int (pa_cons pe_int (pa_cons pe_int (pa_cons pe_int (pa_cons pe_int (pa_cons pe_int (pa_cons pe_int (pa_cons pe_int (pa_cons pe_int (pa_cons pe_int (pa_cons pe_int (pa_cons pe_int (pa_cons pe_int (pa_cons pe_int (pa_cons pe_int pa_nil))))))))))))))))))
    (pss_one (ps_ret (pe_op op_mod (pe_op op_mod (pe_op op_add (pe_op op_mul (pv 0) pe_int) (pe_op op_mul (pv 1) pe_int)) (pe_ix ix_tup (pv 3) (pe_op op_mod (pv 1) pe_int) (fun _ _ => rfl))) (pv 2)))))), pure__law_draw  h fin⟩)
theorem ok__law_cell_at (T : Txt K mg) : FnB P w K mg base CX0 1 ("_law_cell_at", none) ["_law_script", "_law_k"] (sp__law_cell_at K w) :=
  FnB.mk' T.d__law_cell_at sc__law_cell_at (fun _ _ _ _ _ _ us hl => match us, hl with | [_, _], _ => rfl) (fun vs H Q E h => by first | (obtain ⟨_, rfl, _⟩ := h; rfl) | (obtain ⟨_, _, rfl, _⟩ := h; rfl) | (obtain ⟨_, _, _, rfl, _⟩ := h; rfl) | (obtain ⟨_, _, _, _, rfl, _⟩ := h; rfl) | (obtain ⟨_, _, _, _, _, rfl, _⟩ := h; rfl) | (obtain ⟨_, _, _, _, _, _, rfl, _⟩ := h; rfl) | (obtain ⟨_, _, _, _, _, _, _, rfl, _⟩ := h; rfl) | (obtain ⟨_, _, _, _, _, _, _, _, rfl, _⟩ := h; rfl) | (obtain ⟨_, _, _, _, _, _, _, _, _, rfl, _⟩ := h; rfl) | (obtain ⟨_, _, _, _, _, _, _, _, _, _, rfl, _⟩ := h; rfl) | (obtain ⟨_, _, _, _, _, _, _, _, _, _, _, rfl, _⟩ := h; rfl) | (obtain ⟨_, _, _, _, _, _, _, _, _, _, _, _, rfl, _⟩ := h; rfl) | (obtain ⟨_, _, _, _, _, _, _, _, _, _, _, _, _, rfl, _⟩ := h; rfl) | (obtain ⟨_, _, _, _, _, _, _, _, _, _, _, _, _, _, rfl, _⟩ := h; rfl) | (obtain ⟨_, _, _, _, _, _, _, _, _, _, _, _, _, _, _, rfl, _⟩ := h; rfl) | (obtain ⟨_, _, _, _, _, _, _, _, _, _, _, _, _, _, _, _, rfl, _⟩ := h; rfl) | (obtain ⟨_, _, _, _, _, _, _, _, _, _, _, _, _, _, _, _, _, rfl, _⟩ := h; rfl) | (obtain ⟨_, _, _, _, _, _, _, _, _, _, _, _, _, _, _, _, _, _, rfl, _⟩ := h; rfl))
  (fun cdv A outer s H vs Q Q0 E hr h fin => ⟨t__law_cell_at K w, PSs.nox ((pss_cons (ps_if (pt_cmpR op_lt (pv 1) (pe_callB call_len_seq rfl T.f_len PySem.boot_len (pa_cons (pv 0) pa_nil)) (nomark _)) (pss_one (ps_ret (pe_ix ix_list (pv 0) (pv 1) (fun _ _ => rfl)))) pss_nil)
    (pss_one (ps_ret pe_int)))), pure__law_cell_at  h fin⟩)
theorem ok__law_requests (T : Txt K mg) : FnB P w K mg base CX0 2 ("_law_requests", none) ["_law_script"] (sp__law_requests K w) :=
  FnB.mk' T.d__law_requests sc__law_requests (fun _ _ _ _ _ _ us hl => match us, hl with | [_], _ => rfl) (fun vs H Q E h => by first | (obtain ⟨_, rfl, _⟩ := h; rfl) | (obtain ⟨_, _, rfl, _⟩ := h; rfl) | (obtain ⟨_, _, _, rfl, _⟩ := h; rfl) | (obtain ⟨_, _, _, _, rfl, _⟩ := h; rfl) | (obtain ⟨_, _, _, _, _, rfl, _⟩ := h; rfl) | (obtain ⟨_, _, _, _, _, _, rfl, _⟩ := h; rfl) | (obtain ⟨_, _, _, _, _, _, _, rfl, _⟩ := h; rfl) | (obtain ⟨_, _, _, _, _, _, _, _, rfl, _⟩ := h; rfl) | (obtain ⟨_, _, _, _, _, _, _, _, _, rfl, _⟩ := h; rfl) | (obtain ⟨_, _, _, _, _, _, _, _, _, _, rfl, _⟩ := h; rfl) | (obtain ⟨_, _, _, _, _, _, _, _, _, _, _, rfl, _⟩ := h; rfl) | (obtain ⟨_, _, _, _, _, _, _, _, _, _, _, _, rfl, _⟩ := h; rfl) | (obtain ⟨_, _, _, _, _, _, _, _, _, _, _, _, _, rfl, _⟩ := h; rfl) | (obtain ⟨_, _, _, _, _, _, _, _, _, _, _, _, _, _, rfl, _⟩ := h; rfl) | (obtain ⟨_, _, _, _, _, _, _, _, _, _, _, _, _, _, _, rfl, _⟩ := h; rfl) | (obtain ⟨_, _, _, _, _, _, _, _, _, _, _, _, _, _, _, _, rfl, _⟩ := h; rfl) | (obtain ⟨_, _, _, _, _, _, _, _, _, _, _, _, _, _, _, _, _, rfl, _⟩ := h; rfl) | (obtain ⟨_, _, _, _, _, _, _, _, _, _, _, _, _, _, _, _, _, _, rfl, _⟩ := h; rfl))
  (fun cdv A outer s H vs Q Q0 E hr h fin => ⟨t__law_requests K w, PSs.nox ((pss_cons (ps_set (i := 1) sc__law_requests.nd rfl (Or.inl rfl) (pe_lst pa_nil))
    (pss_cons (ps_if (pt_cmpR op_eq (pe_op op_mod (pe_callB call_len_seq rfl T.f_len PySem.boot_len (pa_cons (pv 0) pa_nil)) pe_int) pe_int (nomark _)) (pss_cons (ps_for PassesOwn.never rfl (pi_range3 rfl T.f_range (pa_cons pe_int (pa_cons (pe_callB call_len_seq rfl T.f_len PySem.boot_len (pa_cons (pv 0) pa_nil)) (pa_cons pe_int pa_nil)))) (pg_name (i := 2) sc__law_requests.nd rfl (Or.inl rfl)) (pss_cons (ps_set (i := 3) sc__law_requests.nd rfl (Or.inl rfl) (pe_op op_mul (pe_op op_mod (pe_op op_fdiv (pe_ix ix_list (pv 0) (pv 2) (fun _ _ => rfl)) pe_int) (pe_op op_pow pe_int pe_int)) (pe_op op_sub pe_int (pe_op op_mul (pe_op op_mod (pe_ix ix_list (pv 0) (pv 2) (fun _ _ => rfl)) pe_int) pe_int))))
    (pss_one (ps_expr (pe_bm PySem.F.plainAttrs_list PySem.F.slot_list_append PySem.F.type_list_append mt_append (pv 1) (pa_cons (pe_tup (pa_cons (pv 3) (pa_cons (pe_op op_add (pv 3) (pe_op op_mod (pe_ix ix_list (pv 0) (pe_op op_add (pv 2) pe_int) (fun _ _ => rfl)) (pe_op op_pow pe_int pe_int))) (pa_cons (pe_op op_mod (pe_ix ix_list (pv 0) (pe_op op_add (pv 2) pe_int) (fun _ _ => rfl)) (pe_op op_pow pe_int pe_int)) pa_nil)))) pa_nil))))))
    (pss_one (ps_ret (pv 1)))) pss_nil)
    (pss_cons (ps_par (i := 4) (j := 5) rfl sc__law_requests.nd rfl rfl (by decide) rfl rfl (pa_cons (pe_callN (ok__law_draw T) T.g__law_draw (hr.mono (by decide)) pass0 (pa_cons (pe_callN (ok__law_cell_at T) T.g__law_cell_at (hr.mono (by decide)) pass0 (pa_cons (pv 0) (pa_cons pe_int pa_nil))) (pa_cons pe_int (pa_cons pe_int pa_nil)))) (pa_cons (pe_ix ix_tup (pe_tup (pa_cons pe_int (pa_cons pe_int (pa_cons (pe_op op_pow pe_int pe_int) (pa_cons pe_int pa_nil))))) (pe_callN (ok__law_draw T) T.g__law_draw (hr.mono (by decide)) pass0 (pa_cons (pe_callN (ok__law_cell_at T) T.g__law_cell_at (hr.mono (by decide)) pass0 (pa_cons (pv 0) (pa_cons pe_int pa_nil))) (pa_cons pe_int (pa_cons pe_int pa_nil)))) (fun _ _ => rfl)) pa_nil)) rfl)
    (pss_cons (ps_par (i := 6) (j := 7) rfl sc__law_requests.nd rfl rfl (by decide) rfl rfl (pa_cons (pe_ix ix_tup (pe_tup (pa_cons pe_int (pa_cons pe_int (pa_cons pe_int (pa_cons pe_int pa_nil))))) (pv 4) (fun _ _ => rfl)) (pa_cons (pe_ix ix_tup (pe_tup (pa_cons pe_int (pa_cons pe_int (pa_cons pe_int (pa_cons pe_int pa_nil))))) (pe_callN (ok__law_draw T) T.g__law_draw (hr.mono (by decide)) pass0 (pa_cons (pe_callN (ok__law_cell_at T) T.g__law_cell_at (hr.mono (by decide)) pass0 (pa_cons (pv 0) (pa_cons pe_int pa_nil))) (pa_cons pe_int (pa_cons pe_int pa_nil)))) (fun _ _ => rfl)) pa_nil)) rfl)
    (pss_cons (ps_set (i := 8) sc__law_requests.nd rfl (Or.inl rfl) (pe_ifExp (pt_cmpR op_eq (pe_callN (ok__law_draw T) T.g__law_draw (hr.mono (by decide)) pass0 (pa_cons (pe_callN (ok__law_cell_at T) T.g__law_cell_at (hr.mono (by decide)) pass0 (pa_cons (pv 0) (pa_cons pe_int pa_nil))) (pa_cons pe_int (pa_cons pe_int pa_nil)))) pe_int (nomark _)) pe_int pe_int))
    (pss_cons (ps_for PassesOwn.never rfl (pi_range1 rfl T.f_range (pa_cons (pe_op op_mul (pv 8) (pe_callB call_len_seq rfl T.f_len PySem.boot_len (pa_cons (pv 0) pa_nil))) pa_nil)) (pg_name (i := 2) sc__law_requests.nd rfl (Or.inl rfl)) (pss_cons (ps_set (i := 9) sc__law_requests.nd rfl (Or.inl rfl) (pe_op op_add (pe_ix ix_list (pv 0) (pe_op op_fdiv (pv 2) (pv 8)) (fun _ _ => rfl)) (pe_op op_mul pe_int (pe_op op_mod (pv 2) (pv 8)))))
    (pss_cons (ps_set (i := 3) sc__law_requests.nd rfl (Or.inl rfl) (pe_op op_sub (pe_callN (ok__law_draw T) T.g__law_draw (hr.mono (by decide)) pass0 (pa_cons (pv 9) (pa_cons (pe_op op_add (pe_op op_mod (pv 2) pe_int) pe_int) (pa_cons (pe_op op_add (pv 6) (pe_op op_mod (pv 2) pe_int)) pa_nil)))) (pe_op op_fdiv (pv 6) pe_int)))
    (pss_cons (ps_set (i := 10) sc__law_requests.nd rfl (Or.inl rfl) (pe_op op_add (pv 3) (pe_callN (ok__law_draw T) T.g__law_draw (hr.mono (by decide)) pass0 (pa_cons (pv 9) (pa_cons (pe_op op_add (pe_op op_mod (pv 2) pe_int) pe_int) (pa_cons (pe_ix ix_tup (pe_tup (pa_cons pe_int (pa_cons pe_int (pa_cons pe_int (pa_cons pe_int pa_nil))))) (pv 4) (fun _ _ => rfl)) pa_nil))))))
    (pss_one (ps_expr (pe_bm PySem.F.plainAttrs_list PySem.F.slot_list_append PySem.F.type_list_append mt_append (pv 1) (pa_cons (pe_tup (pa_cons (pe_op op_mul (pv 3) (pv 5)) (pa_cons (pe_op op_mul (pv 10) (pv 5)) (pa_cons (pe_callN (ok__law_draw T) T.g__law_draw (hr.mono (by decide)) pass0 (pa_cons (pv 9) (pa_cons (pe_op op_add (pe_op op_mod (pv 2) pe_int) pe_int) (pa_cons (pv 7) pa_nil)))) pa_nil)))) pa_nil))))))))
    (pss_one (ps_ret (pv 1)))))))))), pure__law_requests  h fin⟩)
theorem ok_is_whole (T : Txt K mg) : FnB P w K mg base CX0 1 ("is_whole", none) ["thing"] (sp_is_whole K w) :=
  FnB.mk' T.d_is_whole sc_is_whole (fun _ _ _ _ _ _ us hl => match us, hl with | [_], _ => rfl) (fun vs H Q E h => by first | (obtain ⟨_, rfl, _⟩ := h; rfl) | (obtain ⟨_, _, rfl, _⟩ := h; rfl) | (obtain ⟨_, _, _, rfl, _⟩ := h; rfl) | (obtain ⟨_, _, _, _, rfl, _⟩ := h; rfl) | (obtain ⟨_, _, _, _, _, rfl, _⟩ := h; rfl) | (obtain ⟨_, _, _, _, _, _, rfl, _⟩ := h; rfl) | (obtain ⟨_, _, _, _, _, _, _, rfl, _⟩ := h; rfl) | (obtain ⟨_, _, _, _, _, _, _, _, rfl, _⟩ := h; rfl) | (obtain ⟨_, _, _, _, _, _, _, _, _, rfl, _⟩ := h; rfl) | (obtain ⟨_, _, _, _, _, _, _, _, _, _, rfl, _⟩ := h; rfl) | (obtain ⟨_, _, _, _, _, _, _, _, _, _, _, rfl, _⟩ := h; rfl) | (obtain ⟨_, _, _, _, _, _, _, _, _, _, _, _, rfl, _⟩ := h; rfl) | (obtain ⟨_, _, _, _, _, _, _, _, _, _, _, _, _, rfl, _⟩ := h; rfl) | (obtain ⟨_, _, _, _, _, _, _, _, _, _, _, _, _, _, rfl, _⟩ := h; rfl) | (obtain ⟨_, _, _, _, _, _, _, _, _, _, _, _, _, _, _, rfl, _⟩ := h; rfl) | (obtain ⟨_, _, _, _, _, _, _, _, _, _, _, _, _, _, _, _, rfl, _⟩ := h; rfl) | (obtain ⟨_, _, _, _, _, _, _, _, _, _, _, _, _, _, _, _, _, rfl, _⟩ := h; rfl) | (obtain ⟨_, _, _, _, _, _, _, _, _, _, _, _, _, _, _, _, _, _, rfl, _⟩ := h; rfl))
  (fun cdv A outer s H vs Q Q0 E hr h fin => ⟨t_is_whole K w, PSs.nox ((pss_one (ps_ret (pe_and (pe_callB call_isi rfl T.f_isinstance (by decide +kernel) (pa_cons (pv 0) (pa_cons (pe_bltn rfl T.f_int (by decide +kernel) rfl) pa_nil))) (pe_one (pe_not (pe_callB call_isi rfl T.f_isinstance (by decide +kernel) (pa_cons (pv 0) (pa_cons (pe_bltn rfl T.f_bool (by decide +kernel) rfl) pa_nil))))))))), pure_is_whole  h fin⟩)
theorem ok_is_requestX (T : Txt K mg) : FnB P w K mg base CX0 2 ("is_request", none) ["thing"] (sp_is_requestX K w) :=
  FnB.mk' T.d_is_requestX sc_is_requestX (fun _ _ _ _ _ _ us hl => match us, hl with | [_], _ => rfl) (fun vs H Q E h => by first | (obtain ⟨_, rfl, _⟩ := h; rfl) | (obtain ⟨_, _, rfl, _⟩ := h; rfl) | (obtain ⟨_, _, _, rfl, _⟩ := h; rfl) | (obtain ⟨_, _, _, _, rfl, _⟩ := h; rfl) | (obtain ⟨_, _, _, _, _, rfl, _⟩ := h; rfl) | (obtain ⟨_, _, _, _, _, _, rfl, _⟩ := h; rfl) | (obtain ⟨_, _, _, _, _, _, _, rfl, _⟩ := h; rfl) | (obtain ⟨_, _, _, _, _, _, _, _, rfl, _⟩ := h; rfl) | (obtain ⟨_, _, _, _, _, _, _, _, _, rfl, _⟩ := h; rfl) | (obtain ⟨_, _, _, _, _, _, _, _, _, _, rfl, _⟩ := h; rfl) | (obtain ⟨_, _, _, _, _, _, _, _, _, _, _, rfl, _⟩ := h; rfl) | (obtain ⟨_, _, _, _, _, _, _, _, _, _, _, _, rfl, _⟩ := h; rfl) | (obtain ⟨_, _, _, _, _, _, _, _, _, _, _, _, _, rfl, _⟩ := h; rfl) | (obtain ⟨_, _, _, _, _, _, _, _, _, _, _, _, _, _, rfl, _⟩ := h; rfl) | (obtain ⟨_, _, _, _, _, _, _, _, _, _, _, _, _, _, _, rfl, _⟩ := h; rfl) | (obtain ⟨_, _, _, _, _, _, _, _, _, _, _, _, _, _, _, _, rfl, _⟩ := h; rfl) | (obtain ⟨_, _, _, _, _, _, _, _, _, _, _, _, _, _, _, _, _, rfl, _⟩ := h; rfl) | (obtain ⟨_, _, _, _, _, _, _, _, _, _, _, _, _, _, _, _, _, _, rfl, _⟩ := h; rfl))
  (fun cdv A outer s H vs Q Q0 E hr h fin => ⟨t_is_requestX K w, PSs.nox ((pss_cons (ps_if (PW.pt (pw_or (pt_not (pt_val (pe_callB call_isi rfl T.f_isinstance (by decide +kernel) (pa_cons (pv 0) (pa_cons (pe_bltn rfl T.f_tuple (by decide +kernel) rfl) pa_nil))))) (pw_or (pt_cmpR op_ne (pe_callB call_len_seq rfl T.f_len PySem.boot_len (pa_cons (pv 0) pa_nil)) pe_int (nomark _)) (pw_or1 (pt_not (pt_val (pe_callB (cr_all rfl) rfl T.f_all (by decide +kernel) (pa_cons (pe_lc (own := [("one", 1)]) (g := (gName 1)) (tt := tYes) rfl sc_is_requestX.nd (pi_tup (pv 0)) (blkOk_by (N := ["thing", "one"]) (sc := defScope s_is_requestX) (by decide +kernel)) (fun _ _ _ _ _ => (pg_name (i := 1) sc_is_requestX.nd rfl (Or.inl rfl))) (fun _ _ _ _ _ => pts_nil) (fun _ _ _ _ _ => (pe_callN (ok_is_whole T) T.g_is_whole (hr.mono (by decide)) pass0 (pa_cons (pv 1) pa_nil)))) pa_nil)))))))) (pss_one (ps_ret pe_bl)) pss_nil)
    (pss_one (ps_ret (pe_and (pe_cmpR op_le (pe_ix ix_tup (pv 0) pe_int (fun _ _ => rfl)) (pe_ix ix_tup (pv 0) pe_int (fun _ _ => rfl)) (nomark _)) (pe_one (pe_cmpR op_ge (pe_ix ix_tup (pv 0) pe_int (fun _ _ => rfl)) pe_int (nomark _)))))))), pure_is_requestX  h fin⟩)
theorem ok_check_requestsX (T : Txt K mg) : FnB P w K mg base (L2N.CX P w) 3 ("check_requests", none) ["requests"] (sp_check_requestsX K w) :=
  FnB.mk' T.d_check_requestsX sc_check_requestsX (fun _ _ _ _ _ _ us hl => match us, hl with | [_], _ => rfl) (fun vs H Q E h => by first | (obtain ⟨_, rfl, _⟩ := h; rfl) | (obtain ⟨_, _, rfl, _⟩ := h; rfl) | (obtain ⟨_, _, _, rfl, _⟩ := h; rfl) | (obtain ⟨_, _, _, _, rfl, _⟩ := h; rfl) | (obtain ⟨_, _, _, _, _, rfl, _⟩ := h; rfl) | (obtain ⟨_, _, _, _, _, _, rfl, _⟩ := h; rfl) | (obtain ⟨_, _, _, _, _, _, _, rfl, _⟩ := h; rfl) | (obtain ⟨_, _, _, _, _, _, _, _, rfl, _⟩ := h; rfl) | (obtain ⟨_, _, _, _, _, _, _, _, _, rfl, _⟩ := h; rfl) | (obtain ⟨_, _, _, _, _, _, _, _, _, _, rfl, _⟩ := h; rfl) | (obtain ⟨_, _, _, _, _, _, _, _, _, _, _, rfl, _⟩ := h; rfl) | (obtain ⟨_, _, _, _, _, _, _, _, _, _, _, _, rfl, _⟩ := h; rfl) | (obtain ⟨_, _, _, _, _, _, _, _, _, _, _, _, _, rfl, _⟩ := h; rfl) | (obtain ⟨_, _, _, _, _, _, _, _, _, _, _, _, _, _, rfl, _⟩ := h; rfl) | (obtain ⟨_, _, _, _, _, _, _, _, _, _, _, _, _, _, _, rfl, _⟩ := h; rfl) | (obtain ⟨_, _, _, _, _, _, _, _, _, _, _, _, _, _, _, _, rfl, _⟩ := h; rfl) | (obtain ⟨_, _, _, _, _, _, _, _, _, _, _, _, _, _, _, _, _, rfl, _⟩ := h; rfl) | (obtain ⟨_, _, _, _, _, _, _, _, _, _, _, _, _, _, _, _, _, _, rfl, _⟩ := h; rfl))
  (fun cdv A outer s H vs Q Q0 E hr h fin => ⟨t_check_requestsX K w E, ((pss_one (ps_if (PW.pt (pw_or (pt_not (pt_val (pe_callB call_isi rfl T.f_isinstance (by decide +kernel) (pa_cons (pv 0) (pa_cons (pe_bltn rfl T.f_list (by decide +kernel) rfl) pa_nil))))) (pw_or1 (pt_not (pt_val (pe_callB (cr_all rfl) rfl T.f_all (by decide +kernel) (pa_cons (pe_lc (own := [("request", 1)]) (g := (gName 1)) (tt := tYes) rfl sc_check_requestsX.nd (pi_list (pv 0)) (blkOk_by (N := ["requests", "request"]) (sc := defScope s_check_requestsX) (by decide +kernel)) (fun _ _ _ _ _ => (pg_name (i := 1) sc_check_requestsX.nd rfl (Or.inl rfl))) (fun _ _ _ _ _ => pts_nil) (fun _ _ _ _ _ => (pe_callN (ok_is_requestX T) T.g_is_request (hr.mono (by decide)) pass0 (pa_cons (pv 1) pa_nil)))) pa_nil))))))) (pss_one (ps_raiseN rfl (L2N.takes_of rfl rfl rfl rfl) T.x_BadRequests T.g_BadRequests)) pss_nil))), pure_check_requestsX  h fin⟩)
theorem ok_writtenX (T : Txt K mg) : FnB P w K mg base (L2N.CX P w) 4 ("written", none) ["requests"] (sp_writtenX K w) :=
  FnB.mk' T.d_writtenX sc_writtenX (fun _ _ _ _ _ _ us hl => match us, hl with | [_], _ => rfl) (fun vs H Q E h => by first | (obtain ⟨_, rfl, _⟩ := h; rfl) | (obtain ⟨_, _, rfl, _⟩ := h; rfl) | (obtain ⟨_, _, _, rfl, _⟩ := h; rfl) | (obtain ⟨_, _, _, _, rfl, _⟩ := h; rfl) | (obtain ⟨_, _, _, _, _, rfl, _⟩ := h; rfl) | (obtain ⟨_, _, _, _, _, _, rfl, _⟩ := h; rfl) | (obtain ⟨_, _, _, _, _, _, _, rfl, _⟩ := h; rfl) | (obtain ⟨_, _, _, _, _, _, _, _, rfl, _⟩ := h; rfl) | (obtain ⟨_, _, _, _, _, _, _, _, _, rfl, _⟩ := h; rfl) | (obtain ⟨_, _, _, _, _, _, _, _, _, _, rfl, _⟩ := h; rfl) | (obtain ⟨_, _, _, _, _, _, _, _, _, _, _, rfl, _⟩ := h; rfl) | (obtain ⟨_, _, _, _, _, _, _, _, _, _, _, _, rfl, _⟩ := h; rfl) | (obtain ⟨_, _, _, _, _, _, _, _, _, _, _, _, _, rfl, _⟩ := h; rfl) | (obtain ⟨_, _, _, _, _, _, _, _, _, _, _, _, _, _, rfl, _⟩ := h; rfl) | (obtain ⟨_, _, _, _, _, _, _, _, _, _, _, _, _, _, _, rfl, _⟩ := h; rfl) | (obtain ⟨_, _, _, _, _, _, _, _, _, _, _, _, _, _, _, _, rfl, _⟩ := h; rfl) | (obtain ⟨_, _, _, _, _, _, _, _, _, _, _, _, _, _, _, _, _, rfl, _⟩ := h; rfl) | (obtain ⟨_, _, _, _, _, _, _, _, _, _, _, _, _, _, _, _, _, _, rfl, _⟩ := h; rfl))
  (fun cdv A outer s H vs Q Q0 E hr h fin => ⟨t_writtenX K w E, ((pss_cons (ps_expr (pe_callX (ok_check_requestsX T) T.g_check_requests (hr.mono (by decide)) (L2N.passAt (L2N.takes_of rfl rfl rfl rfl)) (pa_cons (pv 0) pa_nil)))
    (pss_cons (ps_if (pt_not (pt_val (pe_callB (cr_all rfl) rfl T.f_all (by decide +kernel) (pa_cons (pe_lc (own := [("first", 1), ("last", 2), ("price", 3)]) (g := (gTup K 3 (gCons (gName 1) (gCons (gName 2) (gCons (gName 3) gNil))))) (tt := tYes) rfl sc_writtenX.nd (pi_list (pv 0)) (blkOk_by (N := ["requests", "first", "last", "price"]) (sc := defScope s_writtenX) (by decide +kernel)) (fun _ _ _ _ _ => (pg_tup rfl (pgs_cons (pg_name (i := 1) sc_writtenX.nd rfl (Or.inl rfl)) (pgs_cons (pg_name (i := 2) sc_writtenX.nd rfl (Or.inl rfl)) (pgs_cons (pg_name (i := 3) sc_writtenX.nd rfl (Or.inl rfl)) pgs_nil))))) (fun _ _ _ _ _ => pts_nil) (fun _ _ _ _ _ => (pe_cmpR op_lt (pe_callB (call_max3I rfl) rfl T.f_max (by decide +kernel) (pa_cons (pe_callB call_abs rfl T.f_abs (by decide +kernel) (pa_cons (pv 1) pa_nil)) (pa_cons (pe_callB call_abs rfl T.f_abs (by decide +kernel) (pa_cons (pv 2) pa_nil)) (pa_cons (pv 3) pa_nil)))) (pe_gint rfl T.v_MOST) (nomark _)))) pa_nil)))) (pss_one (ps_raiseN rfl (L2N.takes_of rfl rfl rfl rfl) T.x_BadRequests T.g_BadRequests)) pss_nil)
    (pss_cons (ps_if (pt_cmpR op_eq (pe_callB call_len_seq rfl T.f_len PySem.boot_len (pa_cons (pv 0) pa_nil)) pe_int (nomark _)) (pss_one (ps_ret pe_str)) pss_nil)
    (pss_one (ps_ret (pe_join pe_str (pe_lc (own := [("first", 1), ("last", 2), ("price", 3)]) (g := (gTup K 3 (gCons (gName 1) (gCons (gName 2) (gCons (gName 3) gNil))))) (tt := tYes) rfl sc_writtenX.nd (pi_list (pv 0)) (blkOk_by (N := ["requests", "first", "last", "price"]) (sc := defScope s_writtenX) (by decide +kernel)) (fun _ _ _ _ _ => (pg_tup rfl (pgs_cons (pg_name (i := 1) sc_writtenX.nd rfl (Or.inl rfl)) (pgs_cons (pg_name (i := 2) sc_writtenX.nd rfl (Or.inl rfl)) (pgs_cons (pg_name (i := 3) sc_writtenX.nd rfl (Or.inl rfl)) pgs_nil))))) (fun _ _ _ _ _ => pts_nil) (fun _ _ _ _ _ => (pe_op op_add_str (pe_op op_add_str (pe_op op_add_str (pe_op op_add_str (pe_callTy call_str_int rfl T.f_str (by decide +kernel) (pa_cons (pv 1) pa_nil)) pe_str) (pe_callTy call_str_int rfl T.f_str (by decide +kernel) (pa_cons (pv 2) pa_nil))) pe_str) (pe_callTy call_str_int rfl T.f_str (by decide +kernel) (pa_cons (pv 3) pa_nil)))))))))))), pure_writtenX  h fin⟩)
theorem ok__law_number (T : Txt K mg) : FnB P w K mg base CX0 1 ("_law_number", none) ["_law_text"] (sp__law_number K w) :=
  FnB.mk' T.d__law_number sc__law_number (fun _ _ _ _ _ _ us hl => match us, hl with | [_], _ => rfl) (fun vs H Q E h => by first | (obtain ⟨_, rfl, _⟩ := h; rfl) | (obtain ⟨_, _, rfl, _⟩ := h; rfl) | (obtain ⟨_, _, _, rfl, _⟩ := h; rfl) | (obtain ⟨_, _, _, _, rfl, _⟩ := h; rfl) | (obtain ⟨_, _, _, _, _, rfl, _⟩ := h; rfl) | (obtain ⟨_, _, _, _, _, _, rfl, _⟩ := h; rfl) | (obtain ⟨_, _, _, _, _, _, _, rfl, _⟩ := h; rfl) | (obtain ⟨_, _, _, _, _, _, _, _, rfl, _⟩ := h; rfl) | (obtain ⟨_, _, _, _, _, _, _, _, _, rfl, _⟩ := h; rfl) | (obtain ⟨_, _, _, _, _, _, _, _, _, _, rfl, _⟩ := h; rfl) | (obtain ⟨_, _, _, _, _, _, _, _, _, _, _, rfl, _⟩ := h; rfl) | (obtain ⟨_, _, _, _, _, _, _, _, _, _, _, _, rfl, _⟩ := h; rfl) | (obtain ⟨_, _, _, _, _, _, _, _, _, _, _, _, _, rfl, _⟩ := h; rfl) | (obtain ⟨_, _, _, _, _, _, _, _, _, _, _, _, _, _, rfl, _⟩ := h; rfl) | (obtain ⟨_, _, _, _, _, _, _, _, _, _, _, _, _, _, _, rfl, _⟩ := h; rfl) | (obtain ⟨_, _, _, _, _, _, _, _, _, _, _, _, _, _, _, _, rfl, _⟩ := h; rfl) | (obtain ⟨_, _, _, _, _, _, _, _, _, _, _, _, _, _, _, _, _, rfl, _⟩ := h; rfl) | (obtain ⟨_, _, _, _, _, _, _, _, _, _, _, _, _, _, _, _, _, _, rfl, _⟩ := h; rfl))
  (fun cdv A outer s H vs Q Q0 E hr h fin => ⟨t__law_number K w, PSs.nox ((pss_cons (ps_set (i := 1) sc__law_number.nd rfl (Or.inl rfl) (pe_ifExp (pt_cmpR op_eq (pe_slice sl_str (pv 0) po_none (po_some pe_int)) pe_str (nomark _)) (pe_slice sl_str (pv 0) (po_some pe_int) po_none) (pv 0)))
    (pss_cons (ps_if (PW.pt (pw_or (pt_cmpR op_eq (pv 1) pe_str (nomark _)) (pw_or (pt_cmpR op_gt (pe_callB call_len_str rfl T.f_len PySem.boot_len (pa_cons (pv 1) pa_nil)) pe_int (nomark _)) (pw_or (pt_cmpR op_ne (pe_stripC (pv 1) pe_str) pe_str (nomark _)) (pw_or1 (PW.pt (pw_and (pt_cmpR op_eq (pe_ix ix_str (pv 1) pe_int (fun _ _ => rfl)) pe_str (nomark _)) (pw_and1 (pt_cmpR op_ne (pv 0) pe_str (nomark _)))))))))) (pss_one (ps_ret pe_non)) pss_nil)
    (pss_one (ps_ret (pe_callTy call_int_str rfl T.f_int (by decide +kernel) (pa_cons (pv 0) pa_nil))))))), pure__law_number  h fin⟩)
theorem ok__law_in (T : Txt K mg) : FnB P w K mg base CX0 2 ("_law_in", none) ["_law_text"] (sp__law_in K w) :=
  FnB.mk' T.d__law_in sc__law_in (fun _ _ _ _ _ _ us hl => match us, hl with | [_], _ => rfl) (fun vs H Q E h => by first | (obtain ⟨_, rfl, _⟩ := h; rfl) | (obtain ⟨_, _, rfl, _⟩ := h; rfl) | (obtain ⟨_, _, _, rfl, _⟩ := h; rfl) | (obtain ⟨_, _, _, _, rfl, _⟩ := h; rfl) | (obtain ⟨_, _, _, _, _, rfl, _⟩ := h; rfl) | (obtain ⟨_, _, _, _, _, _, rfl, _⟩ := h; rfl) | (obtain ⟨_, _, _, _, _, _, _, rfl, _⟩ := h; rfl) | (obtain ⟨_, _, _, _, _, _, _, _, rfl, _⟩ := h; rfl) | (obtain ⟨_, _, _, _, _, _, _, _, _, rfl, _⟩ := h; rfl) | (obtain ⟨_, _, _, _, _, _, _, _, _, _, rfl, _⟩ := h; rfl) | (obtain ⟨_, _, _, _, _, _, _, _, _, _, _, rfl, _⟩ := h; rfl) | (obtain ⟨_, _, _, _, _, _, _, _, _, _, _, _, rfl, _⟩ := h; rfl) | (obtain ⟨_, _, _, _, _, _, _, _, _, _, _, _, _, rfl, _⟩ := h; rfl) | (obtain ⟨_, _, _, _, _, _, _, _, _, _, _, _, _, _, rfl, _⟩ := h; rfl) | (obtain ⟨_, _, _, _, _, _, _, _, _, _, _, _, _, _, _, rfl, _⟩ := h; rfl) | (obtain ⟨_, _, _, _, _, _, _, _, _, _, _, _, _, _, _, _, rfl, _⟩ := h; rfl) | (obtain ⟨_, _, _, _, _, _, _, _, _, _, _, _, _, _, _, _, _, rfl, _⟩ := h; rfl) | (obtain ⟨_, _, _, _, _, _, _, _, _, _, _, _, _, _, _, _, _, _, rfl, _⟩ := h; rfl))
  (fun cdv A outer s H vs Q Q0 E hr h fin => ⟨t__law_in K w, PSs.nox ((pss_cons (ps_set (i := 1) sc__law_in.nd rfl (Or.inl rfl) (pe_lst pa_nil))
    (pss_cons (ps_for PassesOwn.never rfl (pi_list (pe_ifExp (pt_cmpR op_ne (pv 0) pe_str (nomark _)) (pe_split (pv 0) pe_str) (pe_lst pa_nil))) (pg_name (i := 2) sc__law_in.nd rfl (Or.inl rfl)) (pss_cons (ps_asg (pe_partition (pv 2) pe_str) (pg_tup rfl (pgs_cons (pg_name (i := 3) sc__law_in.nd rfl (Or.inl rfl)) (pgs_cons (pg_name (i := 4) sc__law_in.nd rfl (Or.inl rfl)) (pgs_cons (pg_name (i := 5) sc__law_in.nd rfl (Or.inl rfl)) pgs_nil)))))
    (pss_cons (ps_asg (pe_partition (pv 3) pe_str) (pg_tup rfl (pgs_cons (pg_name (i := 6) sc__law_in.nd rfl (Or.inl rfl)) (pgs_cons (pg_name (i := 7) sc__law_in.nd rfl (Or.inl rfl)) (pgs_cons (pg_name (i := 8) sc__law_in.nd rfl (Or.inl rfl)) pgs_nil)))))
    (pss_cons (ps_set (i := 9) sc__law_in.nd rfl (Or.inl rfl) (pe_tup (pa_cons (pe_callN (ok__law_number T) T.g__law_number (hr.mono (by decide)) pass0 (pa_cons (pv 6) pa_nil)) (pa_cons (pe_callN (ok__law_number T) T.g__law_number (hr.mono (by decide)) pass0 (pa_cons (pv 8) pa_nil)) (pa_cons (pe_callN (ok__law_number T) T.g__law_number (hr.mono (by decide)) pass0 (pa_cons (pv 5) pa_nil)) pa_nil)))))
    (pss_cons (ps_if (PW.pt (pw_or (pt_cmpR op_in_seq pe_non (pv 9) (by with_unfolding_all rfl)) (pw_or (pt_cmpR op_gt (pe_ix ix_tup (pv 9) pe_int (fun _ _ => rfl)) (pe_ix ix_tup (pv 9) pe_int (fun _ _ => rfl)) (nomark _)) (pw_or1 (pt_cmpR op_lt (pe_ix ix_tup (pv 9) pe_int (fun _ _ => rfl)) pe_int (nomark _)))))) (pss_one (ps_ret pe_non)) pss_nil)
    (pss_one (ps_expr (pe_bm PySem.F.plainAttrs_list PySem.F.slot_list_append PySem.F.type_list_append mt_append (pv 1) (pa_cons (pv 9) pa_nil)))))))))
    (pss_one (ps_ret (pv 1)))))), pure__law_in  h fin⟩)
theorem ok_number_in (T : Txt K mg) : FnB P w K mg base (L2N.CX P w) 1 ("number_in", none) ["word"] (sp_number_in K w) :=
  FnB.mk' T.d_number_in sc_number_in (fun _ _ _ _ _ _ us hl => match us, hl with | [_], _ => rfl) (fun vs H Q E h => by first | (obtain ⟨_, rfl, _⟩ := h; rfl) | (obtain ⟨_, _, rfl, _⟩ := h; rfl) | (obtain ⟨_, _, _, rfl, _⟩ := h; rfl) | (obtain ⟨_, _, _, _, rfl, _⟩ := h; rfl) | (obtain ⟨_, _, _, _, _, rfl, _⟩ := h; rfl) | (obtain ⟨_, _, _, _, _, _, rfl, _⟩ := h; rfl) | (obtain ⟨_, _, _, _, _, _, _, rfl, _⟩ := h; rfl) | (obtain ⟨_, _, _, _, _, _, _, _, rfl, _⟩ := h; rfl) | (obtain ⟨_, _, _, _, _, _, _, _, _, rfl, _⟩ := h; rfl) | (obtain ⟨_, _, _, _, _, _, _, _, _, _, rfl, _⟩ := h; rfl) | (obtain ⟨_, _, _, _, _, _, _, _, _, _, _, rfl, _⟩ := h; rfl) | (obtain ⟨_, _, _, _, _, _, _, _, _, _, _, _, rfl, _⟩ := h; rfl) | (obtain ⟨_, _, _, _, _, _, _, _, _, _, _, _, _, rfl, _⟩ := h; rfl) | (obtain ⟨_, _, _, _, _, _, _, _, _, _, _, _, _, _, rfl, _⟩ := h; rfl) | (obtain ⟨_, _, _, _, _, _, _, _, _, _, _, _, _, _, _, rfl, _⟩ := h; rfl) | (obtain ⟨_, _, _, _, _, _, _, _, _, _, _, _, _, _, _, _, rfl, _⟩ := h; rfl) | (obtain ⟨_, _, _, _, _, _, _, _, _, _, _, _, _, _, _, _, _, rfl, _⟩ := h; rfl) | (obtain ⟨_, _, _, _, _, _, _, _, _, _, _, _, _, _, _, _, _, _, rfl, _⟩ := h; rfl))
  (fun cdv A outer s H vs Q Q0 E hr h fin => ⟨t_number_in K w E, ((pss_cons (ps_set (i := 1) sc_number_in.nd rfl (Or.inl rfl) (pv 0))
    (pss_cons (ps_if (pt_val (pe_starts (pv 0) pe_str)) (pss_one (ps_set (i := 1) sc_number_in.nd rfl (Or.inl rfl) (pe_slice sl_str (pv 0) (po_some pe_int) po_none))) pss_nil)
    (pss_cons (ps_if (PW.pt (pw_or (pt_not (pt_chain op_le op_le pe_int (pe_callB call_len_str rfl T.f_len PySem.boot_len (pa_cons (pv 1) pa_nil)) pe_int)) (pw_or (pt_cmpR op_ne (pe_stripC (pv 1) (pe_gstr rfl T.v_FIGURES)) pe_str (nomark _)) (pw_or1 (PW.pt (pw_and (pt_cmpR op_eq (pe_ix ix_str (pv 1) pe_int (fun _ _ => rfl)) pe_str (nomark _)) (pw_and1 (pt_cmpR op_ne (pv 0) pe_str (nomark _))))))))) (pss_one (ps_raiseN rfl (L2N.takes_of rfl rfl rfl rfl) T.x_BadText T.g_BadText)) pss_nil)
    (pss_one (ps_ret (pe_callTy call_int_str rfl T.f_int (by decide +kernel) (pa_cons (pv 0) pa_nil)))))))), pure_number_in  h fin⟩)
theorem ok_read (T : Txt K mg) : FnB P w K mg base (CXq P w) 4 ("read", none) ["text"] (sp_read K w) :=
  FnB.mk' T.d_read sc_read (fun _ _ _ _ _ _ us hl => match us, hl with | [_], _ => rfl) (fun vs H Q E h => by first | (obtain ⟨_, rfl, _⟩ := h; rfl) | (obtain ⟨_, _, rfl, _⟩ := h; rfl) | (obtain ⟨_, _, _, rfl, _⟩ := h; rfl) | (obtain ⟨_, _, _, _, rfl, _⟩ := h; rfl) | (obtain ⟨_, _, _, _, _, rfl, _⟩ := h; rfl) | (obtain ⟨_, _, _, _, _, _, rfl, _⟩ := h; rfl) | (obtain ⟨_, _, _, _, _, _, _, rfl, _⟩ := h; rfl) | (obtain ⟨_, _, _, _, _, _, _, _, rfl, _⟩ := h; rfl) | (obtain ⟨_, _, _, _, _, _, _, _, _, rfl, _⟩ := h; rfl) | (obtain ⟨_, _, _, _, _, _, _, _, _, _, rfl, _⟩ := h; rfl) | (obtain ⟨_, _, _, _, _, _, _, _, _, _, _, rfl, _⟩ := h; rfl) | (obtain ⟨_, _, _, _, _, _, _, _, _, _, _, _, rfl, _⟩ := h; rfl) | (obtain ⟨_, _, _, _, _, _, _, _, _, _, _, _, _, rfl, _⟩ := h; rfl) | (obtain ⟨_, _, _, _, _, _, _, _, _, _, _, _, _, _, rfl, _⟩ := h; rfl) | (obtain ⟨_, _, _, _, _, _, _, _, _, _, _, _, _, _, _, rfl, _⟩ := h; rfl) | (obtain ⟨_, _, _, _, _, _, _, _, _, _, _, _, _, _, _, _, rfl, _⟩ := h; rfl) | (obtain ⟨_, _, _, _, _, _, _, _, _, _, _, _, _, _, _, _, _, rfl, _⟩ := h; rfl) | (obtain ⟨_, _, _, _, _, _, _, _, _, _, _, _, _, _, _, _, _, _, rfl, _⟩ := h; rfl))
  (fun cdv A outer s H vs Q Q0 E hr h fin => ⟨t_read K w E, ((pss_cons (ps_if (pt_not (pt_val (pe_callB call_isi rfl T.f_isinstance (by decide +kernel) (pa_cons (pv 0) (pa_cons (pe_bltn rfl T.f_str (by decide +kernel) rfl) pa_nil))))) (pss_one (ps_raiseN rfl (takesN_of (takesQ_of rfl rfl rfl rfl)) T.x_BadText T.g_BadText)) pss_nil)
    (pss_cons (ps_if (pt_cmpR op_eq (pv 0) pe_str (nomark _)) (pss_one (ps_ret (pe_lst pa_nil))) pss_nil)
    (pss_cons (ps_set (i := 1) sc_read.nd rfl (Or.inl rfl) (pe_lst pa_nil))
    (pss_cons (ps_for (passes_of rfl) rfl (pi_list (pe_split (pv 0) pe_str)) (pg_name (i := 2) sc_read.nd rfl (Or.inl rfl)) (pss_cons (ps_asg (pe_partition (pv 2) pe_str) (pg_tup rfl (pgs_cons (pg_name (i := 3) sc_read.nd rfl (Or.inl rfl)) (pgs_cons (pg_name (i := 4) sc_read.nd rfl (Or.inl rfl)) (pgs_cons (pg_name (i := 5) sc_read.nd rfl (Or.inl rfl)) pgs_nil)))))
    (pss_cons (ps_asg (pe_partition (pv 3) pe_str) (pg_tup rfl (pgs_cons (pg_name (i := 6) sc_read.nd rfl (Or.inl rfl)) (pgs_cons (pg_name (i := 7) sc_read.nd rfl (Or.inl rfl)) (pgs_cons (pg_name (i := 8) sc_read.nd rfl (Or.inl rfl)) pgs_nil)))))
    (pss_one (ps_expr (pe_bm PySem.F.plainAttrs_list PySem.F.slot_list_append PySem.F.type_list_append mt_append (pv 1) (pa_cons (pe_tup (pa_cons (pe_callX (ok_number_in T) T.g_number_in (hr.mono (by decide)) (L2N.passAt (takesN_of (takesQ_of rfl rfl rfl rfl))) (pa_cons (pv 6) pa_nil)) (pa_cons (pe_callX (ok_number_in T) T.g_number_in (hr.mono (by decide)) (L2N.passAt (takesN_of (takesQ_of rfl rfl rfl rfl))) (pa_cons (pv 8) pa_nil)) (pa_cons (pe_callX (ok_number_in T) T.g_number_in (hr.mono (by decide)) (L2N.passAt (takesN_of (takesQ_of rfl rfl rfl rfl))) (pa_cons (pv 5) pa_nil)) pa_nil)))) pa_nil)))))))
    (pss_cons (ps_trySure rfl rfl ⟨rfl, by decide, .inl T.g_BadRequests⟩ (L2H.passesAt_of rfl) (takesQ_of rfl rfl rfl rfl) (fun W pn xe tk po => (pss_one (ps_expr (pe_callX (ok_check_requestsX T) T.g_check_requests (hr.mono (by decide)) (L2N.passAt tk) (pa_cons (pv 1) pa_nil))))) (fun a oe pn tkS hot => (pss_one (ps_raiseQx hot tkS T.x_BadText T.g_BadText))))
    (pss_one (ps_ret (pv 1))))))))), pure_read T.e_BadRequests_BadRequests h fin⟩)
theorem ok__law_refused (T : Txt K mg) : FnB P w K mg base CX0 5 ("_law_refused", none) ["_law_text"] (sp__law_refused K w) :=
  FnB.mk' T.d__law_refused sc__law_refused (fun _ _ _ _ _ _ us hl => match us, hl with | [_], _ => rfl) (fun vs H Q E h => by first | (obtain ⟨_, rfl, _⟩ := h; rfl) | (obtain ⟨_, _, rfl, _⟩ := h; rfl) | (obtain ⟨_, _, _, rfl, _⟩ := h; rfl) | (obtain ⟨_, _, _, _, rfl, _⟩ := h; rfl) | (obtain ⟨_, _, _, _, _, rfl, _⟩ := h; rfl) | (obtain ⟨_, _, _, _, _, _, rfl, _⟩ := h; rfl) | (obtain ⟨_, _, _, _, _, _, _, rfl, _⟩ := h; rfl) | (obtain ⟨_, _, _, _, _, _, _, _, rfl, _⟩ := h; rfl) | (obtain ⟨_, _, _, _, _, _, _, _, _, rfl, _⟩ := h; rfl) | (obtain ⟨_, _, _, _, _, _, _, _, _, _, rfl, _⟩ := h; rfl) | (obtain ⟨_, _, _, _, _, _, _, _, _, _, _, rfl, _⟩ := h; rfl) | (obtain ⟨_, _, _, _, _, _, _, _, _, _, _, _, rfl, _⟩ := h; rfl) | (obtain ⟨_, _, _, _, _, _, _, _, _, _, _, _, _, rfl, _⟩ := h; rfl) | (obtain ⟨_, _, _, _, _, _, _, _, _, _, _, _, _, _, rfl, _⟩ := h; rfl) | (obtain ⟨_, _, _, _, _, _, _, _, _, _, _, _, _, _, _, rfl, _⟩ := h; rfl) | (obtain ⟨_, _, _, _, _, _, _, _, _, _, _, _, _, _, _, _, rfl, _⟩ := h; rfl) | (obtain ⟨_, _, _, _, _, _, _, _, _, _, _, _, _, _, _, _, _, rfl, _⟩ := h; rfl) | (obtain ⟨_, _, _, _, _, _, _, _, _, _, _, _, _, _, _, _, _, _, rfl, _⟩ := h; rfl))
  (fun cdv A outer s H vs Q Q0 E hr h fin => ⟨t__law_refused K w, PSs.nox ((pss_cons (ps_tryAsQ rfl rfl sc__law_refused.nd rfl rfl ⟨rfl, by decide, .inl T.g_SpanError⟩ (fun W pn xe tkQ po => (pss_one (ps_expr (pe_callX (ok_read T) T.g_read (hr.mono (by decide)) (passAtQ tkQ) (pa_cons (pv 0) pa_nil))))) (fun a oe cls d pn hp hz hf hot => (pss_cons (ps_set (i := 2) sc__law_refused.nd rfl (Or.inl rfl) (pe_lst (pa_cons (pe_callB (call_isQ hp hz hf) rfl T.f_isinstance (by decide +kernel) (pa_cons (pv 1) (pa_cons (pe_glob rfl T.g_BadDays rfl) pa_nil))) (pa_cons (pe_callB (call_isQ hp hz hf) rfl T.f_isinstance (by decide +kernel) (pa_cons (pv 1) (pa_cons (pe_glob rfl T.g_BadRequests rfl) pa_nil))) (pa_cons (pe_callB (call_isQ hp hz hf) rfl T.f_isinstance (by decide +kernel) (pa_cons (pv 1) (pa_cons (pe_glob rfl T.g_BadRooms rfl) pa_nil))) pa_nil)))))
    (pss_one (ps_ret (pe_and (pe_callB (call_isQ hp hz hf) rfl T.f_isinstance (by decide +kernel) (pa_cons (pv 1) (pa_cons (pe_glob rfl T.g_BadText rfl) pa_nil))) (pe_and (pe_callB (call_isQ hp hz hf) rfl T.f_isinstance (by decide +kernel) (pa_cons (pv 1) (pa_cons (pe_bltn rfl T.f_ValueError (by decide +kernel) rfl) pa_nil))) (pe_one (pe_not (pe_callB (call_anyQ hot) rfl T.f_any (by decide +kernel) (pa_cons (pv 2) pa_nil)))))))))))
    (pss_one (ps_ret pe_bl)))), pure__law_refused (⟨T.e_BadText_SpanError, T.j_BadText, T.kt_BadText_BadDays_0, T.kt_BadText_BadRequests_0, T.kt_BadText_BadRooms_0, T.kt_BadText_BadText_1, T.w_BadText⟩ : RefC K) h fin⟩)
theorem ok__law_right (T : Txt K mg) : FnB P w K mg base CX0 6 ("_law_right", none) ["_law_text"] (sp__law_right K w) :=
  FnB.mk' T.d__law_right sc__law_right (fun _ _ _ _ _ _ us hl => match us, hl with | [_], _ => rfl) (fun vs H Q E h => by first | (obtain ⟨_, rfl, _⟩ := h; rfl) | (obtain ⟨_, _, rfl, _⟩ := h; rfl) | (obtain ⟨_, _, _, rfl, _⟩ := h; rfl) | (obtain ⟨_, _, _, _, rfl, _⟩ := h; rfl) | (obtain ⟨_, _, _, _, _, rfl, _⟩ := h; rfl) | (obtain ⟨_, _, _, _, _, _, rfl, _⟩ := h; rfl) | (obtain ⟨_, _, _, _, _, _, _, rfl, _⟩ := h; rfl) | (obtain ⟨_, _, _, _, _, _, _, _, rfl, _⟩ := h; rfl) | (obtain ⟨_, _, _, _, _, _, _, _, _, rfl, _⟩ := h; rfl) | (obtain ⟨_, _, _, _, _, _, _, _, _, _, rfl, _⟩ := h; rfl) | (obtain ⟨_, _, _, _, _, _, _, _, _, _, _, rfl, _⟩ := h; rfl) | (obtain ⟨_, _, _, _, _, _, _, _, _, _, _, _, rfl, _⟩ := h; rfl) | (obtain ⟨_, _, _, _, _, _, _, _, _, _, _, _, _, rfl, _⟩ := h; rfl) | (obtain ⟨_, _, _, _, _, _, _, _, _, _, _, _, _, _, rfl, _⟩ := h; rfl) | (obtain ⟨_, _, _, _, _, _, _, _, _, _, _, _, _, _, _, rfl, _⟩ := h; rfl) | (obtain ⟨_, _, _, _, _, _, _, _, _, _, _, _, _, _, _, _, rfl, _⟩ := h; rfl) | (obtain ⟨_, _, _, _, _, _, _, _, _, _, _, _, _, _, _, _, _, rfl, _⟩ := h; rfl) | (obtain ⟨_, _, _, _, _, _, _, _, _, _, _, _, _, _, _, _, _, _, rfl, _⟩ := h; rfl))
  (fun cdv A outer s H vs Q Q0 E hr h fin => ⟨t__law_right K w, PSs.nox ((pss_cons (ps_set (i := 1) sc__law_right.nd rfl (Or.inl rfl) (pe_callN (ok__law_in T) T.g__law_in (hr.mono (by decide)) pass0 (pa_cons (pv 0) pa_nil)))
    (pss_cons (ps_if (pt_cmp (pc_isN (pv 1))) (pss_one (ps_ret (pe_callN (ok__law_refused T) T.g__law_refused (hr.mono (by decide)) pass0 (pa_cons (pv 0) pa_nil)))) pss_nil)
    (pss_cons (ps_set (i := 2) sc__law_right.nd rfl (Or.inl rfl) (pe_callN (ok_read T) T.g_read (hr.mono (by decide)) passQ0 (pa_cons (pv 0) pa_nil)))
    (pss_cons (ps_if (PW.pt (pw_or (pt_not (pt_val (pe_callB call_isi rfl T.f_isinstance (by decide +kernel) (pa_cons (pv 2) (pa_cons (pe_bltn rfl T.f_list (by decide +kernel) rfl) pa_nil))))) (pw_or (pt_cmpR (op_neD hr.units) (pv 2) (pv 1) (nomark _)) (pw_or1 (pt_cmpR op_ne (pe_callN (ok_writtenX T) T.g_written (hr.mono (by decide)) passN0 (pa_cons (pv 2) pa_nil)) (pv 0) (nomark _)))))) (pss_one (ps_ret pe_bl)) pss_nil)
    (pss_cons (ps_expr (pe_bm PySem.F.plainAttrs_list PySem.F.slot_list_append PySem.F.type_list_append mt_append (pv 2) (pa_cons (pe_tup (pa_cons pe_int (pa_cons pe_int (pa_cons pe_int pa_nil)))) pa_nil)))
    (pss_one (ps_ret (pe_cmpR (op_eqD hr.units) (pe_callN (ok_read T) T.g_read (hr.mono (by decide)) passQ0 (pa_cons (pv 0) pa_nil)) (pv 1) (nomark _)))))))))), pure__law_right  h fin⟩)
theorem ok__law_few (T : Txt K mg) : FnB P w K mg base CX0 1 ("_law_few", none) [] (sp__law_few K w) :=
  FnB.mk' T.d__law_few sc__law_few (fun _ _ _ _ _ _ us hl => match us, hl with | [], _ => rfl) (fun vs H Q E h => by obtain ⟨rfl, _⟩ := h; rfl)
  (fun cdv A outer s H vs Q Q0 E hr h fin => ⟨t__law_few K w, PSs.nox ((pss_cons (ps_set (i := 0) sc__law_few.nd rfl (Or.inl rfl) (pe_lst (pa_cons pe_str (pa_cons pe_str (pa_cons pe_str (pa_cons pe_str (pa_cons pe_str (pa_cons pe_str (pa_cons pe_str (pa_cons pe_str (pa_cons pe_str (pa_cons pe_str (pa_cons pe_str (pa_cons pe_str pa_nil))))))))))))))
    (pss_cons (ps_set (i := 0) sc__law_few.nd rfl (Or.inl rfl) (pe_op op_cat (pv 0) (pe_lst (pa_cons pe_str (pa_cons pe_str (pa_cons pe_str (pa_cons pe_str (pa_cons pe_str (pa_cons pe_str (pa_cons pe_str (pa_cons pe_str (pa_cons pe_str (pa_cons pe_str pa_nil)))))))))))))
    (pss_cons (ps_set (i := 0) sc__law_few.nd rfl (Or.inl rfl) (pe_op op_cat (pv 0) (pe_lst (pa_cons pe_str (pa_cons pe_str (pa_cons pe_str (pa_cons pe_str (pa_cons pe_str (pa_cons pe_str (pa_cons pe_str pa_nil))))))))))
    (pss_cons (ps_set (i := 0) sc__law_few.nd rfl (Or.inl rfl) (pe_op op_cat (pv 0) (pe_lst (pa_cons pe_str (pa_cons pe_str (pa_cons pe_str (pa_cons pe_str (pa_cons pe_str (pa_cons pe_str (pa_cons pe_str (pa_cons pe_str (pa_cons pe_str pa_nil))))))))))))
    (pss_cons (ps_set (i := 0) sc__law_few.nd rfl (Or.inl rfl) (pe_op op_cat (pv 0) (pe_lst (pa_cons pe_str (pa_cons pe_str (pa_cons (pe_op op_add_str pe_str (pe_op op_rep_str pe_str pe_int)) (pa_cons (pe_op op_add_str pe_str (pe_op op_rep_str pe_str pe_int)) (pa_cons (pe_op op_add_str (pe_op op_add_str pe_str (pe_op op_rep_str pe_str pe_int)) pe_str) pa_nil))))))))
    (pss_one (ps_ret (pe_op op_cat (pv 0) (pe_lst (pa_cons (pe_op op_add_str (pe_op op_rep_str pe_str pe_int) pe_str) pa_nil))))))))))), pure__law_few  h fin⟩)
theorem ok_law (T : Txt K mg) {fd : FuncData} (F : FunD K "law" "law" (defArgs s_law) (defBody s_law) (defScope s_law) [] [] (He.fAd K ("law", none)) fd) : FnOk P w K mg base CX0 7 (He.fAd K ("law", none)) fd ["_law_script"] (sp_law K w) :=
  fn_mk' F sc_law (fun vs H Q E h => by first | (obtain ⟨_, rfl, _⟩ := h; rfl) | (obtain ⟨_, _, rfl, _⟩ := h; rfl) | (obtain ⟨_, _, _, rfl, _⟩ := h; rfl) | (obtain ⟨_, _, _, _, rfl, _⟩ := h; rfl) | (obtain ⟨_, _, _, _, _, rfl, _⟩ := h; rfl) | (obtain ⟨_, _, _, _, _, _, rfl, _⟩ := h; rfl) | (obtain ⟨_, _, _, _, _, _, _, rfl, _⟩ := h; rfl) | (obtain ⟨_, _, _, _, _, _, _, _, rfl, _⟩ := h; rfl) | (obtain ⟨_, _, _, _, _, _, _, _, _, rfl, _⟩ := h; rfl) | (obtain ⟨_, _, _, _, _, _, _, _, _, _, rfl, _⟩ := h; rfl) | (obtain ⟨_, _, _, _, _, _, _, _, _, _, _, rfl, _⟩ := h; rfl) | (obtain ⟨_, _, _, _, _, _, _, _, _, _, _, _, rfl, _⟩ := h; rfl) | (obtain ⟨_, _, _, _, _, _, _, _, _, _, _, _, _, rfl, _⟩ := h; rfl) | (obtain ⟨_, _, _, _, _, _, _, _, _, _, _, _, _, _, rfl, _⟩ := h; rfl) | (obtain ⟨_, _, _, _, _, _, _, _, _, _, _, _, _, _, _, rfl, _⟩ := h; rfl) | (obtain ⟨_, _, _, _, _, _, _, _, _, _, _, _, _, _, _, _, rfl, _⟩ := h; rfl) | (obtain ⟨_, _, _, _, _, _, _, _, _, _, _, _, _, _, _, _, _, rfl, _⟩ := h; rfl) | (obtain ⟨_, _, _, _, _, _, _, _, _, _, _, _, _, _, _, _, _, _, rfl, _⟩ := h; rfl)) (fun cdv A outer s H vs Q Q0 E hr h fin => ⟨t_law K w, PSs.nox ((pss_cons (ps_set (i := 1) sc_law.nd rfl (Or.inl rfl) (pe_callN (ok__law_requests T) T.g__law_requests (hr.mono (by decide)) pass0 (pa_cons (pv 0) pa_nil)))
    (pss_cons (ps_setLc (i := 2) (own := [("_law_first", 9), ("_law_last", 10), ("_law_price", 11)]) (g := (gTup K 3 (gCons (gName 9) (gCons (gName 10) (gCons (gName 11) gNil))))) (tt := tYes) rfl sc_law.nd rfl rfl (sw_true rfl rfl rfl (by decide +kernel)) (pi_list (pv 1)) (blkOk_by (N := ["_law_script", "_law_requests_here", "_law_words", "_law_text", "_law_handed", "_law_cell", "_law_k", "_law_at", "_law_sign", "_law_first", "_law_last", "_law_price", "_law_thing", "_law_other"]) (sc := defScope s_law) (by decide +kernel)) (fun _ _ _ _ _ => (pg_tup rfl (pgs_cons (pg_name (i := 9) sc_law.nd rfl (Or.inl rfl)) (pgs_cons (pg_name (i := 10) sc_law.nd rfl (Or.inl rfl)) (pgs_cons (pg_name (i := 11) sc_law.nd rfl (Or.inl rfl)) pgs_nil))))) (fun _ _ _ _ _ => pts_nil) (fun _ _ _ _ _ => (pe_op op_add_str (pe_op op_add_str (pe_op op_add_str (pe_op op_add_str (pe_callTy call_str_int rfl T.f_str (by decide +kernel) (pa_cons (pv 9) pa_nil)) pe_str) (pe_callTy call_str_int rfl T.f_str (by decide +kernel) (pa_cons (pv 10) pa_nil))) pe_str) (pe_callTy call_str_int rfl T.f_str (by decide +kernel) (pa_cons (pv 11) pa_nil)))))
    (pss_cons (ps_set (i := 3) sc_law.nd rfl (Or.inl rfl) (pe_ifExp (pt_cmpR (op_neD hr.units) (pv 2) (pe_lst pa_nil) (nomark _)) (pe_join pe_str (pv 2)) pe_str))
    (pss_cons (ps_set (i := 4) sc_law.nd rfl (Or.inl rfl) (pe_callTy call_list_of rfl T.f_list (by decide +kernel) (pa_cons (pv 1) pa_nil)))
    (pss_cons (ps_if (PW.pt (pw_or (pt_cmpR op_ne (pe_callN (ok_writtenX T) T.g_written (hr.mono (by decide)) passN0 (pa_cons (pv 4) pa_nil)) (pv 3) (nomark _)) (pw_or (pt_cmpR (op_neD hr.units) (pv 4) (pv 1) (nomark _)) (pw_or1 (pt_not (pt_val (pe_callN (ok__law_right T) T.g__law_right (hr.mono (by decide)) pass0 (pa_cons (pv 3) pa_nil)))))))) (pss_one (ps_ret pe_bl)) pss_nil)
    (pss_cons (ps_set (i := 5) sc_law.nd rfl (Or.inl rfl) (pe_op op_add (pe_callN (ok__law_cell_at T) T.g__law_cell_at (hr.mono (by decide)) pass0 (pa_cons (pv 0) (pa_cons pe_int pa_nil))) (pe_op op_mul pe_int (pe_callN (ok__law_cell_at T) T.g__law_cell_at (hr.mono (by decide)) pass0 (pa_cons (pv 0) (pa_cons pe_int pa_nil))))))
    (pss_cons (ps_for PassesOwn.never rfl (pi_range1 rfl T.f_range (pa_cons pe_int pa_nil)) (pg_name (i := 6) sc_law.nd rfl (Or.inl rfl)) (pss_cons (ps_set (i := 7) sc_law.nd rfl (Or.inl rfl) (pe_callN (ok__law_draw T) T.g__law_draw (hr.mono (by decide)) pass0 (pa_cons (pe_op op_add (pv 5) (pv 6)) (pa_cons pe_int (pa_cons (pe_op op_add (pe_callB call_len_str rfl T.f_len PySem.boot_len (pa_cons (pv 3) pa_nil)) pe_int) pa_nil)))))
    (pss_cons (ps_set (i := 8) sc_law.nd rfl (Or.inl rfl) (pe_ix ix_tup (pe_tup (pa_cons pe_str (pa_cons (pe_ix ix_str pe_str (pe_callN (ok__law_draw T) T.g__law_draw (hr.mono (by decide)) pass0 (pa_cons (pe_op op_add (pv 5) (pv 6)) (pa_cons pe_int (pa_cons pe_int pa_nil)))) (fun _ _ => rfl)) pa_nil))) (pe_callN (ok__law_draw T) T.g__law_draw (hr.mono (by decide)) pass0 (pa_cons (pe_op op_add (pv 5) (pv 6)) (pa_cons pe_int (pa_cons pe_int pa_nil)))) (fun _ _ => rfl)))
    (pss_one (ps_if (pt_not (pt_val (pe_callN (ok__law_right T) T.g__law_right (hr.mono (by decide)) pass0 (pa_cons (pe_op op_add_str (pe_op op_add_str (pe_slice sl_str (pv 3) po_none (po_some (pv 7))) (pv 8)) (pe_slice sl_str (pv 3) (po_some (pe_op op_add (pv 7) (pe_callN (ok__law_draw T) T.g__law_draw (hr.mono (by decide)) pass0 (pa_cons (pe_op op_add (pv 5) (pv 6)) (pa_cons pe_int (pa_cons pe_int pa_nil)))))) po_none)) pa_nil)))) (pss_one (ps_ret pe_bl)) pss_nil)))))
    (pss_cons (ps_if (pt_not (pt_val (pe_callB (cr_all rfl) rfl T.f_all (by decide +kernel) (pa_cons (pe_lc (own := [("_law_other", 13)]) (g := (gName 13)) (tt := tYes) rfl sc_law.nd (pi_list (pe_callN0 (ok__law_few T) T.g__law_few (hr.mono (by decide)) pass0)) (blkOk_by (N := ["_law_script", "_law_requests_here", "_law_words", "_law_text", "_law_handed", "_law_cell", "_law_k", "_law_at", "_law_sign", "_law_first", "_law_last", "_law_price", "_law_thing", "_law_other"]) (sc := defScope s_law) (by decide +kernel)) (fun _ _ _ _ _ => (pg_name (i := 13) sc_law.nd rfl (Or.inl rfl))) (fun _ _ _ _ _ => pts_nil) (fun _ _ _ _ _ => (pe_callN (ok__law_right T) T.g__law_right (hr.mono (by decide)) pass0 (pa_cons (pv 13) pa_nil)))) pa_nil)))) (pss_one (ps_ret pe_bl)) pss_nil)
    (pss_one (ps_ret (pe_callB (cr_all rfl) rfl T.f_all (by decide +kernel) (pa_cons (pe_lc (own := [("_law_thing", 12)]) (g := (gName 12)) (tt := tYes) rfl sc_law.nd (pi_list (pe_lst (pa_cons pe_non (pa_cons pe_int (pa_cons (pe_lst (pa_cons pe_str pa_nil)) (pa_cons pe_bl pa_nil)))))) (blkOk_by (N := ["_law_script", "_law_requests_here", "_law_words", "_law_text", "_law_handed", "_law_cell", "_law_k", "_law_at", "_law_sign", "_law_first", "_law_last", "_law_price", "_law_thing", "_law_other"]) (sc := defScope s_law) (by decide +kernel)) (fun _ _ _ _ _ => (pg_name (i := 12) sc_law.nd rfl (Or.inl rfl))) (fun _ _ _ _ _ => pts_nil) (fun _ _ _ _ _ => (pe_callN (ok__law_refused T) T.g__law_refused (hr.mono (by decide)) pass0 (pa_cons (pv 12) pa_nil)))) pa_nil))))))))))))), pure_law  h fin⟩)
end
/-! ### the head -/
def fn : List He.DefD := [
  ⟨("_law_draw", none), "_law_draw", "_law_draw", defArgs s__law_draw, defBody s__law_draw, defScope s__law_draw, [], []⟩,
  ⟨("_law_cell_at", none), "_law_cell_at", "_law_cell_at", defArgs s__law_cell_at, defBody s__law_cell_at, defScope s__law_cell_at, [], []⟩,
  ⟨("_law_requests", none), "_law_requests", "_law_requests", defArgs s__law_requests, defBody s__law_requests, defScope s__law_requests, [], []⟩,
  ⟨("is_whole", none), "is_whole", "is_whole", defArgs s_is_whole, defBody s_is_whole, defScope s_is_whole, [], []⟩,
  ⟨("is_request", none), "is_request", "is_request", defArgs s_is_requestX, defBody s_is_requestX, defScope s_is_requestX, [], []⟩,
  ⟨("check_requests", none), "check_requests", "check_requests", defArgs s_check_requestsX, defBody s_check_requestsX, defScope s_check_requestsX, [], []⟩,
  ⟨("written", none), "written", "written", defArgs s_writtenX, defBody s_writtenX, defScope s_writtenX, [], []⟩,
  ⟨("_law_number", none), "_law_number", "_law_number", defArgs s__law_number, defBody s__law_number, defScope s__law_number, [], []⟩,
  ⟨("_law_in", none), "_law_in", "_law_in", defArgs s__law_in, defBody s__law_in, defScope s__law_in, [], []⟩,
  ⟨("number_in", none), "number_in", "number_in", defArgs s_number_in, defBody s_number_in, defScope s_number_in, [], []⟩,
  ⟨("read", none), "read", "read", defArgs s_read, defBody s_read, defScope s_read, [], []⟩,
  ⟨("_law_refused", none), "_law_refused", "_law_refused", defArgs s__law_refused, defBody s__law_refused, defScope s__law_refused, [], []⟩,
  ⟨("_law_right", none), "_law_right", "_law_right", defArgs s__law_right, defBody s__law_right, defScope s__law_right, [], []⟩,
  ⟨("_law_few", none), "_law_few", "_law_few", defArgs s__law_few, defBody s__law_few, defScope s__law_few, [], []⟩,
  ⟨("law", none), "law", "law", defArgs s_law, defBody s_law, defScope s_law, [], []⟩]
def fa : List He.Fa := [.exm "BadRequests" "BadRequests" true, .exm "BadText" "SpanError" true, .free "ValueError", .free "abs", .free "all", .free "any", .free "bool", .free "int", .free "isinstance", .free "len", .free "list", .free "max", .free "range", .free "str", .free "tuple", .glo "BadDays", .glo "BadRequests", .glo "BadRooms", .glo "BadText", .glo "SpanError", .glo "_law_cell_at", .glo "_law_draw", .glo "_law_few", .glo "_law_in", .glo "_law_number", .glo "_law_refused", .glo "_law_requests", .glo "_law_right", .glo "check_requests", .glo "is_request", .glo "is_whole", .glo "law", .glo "number_in", .glo "read", .glo "written", .str "FIGURES" v_FIGURES, .int "MOST" v_MOST, .exc "BadRequests", .exc "BadText"]
def fx : List Fx := [.excC "BadText", .kit "BadText" "BadDays" false, .kit "BadText" "BadRequests" false, .kit "BadText" "BadRooms" false, .kit "BadText" "BadText" true, .kitV "BadText" true]
abbrev R : PySem.W.OpenRow := PySem.W.OpenLaw.row PySem.Challenge.rw_spantolls_k06_written
abbrev hk : PySem.W.Hook := hookX 5 fa fn fx
def ob (s : PySem.W.SharedT) : He.AlD × Bool := obsXG 5 fa fn fx (HandSHeadRun.getT s)
theorem ob_eq (s : PySem.W.SharedT) : ob s = hk.obs s.abs := obsXG_eq (HandSHeadRun.getT_eq s)
def loose1 : List PySem.Str := ["SpanError", "BadRequests", "BadRooms", "BadDays", "BadText", "is_whole", "is_request", "check_requests", "FIGURES", "MOST", "written", "number_in", "read", "_law_cell_at", "_law_draw", "_law_requests", "_law_rooms", "_law_whole", "_law_chosen", "_law_there", "_law_worth", "_law_best", "_law_number", "_law_in", "_law_refused", "_law_right", "_law_few"]
def loose2 : List PySem.Str := []
def looseN : List PySem.Str := loose1 ++ loose2
set_option maxHeartbeats 0 in
theorem run (w : World) : HandSHeadRun.RunEq R (PySem.W.view R.prog [31]) hk ob 20000 looseN w := by
  intro os
  kernel_rfl
theorem txt_of {K : PySem.W.Frag} {h : Heap} {mg : Str → Option Value} (X : K.In h) (G : h.Ns mainGlobals mg) (c : SaysX fa fn fx K) : Txt K mg where
  d__law_draw := c.1.def_ 0 (d := ⟨("_law_draw", none), "_law_draw", "_law_draw", defArgs s__law_draw, defBody s__law_draw, defScope s__law_draw, [], []⟩) rfl
  d__law_cell_at := c.1.def_ 1 (d := ⟨("_law_cell_at", none), "_law_cell_at", "_law_cell_at", defArgs s__law_cell_at, defBody s__law_cell_at, defScope s__law_cell_at, [], []⟩) rfl
  d__law_requests := c.1.def_ 2 (d := ⟨("_law_requests", none), "_law_requests", "_law_requests", defArgs s__law_requests, defBody s__law_requests, defScope s__law_requests, [], []⟩) rfl
  d_is_whole := c.1.def_ 3 (d := ⟨("is_whole", none), "is_whole", "is_whole", defArgs s_is_whole, defBody s_is_whole, defScope s_is_whole, [], []⟩) rfl
  d_is_requestX := c.1.def_ 4 (d := ⟨("is_request", none), "is_request", "is_request", defArgs s_is_requestX, defBody s_is_requestX, defScope s_is_requestX, [], []⟩) rfl
  d_check_requestsX := c.1.def_ 5 (d := ⟨("check_requests", none), "check_requests", "check_requests", defArgs s_check_requestsX, defBody s_check_requestsX, defScope s_check_requestsX, [], []⟩) rfl
  d_writtenX := c.1.def_ 6 (d := ⟨("written", none), "written", "written", defArgs s_writtenX, defBody s_writtenX, defScope s_writtenX, [], []⟩) rfl
  d__law_number := c.1.def_ 7 (d := ⟨("_law_number", none), "_law_number", "_law_number", defArgs s__law_number, defBody s__law_number, defScope s__law_number, [], []⟩) rfl
  d__law_in := c.1.def_ 8 (d := ⟨("_law_in", none), "_law_in", "_law_in", defArgs s__law_in, defBody s__law_in, defScope s__law_in, [], []⟩) rfl
  d_number_in := c.1.def_ 9 (d := ⟨("number_in", none), "number_in", "number_in", defArgs s_number_in, defBody s_number_in, defScope s_number_in, [], []⟩) rfl
  d_read := c.1.def_ 10 (d := ⟨("read", none), "read", "read", defArgs s_read, defBody s_read, defScope s_read, [], []⟩) rfl
  d__law_refused := c.1.def_ 11 (d := ⟨("_law_refused", none), "_law_refused", "_law_refused", defArgs s__law_refused, defBody s__law_refused, defScope s__law_refused, [], []⟩) rfl
  d__law_right := c.1.def_ 12 (d := ⟨("_law_right", none), "_law_right", "_law_right", defArgs s__law_right, defBody s__law_right, defScope s__law_right, [], []⟩) rfl
  d__law_few := c.1.def_ 13 (d := ⟨("_law_few", none), "_law_few", "_law_few", defArgs s__law_few, defBody s__law_few, defScope s__law_few, [], []⟩) rfl
  d_law := c.1.def_ 14 (d := ⟨("law", none), "law", "law", defArgs s_law, defBody s_law, defScope s_law, [], []⟩) rfl
  e_BadRequests_BadRequests := He.exm_ok (c.1.fact 0 (f := .exm "BadRequests" "BadRequests" true) rfl)
  e_BadText_SpanError := He.exm_ok (c.1.fact 1 (f := .exm "BadText" "SpanError" true) rfl)
  f_ValueError := He.free_ok X G (c.1.fact 2 (f := .free "ValueError") rfl)
  f_abs := He.free_ok X G (c.1.fact 3 (f := .free "abs") rfl)
  f_all := He.free_ok X G (c.1.fact 4 (f := .free "all") rfl)
  f_any := He.free_ok X G (c.1.fact 5 (f := .free "any") rfl)
  f_bool := He.free_ok X G (c.1.fact 6 (f := .free "bool") rfl)
  f_int := He.free_ok X G (c.1.fact 7 (f := .free "int") rfl)
  f_isinstance := He.free_ok X G (c.1.fact 8 (f := .free "isinstance") rfl)
  f_len := He.free_ok X G (c.1.fact 9 (f := .free "len") rfl)
  f_list := He.free_ok X G (c.1.fact 10 (f := .free "list") rfl)
  f_max := He.free_ok X G (c.1.fact 11 (f := .free "max") rfl)
  f_range := He.free_ok X G (c.1.fact 12 (f := .free "range") rfl)
  f_str := He.free_ok X G (c.1.fact 13 (f := .free "str") rfl)
  f_tuple := He.free_ok X G (c.1.fact 14 (f := .free "tuple") rfl)
  g_BadDays := He.glo_ok X G (c.1.fact 15 (f := .glo "BadDays") rfl)
  g_BadRequests := He.glo_ok X G (c.1.fact 16 (f := .glo "BadRequests") rfl)
  g_BadRooms := He.glo_ok X G (c.1.fact 17 (f := .glo "BadRooms") rfl)
  g_BadText := He.glo_ok X G (c.1.fact 18 (f := .glo "BadText") rfl)
  g_SpanError := He.glo_ok X G (c.1.fact 19 (f := .glo "SpanError") rfl)
  g__law_cell_at := He.glo_ok X G (c.1.fact 20 (f := .glo "_law_cell_at") rfl)
  g__law_draw := He.glo_ok X G (c.1.fact 21 (f := .glo "_law_draw") rfl)
  g__law_few := He.glo_ok X G (c.1.fact 22 (f := .glo "_law_few") rfl)
  g__law_in := He.glo_ok X G (c.1.fact 23 (f := .glo "_law_in") rfl)
  g__law_number := He.glo_ok X G (c.1.fact 24 (f := .glo "_law_number") rfl)
  g__law_refused := He.glo_ok X G (c.1.fact 25 (f := .glo "_law_refused") rfl)
  g__law_requests := He.glo_ok X G (c.1.fact 26 (f := .glo "_law_requests") rfl)
  g__law_right := He.glo_ok X G (c.1.fact 27 (f := .glo "_law_right") rfl)
  g_check_requests := He.glo_ok X G (c.1.fact 28 (f := .glo "check_requests") rfl)
  g_is_request := He.glo_ok X G (c.1.fact 29 (f := .glo "is_request") rfl)
  g_is_whole := He.glo_ok X G (c.1.fact 30 (f := .glo "is_whole") rfl)
  g_law := He.glo_ok X G (c.1.fact 31 (f := .glo "law") rfl)
  g_number_in := He.glo_ok X G (c.1.fact 32 (f := .glo "number_in") rfl)
  g_read := He.glo_ok X G (c.1.fact 33 (f := .glo "read") rfl)
  g_written := He.glo_ok X G (c.1.fact 34 (f := .glo "written") rfl)
  j_BadText := fx_excC (fx_at c.2 0 (f := .excC "BadText") rfl)
  kt_BadText_BadDays_0 := fx_kit (fx_at c.2 1 (f := .kit "BadText" "BadDays" false) rfl)
  kt_BadText_BadRequests_0 := fx_kit (fx_at c.2 2 (f := .kit "BadText" "BadRequests" false) rfl)
  kt_BadText_BadRooms_0 := fx_kit (fx_at c.2 3 (f := .kit "BadText" "BadRooms" false) rfl)
  kt_BadText_BadText_1 := fx_kit (fx_at c.2 4 (f := .kit "BadText" "BadText" true) rfl)
  v_FIGURES := He.str_ok X G (c.1.fact 35 (f := .str "FIGURES" v_FIGURES) rfl)
  v_MOST := He.int_ok X G (c.1.fact 36 (f := .int "MOST" v_MOST) rfl)
  w_BadText := fx_kitV (fx_at c.2 5 (f := .kitV "BadText" true) rfl)
  x_BadRequests := excF_of (c.1.fact 37 (f := .exc "BadRequests") rfl)
  x_BadText := excF_of (c.1.fact 38 (f := .exc "BadText") rfl)
end Spn
open PySem PySem.W PySem.Calls PyProof.Rows
set_option maxHeartbeats 0 in
theorem PySem.Challenge.cw_spantolls_k06_written_holds : PySem.Challenge.rw_spantolls_k06_written.Holds := by
  w_on; o_law
  refine HandSHeadRun.head_any (r := Spn.R) (q := view Spn.R.prog [31]) (H := Spn.hk) (ob := Spn.ob) (M := 20000) (loose := Spn.looseN) (d := HandSHeadRun.topDef Spn.R.prog 31) (kwd := []) Spn.ob_eq
    (by kernel_rfl) (fun s => by kernel_rfl) Spn.run (by kernel_rfl) (by kernel_rfl) (by kernel_rfl) (by rfl) (by first | assumption | decide +kernel) (by decide +kernel) ⟨rfl, rfl, rfl, rfl, rfl, by decide +kernel⟩ ?hw ?hc
  case hw => w_witness2
  case hc =>
    refine L2.walk_ofE (l := PySem.Challenge.rw_spantolls_k06_written) (n := 63) (k := 7) (x := "_law_script") (CX := L2.CX0) rfl (by decide) (by kernel_rfl) ⟨rfl, by decide, by decide⟩ ?F (fun _ _ _ _ z => z)
    intro w mg fa h Y G hmg0
    obtain ⟨K, KX, c⟩ := Y
    have hmg : mg ("law" : PySem.Str) = some (.ref fa) := by
      have e : (HandSHeadRun.topDef Spn.R.prog 31).name = ("law" : PySem.Str) := by kernel_rfl
      rw [← e]
      exact hmg0
    have T := Spn.txt_of KX G c
    obtain ⟨fd, F⟩ := T.d_law
    have ef := hmg.symm.trans T.g_law
    cases ef
    have b := L2.FunD.bindsA (ps := ["_law_script"]) F fun _ _ _ _ _ _ us hl => match us, hl with | [_], _ => rfl
    exact ⟨K, fd, Spn.sp_law K w, KX, fun s v => b s [v] rfl, fun H a ns hl hO hS => ⟨a, ns, rfl, hS, hl, Spn.noT_only hO, fun _ => rfl⟩, fun base _ _ => Spn.ok_law T F⟩
