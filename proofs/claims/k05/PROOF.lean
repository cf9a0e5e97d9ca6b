import PyProof.Rows.All
import Wide.All
import OpenK.AllK
import Wide.FinOn
import HandS.ForMost
import HandS.IsInst
import HandS.Zip
import HandS.TupMul
import HandS.SortInts
import HandS.Style
import HandS.Wide
import HandS.Evl
import KE.GoesNew
import KE.KTupSum
import PySem.Challenge.RW_doublepay_k05_whole_starts_and_ends
set_option Elab.async false
set_option linter.all false
set_option maxRecDepth 100000
set_option maxHeartbeats 8000000
/-! The mirror of the program's functions and its mathematics; core Lean alone. -/
namespace DM

/-- one round of numbers_in: all times f, then f - 1 more at j -/
def stepN (f : Int) : List Int → Nat → List Int
  | [], _ => []
  | x :: xs, 0 => (f * x + (f - 1)) :: xs.map (f * ·)
  | x :: xs, j + 1 => (f * x) :: stepN f xs j

def numsFrom (f : Int) (xs : List Int) (ws : List Int) : List Int := ws.foldl (fun ys p => stepN f ys p.toNat) xs
def nums (f : Int) (n : Nat) (ws : List Int) : List Int := numsFrom f (List.replicate n 0) ws

def WordOk (n : Nat) (ws : List Int) : Prop := ∀ p ∈ ws, 0 ≤ p ∧ p < n

theorem stepN_length (f : Int) : ∀ (xs : List Int) (j : Nat), (stepN f xs j).length = xs.length
  | [], _ => rfl
  | x :: xs, 0 => by simp [stepN]
  | x :: xs, j + 1 => by simp [stepN, stepN_length f xs j]
theorem stepN_set (f : Int) : ∀ (xs : List Int) (j : Nat) (y : Int), (xs.map (f * ·))[j]? = some y → (xs.map (f * ·)).set j (y + (f - 1)) = stepN f xs j
  | [], j, y, h => by simp at h
  | x :: xs, 0, y, h => by
    simp at h
    subst h
    simp [stepN]
  | x :: xs, j + 1, y, h => by
    have h' : (xs.map (f * ·))[j]? = some y := by simpa using h
    have ih := stepN_set f xs j y h'
    show f * x :: (xs.map (f * ·)).set j (y + (f - 1)) = f * x :: stepN f xs j
    rw [ih]
theorem sum_map_mul (f : Int) : ∀ xs : List Int, (xs.map (f * ·)).sum = f * xs.sum
  | [] => by simp
  | x :: xs => by
    have ih := sum_map_mul f xs
    simp only [List.map_cons, List.sum_cons, ih, Int.mul_add]
theorem stepN_sum (f : Int) : ∀ (xs : List Int) (j : Nat), j < xs.length → (stepN f xs j).sum = f * xs.sum + (f - 1)
  | [], j, h => by simp at h
  | x :: xs, 0, _ => by
    simp only [stepN, List.sum_cons, sum_map_mul]
    grind
  | x :: xs, j + 1, h => by
    have ih := stepN_sum f xs j (by simpa using h)
    simp only [stepN, List.sum_cons, ih]
    grind
theorem stepN_nonneg (f : Int) (hf : 1 ≤ f) : ∀ (xs : List Int) (j : Nat), (∀ x ∈ xs, 0 ≤ x) → ∀ y ∈ stepN f xs j, 0 ≤ y
  | [], j, _, y, hy => by simp [stepN] at hy
  | x :: xs, 0, h, y, hy => by
    simp only [stepN, List.mem_cons, List.mem_map] at hy
    have hx : 0 ≤ x := h x (by simp)
    rcases hy with rfl | ⟨z, hz, rfl⟩
    · have := Int.mul_nonneg (show 0 ≤ f by omega) hx
      omega
    · exact Int.mul_nonneg (by omega) (h z (by simp [hz]))
  | x :: xs, j + 1, h, y, hy => by
    simp only [stepN, List.mem_cons] at hy
    rcases hy with rfl | hy
    · exact Int.mul_nonneg (by omega) (h x (by simp))
    · exact stepN_nonneg f hf xs j (fun z hz => h z (by simp [hz])) y hy
theorem stepN_bound (f b : Int) (hf : 1 ≤ f) : ∀ (xs : List Int) (j : Nat), (∀ x ∈ xs, x ≤ b) → ∀ y ∈ stepN f xs j, y ≤ f * b + (f - 1)
  | [], j, _, y, hy => by simp [stepN] at hy
  | x :: xs, 0, h, y, hy => by
    simp only [stepN, List.mem_cons, List.mem_map] at hy
    rcases hy with rfl | ⟨z, hz, rfl⟩
    · have := Int.mul_le_mul_of_nonneg_left (h x (by simp)) (show 0 ≤ f by omega)
      omega
    · have := Int.mul_le_mul_of_nonneg_left (h z (by simp [hz])) (show 0 ≤ f by omega)
      omega
  | x :: xs, j + 1, h, y, hy => by
    simp only [stepN, List.mem_cons] at hy
    rcases hy with rfl | hy
    · have := Int.mul_le_mul_of_nonneg_left (h x (by simp)) (show 0 ≤ f by omega)
      omega
    · exact stepN_bound f b hf xs j (fun z hz => h z (by simp [hz])) y hy

theorem numsFrom_append (f : Int) (xs us vs : List Int) : numsFrom f xs (us ++ vs) = numsFrom f (numsFrom f xs us) vs := by
  unfold numsFrom
  rw [List.foldl_append]
theorem numsFrom_length (f : Int) : ∀ (ws xs : List Int), (numsFrom f xs ws).length = xs.length
  | [], xs => rfl
  | p :: ws, xs => by
    show (numsFrom f (stepN f xs p.toNat) ws).length = xs.length
    rw [numsFrom_length f ws, stepN_length]
theorem nums_length (f : Int) (n : Nat) (ws : List Int) : (nums f n ws).length = n := by
  unfold nums
  rw [numsFrom_length, List.length_replicate]
theorem nums_snoc (f : Int) (n : Nat) (ws : List Int) (p : Int) : nums f n (ws ++ [p]) = stepN f (nums f n ws) p.toNat := by
  unfold nums
  rw [numsFrom_append]
  rfl
theorem numsFrom_nonneg (f : Int) (hf : 1 ≤ f) : ∀ (ws xs : List Int), (∀ x ∈ xs, 0 ≤ x) → ∀ y ∈ numsFrom f xs ws, 0 ≤ y
  | [], xs, h => h
  | p :: ws, xs, h => numsFrom_nonneg f hf ws _ (stepN_nonneg f hf xs p.toNat h)
theorem nums_nonneg (f : Int) (hf : 1 ≤ f) (n : Nat) (ws : List Int) : ∀ y ∈ nums f n ws, 0 ≤ y :=
  numsFrom_nonneg f hf ws _ fun x hx => by rw [(List.mem_replicate.mp hx).2]; exact Int.le_refl _
theorem sum_replicate0 : ∀ n : Nat, (List.replicate n (0 : Int)).sum = 0
  | 0 => rfl
  | n + 1 => by rw [List.replicate_succ, List.sum_cons, sum_replicate0 n]; rfl
theorem numsFrom_sum (f : Int) : ∀ (ws xs : List Int), WordOk xs.length ws → (numsFrom f xs ws).sum = f ^ ws.length * xs.sum + (f ^ ws.length - 1)
  | [], xs, _ => by simp [numsFrom]
  | p :: ws, xs, h => by
    have hp := h p (by simp)
    have e := stepN_sum f xs p.toNat (by omega)
    have ih := numsFrom_sum f ws (stepN f xs p.toNat) (by rw [stepN_length]; exact fun q hq => h q (by simp [hq]))
    show (numsFrom f (stepN f xs p.toNat) ws).sum = _
    rw [ih, e, List.length_cons, Int.pow_succ]
    generalize f ^ ws.length = g
    generalize xs.sum = t
    grind
theorem nums_sum (f : Int) (n : Nat) (ws : List Int) (h : WordOk n ws) : (nums f n ws).sum = f ^ ws.length - 1 := by
  unfold nums
  rw [numsFrom_sum f ws _ (by rw [List.length_replicate]; exact h), sum_replicate0]
  omega

/-! ### after a word -/
def after (f : Int) (cs ws : List Int) : List Int := List.zipWith (fun c k => f ^ ws.length * c - cs.sum * k) cs (nums f cs.length ws)
def sums (f : Int) (cs ws : List Int) : List Int := List.zipWith (fun c k => c + cs.sum * k) cs (nums f cs.length ws)
theorem after_length (f : Int) (cs ws : List Int) : (after f cs ws).length = cs.length := by
  unfold after
  rw [List.length_zipWith, nums_length, Nat.min_self]
theorem sums_length (f : Int) (cs ws : List Int) : (sums f cs ws).length = cs.length := by
  unfold sums
  rw [List.length_zipWith, nums_length, Nat.min_self]
theorem sum_zip (a b : Int) : ∀ (cs ks : List Int), cs.length = ks.length → (List.zipWith (fun c k => a * c - b * k) cs ks).sum = a * cs.sum - b * ks.sum
  | [], [], _ => by simp
  | [], _ :: _, hl => by simp at hl
  | _ :: _, [], hl => by simp at hl
  | c :: cs, k :: ks, h => by
    have ih := sum_zip a b cs ks (by simpa using h)
    simp only [List.zipWith_cons_cons, List.sum_cons, ih]
    grind
theorem after_sum (f : Int) (cs ws : List Int) (h : WordOk cs.length ws) : (after f cs ws).sum = cs.sum := by
  unfold after
  rw [sum_zip _ _ _ _ (nums_length ..).symm, nums_sum f _ ws h]
  generalize f ^ ws.length = g
  generalize cs.sum = t
  grind
theorem after_nil (f : Int) (cs : List Int) : after f cs [] = cs := by
  unfold after nums numsFrom
  have : ∀ (cs : List Int) (t : Int), List.zipWith (fun c k => f ^ ([] : List Int).length * c - t * k) cs (List.replicate cs.length 0) = cs := by
    intro cs t
    induction cs with
    | nil => rfl
    | cons c cs ih => simp_all [List.replicate_succ]
  exact this cs cs.sum
/-- a round with debts let -/
def owedN (f S : Int) : List Int → Nat → List Int
  | [], _ => []
  | x :: xs, 0 => (f * x - (f - 1) * S) :: xs.map (f * ·)
  | x :: xs, j + 1 => (f * x) :: owedN f S xs j
theorem owedN_length (f S : Int) : ∀ (xs : List Int) (j : Nat), (owedN f S xs j).length = xs.length
  | [], _ => rfl
  | x :: xs, 0 => by simp [owedN]
  | x :: xs, j + 1 => by simp [owedN, owedN_length f S xs j]
theorem owedN_set (f S : Int) : ∀ (xs : List Int) (j : Nat) (y : Int), xs[j]? = some y → (xs.map (f * ·)).set j (f * y - (f - 1) * S) = owedN f S xs j
  | [], j, y, h => by simp at h
  | x :: xs, 0, y, h => by
    have e : x = y := by simpa using h
    subst e
    rfl
  | x :: xs, j + 1, y, h => by
    have ih := owedN_set f S xs j y (by simpa using h)
    show f * x :: (xs.map (f * ·)).set j (f * y - (f - 1) * S) = f * x :: owedN f S xs j
    rw [ih]
theorem zip_map_mul (f a S : Int) : ∀ (cs ks : List Int), List.zipWith (fun c k => f * a * c - S * k) cs (ks.map (f * ·)) = (List.zipWith (fun c k => a * c - S * k) cs ks).map (f * ·)
  | [], _ => by simp
  | _ :: _, [] => by simp
  | c :: cs, k :: ks => by
    have ih := zip_map_mul f a S cs ks
    simp only [List.map_cons, List.zipWith_cons_cons, ih]
    congr 1
    grind
theorem zip_stepN (f a S : Int) : ∀ (cs ks : List Int) (j : Nat), cs.length = ks.length → List.zipWith (fun c k => f * a * c - S * k) cs (stepN f ks j) = owedN f S (List.zipWith (fun c k => a * c - S * k) cs ks) j
  | [], [], j, _ => rfl
  | [], _ :: _, _, h => by simp at h
  | _ :: _, [], _, h => by simp at h
  | c :: cs, k :: ks, 0, h => by
    simp only [stepN, owedN, List.zipWith_cons_cons, zip_map_mul]
    congr 1
    grind
  | c :: cs, k :: ks, j + 1, h => by
    have ih := zip_stepN f a S cs ks j (by simpa using h)
    simp only [stepN, owedN, List.zipWith_cons_cons, ih]
    congr 1
    grind
theorem after_snoc (f : Int) (cs ws : List Int) (p : Int) : after f cs (ws ++ [p]) = owedN f cs.sum (after f cs ws) p.toNat := by
  unfold after
  rw [nums_snoc, List.length_append, List.length_singleton, Int.pow_succ, Int.mul_comm (f ^ ws.length) f]
  exact zip_stepN f _ _ _ _ _ (nums_length ..).symm

/-! ### start_for -/
def startC (f : Int) (cs ws : List Int) : Option (List Int) :=
  if (sums f cs ws).filter (fun x => !decide (x % f ^ ws.length = 0)) = [] then some ((sums f cs ws).map (· / f ^ ws.length)) else none
theorem sums_after_aux (g t : Int) : ∀ (cs ks : List Int), cs.length = ks.length → List.zipWith (fun c k => c + t * k) (List.zipWith (fun c k => g * c - t * k) cs ks) ks = cs.map (g * ·)
  | [], [], _ => rfl
  | [], _ :: _, hl => by simp at hl
  | _ :: _, [], hl => by simp at hl
  | c :: cs, k :: ks, h => by
    have ih := sums_after_aux g t cs ks (by simpa using h)
    simp only [List.zipWith_cons_cons, List.map_cons, ih]
    congr 1
    omega
theorem pow_pos' {f : Int} (hf : 1 ≤ f) (m : Nat) : 1 ≤ f ^ m := by
  have := Int.pow_pos (n := f) (m := m) (by omega)
  omega
theorem start_after (f : Int) (hf : 1 ≤ f) (cs ws : List Int) (h : WordOk cs.length ws) : startC f (after f cs ws) ws = some cs := by
  have e : sums f (after f cs ws) ws = cs.map (f ^ ws.length * ·) := by
    unfold sums
    rw [after_sum f cs ws h, after_length]
    unfold after
    exact sums_after_aux _ _ _ _ (nums_length ..).symm
  have g1 := pow_pos' hf ws.length
  unfold startC
  rw [e]
  generalize f ^ ws.length = g at g1
  have e2 : (cs.map (g * ·)).filter (fun x => !decide (x % g = 0)) = [] := by
    rw [List.filter_eq_nil_iff]
    intro x hx
    obtain ⟨c, _, rfl⟩ := List.mem_map.mp hx
    simp [Int.mul_emod_right]
  rw [if_pos e2, List.map_map]
  congr 1
  have : ∀ c : Int, ((· / g) ∘ (g * ·)) c = c := fun c => by
    show g * c / g = c
    rw [Int.mul_ediv_cancel_left _ (by omega)]
  rw [show ((· / g) ∘ (g * ·) : Int → Int) = id from funext this, List.map_id]
theorem start_len {f : Int} {cs ws st : List Int} (e : startC f cs ws = some st) : st.length = cs.length := by
  unfold startC at e
  split at e
  · cases e
    rw [List.length_map, sums_length]
  · cases e
theorem div_back (g t : Int) (hg : 1 ≤ g) : ∀ (cs ks : List Int), cs.length = ks.length → (List.zipWith (fun c k => c + t * k) cs ks).filter (fun x => !decide (x % g = 0)) = [] →
    List.zipWith (fun c k => g * c - t * k) ((List.zipWith (fun c k => c + t * k) cs ks).map (· / g)) ks = cs ∧ g * ((List.zipWith (fun c k => c + t * k) cs ks).map (· / g)).sum = cs.sum + t * ks.sum
  | [], [], _, _ => by simp
  | [], _ :: _, same, _ => by simp at same
  | _ :: _, [], same, _ => by simp at same
  | c :: cs, k :: ks, h, hf => by
    rw [List.zipWith_cons_cons, List.filter_cons] at hf
    split at hf
    · cases hf
    · rename_i hd
      have hd : (c + t * k) % g = 0 := by simpa using hd
      obtain ⟨i1, i2⟩ := div_back g t hg cs ks (by simpa using h) hf
      have e : g * ((c + t * k) / g) = c + t * k := by
        have := Int.mul_ediv_add_emod (c + t * k) g
        omega
      simp only [List.zipWith_cons_cons, List.map_cons, List.sum_cons, i1]
      constructor
      · congr 1
        omega
      · rw [Int.mul_add, i2, e, Int.mul_add]
        omega
theorem after_start {f : Int} (hf : 1 ≤ f) {cs ws st : List Int} (h : WordOk cs.length ws) (e : startC f cs ws = some st) : after f st ws = cs ∧ st.sum = cs.sum := by
  have g1 := pow_pos' hf ws.length
  have hl := start_len e
  unfold startC at e
  split at e
  · rename_i hn
    cases e
    obtain ⟨i1, i2⟩ := div_back (f ^ ws.length) cs.sum g1 cs (nums f cs.length ws) (nums_length ..).symm hn
    have hs : ((sums f cs ws).map (· / f ^ ws.length)).sum = cs.sum := by
      rw [nums_sum f _ ws h] at i2
      have i3 : f ^ ws.length * ((sums f cs ws).map (· / f ^ ws.length)).sum = f ^ ws.length * cs.sum := by
        refine Eq.trans i2 ?_
        generalize f ^ ws.length = g
        generalize cs.sum = t
        grind
      exact Int.eq_of_mul_eq_mul_left (by omega) i3
    refine ⟨?_, hs⟩
    unfold after
    rw [hs, hl]
    exact i1
  · cases e

/-! ### word_in -/
/-- the only item that is not 0 is c: its place -/
def unitAt (c : Int) : List Int → Option Nat
  | [] => none
  | d :: r => if d = c then (if r.all (fun x => decide (x = 0)) = true then some 0 else none) else if d = 0 then (unitAt c r).map (· + 1) else none
def wordIn (f : Int) : Nat → List Int → Option (List Int)
  | 0, left => if left.filter (fun x => !decide (x = 0)) = [] then some [] else none
  | m + 1, left => match unitAt (f - 1) (left.map (· % f)) with
    | none => none
    | some j => (wordIn f m (left.map (· / f))).map (· ++ [(j : Int)])
theorem unitAt_get {c : Int} (hc : c ≠ 0) : ∀ {ds : List Int} {j : Nat}, unitAt c ds = some j → ds[j]? = some c ∧ ∀ i, i ≠ j → ∀ x, ds[i]? = some x → x = 0
  | [], j, h => by cases h
  | d :: r, j, h => by
    unfold unitAt at h
    split at h
    · rename_i e
      split at h
      · rename_i ha
        cases h
        subst e
        refine ⟨by simp, fun i hi x hx => ?_⟩
        cases i with
        | zero => exact absurd rfl hi
        | succ i =>
          have hx' : r[i]? = some x := by simpa using hx
          have := List.all_eq_true.mp ha x (List.mem_of_getElem? hx')
          simpa using this
      · cases h
    · split at h
      · rename_i e0
        cases hr : unitAt c r with
        | none => rw [hr] at h; cases h
        | some k =>
          rw [hr] at h
          cases h
          obtain ⟨a, b⟩ := unitAt_get hc hr
          refine ⟨by simpa using a, fun i hi x hx => ?_⟩
          cases i with
          | zero => 
            have : d = x := by simpa using hx
            omega
          | succ i =>
            have hi' : i + 1 ≠ k + 1 := hi
            exact b i (by omega) x (by simpa using hx)
      · cases h
theorem unitAt_lt {c : Int} (hc : c ≠ 0) {ds : List Int} {j : Nat} (h : unitAt c ds = some j) : j < ds.length := by
  obtain ⟨a, _⟩ := unitAt_get hc h
  exact (List.getElem?_eq_some_iff.mp a).1
theorem mod_lem {f x : Int} (hf : 2 ≤ f) : (f * x + (f - 1)) % f = f - 1 ∧ (f * x + (f - 1)) / f = x ∧ (f * x) % f = 0 ∧ (f * x) / f = x := by
  refine ⟨?_, ?_, Int.mul_emod_right f x, Int.mul_ediv_cancel_left _ (by omega)⟩
  · rw [Int.mul_add_emod_self_left]
    exact Int.emod_eq_of_lt (by omega) (by omega)
  · rw [Int.mul_add_ediv_left _ _ (by omega), Int.ediv_eq_zero_of_lt (by omega) (by omega)]
    omega
theorem map_back {f : Int} (hf : 2 ≤ f) : ∀ xs : List Int, ((xs.map (f * ·)).map (· / f)) = xs ∧ ((xs.map (f * ·)).map (· % f)).all (fun x => decide (x = 0)) = true
  | [] => by simp
  | x :: xs => by
    obtain ⟨a, b⟩ := map_back hf xs
    obtain ⟨_, _, m3, m4⟩ := mod_lem (x := x) hf
    refine ⟨?_, ?_⟩
    · simp only [List.map_cons, m4]
      rw [a]
    · simp only [List.map_cons, List.all_cons, m3]
      rw [b]
      rfl
theorem step_back {f : Int} (hf : 2 ≤ f) : ∀ (xs : List Int) (j : Nat), j < xs.length → unitAt (f - 1) ((stepN f xs j).map (· % f)) = some j ∧ (stepN f xs j).map (· / f) = xs
  | [], j, h => by simp at h
  | x :: xs, 0, _ => by
    obtain ⟨m1, m2, _, _⟩ := mod_lem (x := x) hf
    obtain ⟨a, b⟩ := map_back hf xs
    refine ⟨?_, ?_⟩
    · simp only [stepN, List.map_cons, m1]
      unfold unitAt
      rw [if_pos rfl, if_pos b]
    · simp only [stepN, List.map_cons, m2]
      rw [a]
  | x :: xs, j + 1, h => by
    obtain ⟨_, _, m3, m4⟩ := mod_lem (x := x) hf
    obtain ⟨a, b⟩ := step_back hf xs j (by simpa using h)
    refine ⟨?_, ?_⟩
    · simp only [stepN, List.map_cons, m3]
      unfold unitAt
      rw [if_neg (by omega), if_pos rfl, a]
      rfl
    · simp only [stepN, List.map_cons, m4]
      rw [b]
theorem all_back {f : Int} : ∀ ys : List Int, (ys.map (· % f)).all (fun x => decide (x = 0)) = true → (ys.map (· / f)).map (f * ·) = ys
  | [], _ => rfl
  | y :: ys, h => by
    simp only [List.map_cons, List.all_cons, Bool.and_eq_true, decide_eq_true_eq] at h
    have ih := all_back ys h.2
    have := Int.mul_ediv_add_emod y f
    simp only [List.map_cons, ih]
    congr 1
    omega
theorem back_step {f : Int} (hf : 2 ≤ f) : ∀ (ys : List Int) (j : Nat), unitAt (f - 1) (ys.map (· % f)) = some j → stepN f (ys.map (· / f)) j = ys
  | [], j, h => by cases h
  | y :: ys, j, h => by
    have hy := Int.mul_ediv_add_emod y f
    rw [List.map_cons] at h
    unfold unitAt at h
    split at h
    · split at h
      · rename_i e ha
        cases h
        show (f * (y / f) + (f - 1)) :: ((ys.map (· / f)).map (f * ·)) = y :: ys
        rw [all_back ys ha]
        congr 1
        omega
      · cases h
    · split at h
      · rename_i e0
        cases hr : unitAt (f - 1) (ys.map (· % f)) with
        | none => rw [hr] at h; cases h
        | some k =>
          rw [hr] at h
          cases h
          have ih := back_step hf ys k hr
          show f * (y / f) :: stepN f (ys.map (· / f)) k = y :: ys
          rw [ih]
          congr 1
          omega
      · cases h
theorem filter0 : ∀ (xs : List Int), xs.filter (fun x => !decide (x = 0)) = [] ↔ xs = List.replicate xs.length 0
  | [] => by simp
  | x :: xs => by
    have ih := filter0 xs
    rw [List.filter_cons, List.length_cons, List.replicate_succ]
    by_cases hx : x = 0
    · subst hx
      simp [ih]
    · simp [hx]
theorem snoc_of {α : Type} (l : List α) (m : Nat) (h : l.length = m + 1) : ∃ u b, l = u ++ [b] ∧ u.length = m := by
  have hne : l ≠ [] := fun e => by rw [e] at h; cases h
  refine ⟨l.dropLast, l.getLast hne, (List.dropLast_concat_getLast hne).symm, ?_⟩
  rw [List.length_dropLast]
  omega
theorem wordIn_nums {f : Int} (hf : 2 ≤ f) (n : Nat) : ∀ (m : Nat) (ws : List Int), ws.length = m → WordOk n ws → wordIn f m (nums f n ws) = some ws
  | 0, ws, h, _ => by
    have e : ws = [] := List.eq_nil_of_length_eq_zero h
    subst e
    unfold wordIn
    rw [if_pos]
    rw [filter0, nums_length]
    rfl
  | m + 1, ws, h, ok => by
    obtain ⟨u, p, rfl, hu⟩ := snoc_of ws m h
    have hp := ok p (by simp)
    have ih := wordIn_nums hf n m u hu fun q hq => ok q (by simp [hq])
    rw [nums_snoc]
    obtain ⟨a, b⟩ := step_back hf (nums f n u) p.toNat (by rw [nums_length]; omega)
    unfold wordIn
    rw [a, b]
    show (wordIn f m (nums f n u)).map _ = _
    rw [ih]
    show some (u ++ [((p.toNat : Nat) : Int)]) = some (u ++ [p])
    rw [Int.toNat_of_nonneg hp.1]
theorem nums_wordIn {f : Int} (hf : 2 ≤ f) : ∀ (m : Nat) (left w : List Int), wordIn f m left = some w → w.length = m ∧ WordOk left.length w ∧ nums f left.length w = left
  | 0, left, w, h => by
    unfold wordIn at h
    split at h
    · rename_i e
      cases h
      exact ⟨rfl, fun p hp => by simp at hp, ((filter0 left).mp e).symm⟩
    · cases h
  | m + 1, left, w, h => by
    unfold wordIn at h
    cases hu : unitAt (f - 1) (left.map (· % f)) with
    | none => rw [hu] at h; cases h
    | some j =>
      rw [hu] at h
      cases hw : wordIn f m (left.map (· / f)) with
      | none => simp only [hw] at h; cases h
      | some u =>
        simp only [hw] at h
        cases h
        obtain ⟨a, b, c⟩ := nums_wordIn hf m _ u hw
        rw [List.length_map] at b c
        have hj := unitAt_lt (show f - 1 ≠ 0 by omega) hu
        rw [List.length_map] at hj
        refine ⟨by rw [List.length_append, a]; rfl, fun p hp => ?_, ?_⟩
        · obtain hp | hp := List.mem_append.mp hp
          · exact b p hp
          · have e : p = (j : Int) := by simpa using hp
            omega
        · rw [nums_snoc, c]
          exact back_step hf left j hu

/-! ### between_in -/
def gaps (f : Int) (m : Nat) (cs os : List Int) : List Int := List.zipWith (fun c o => f ^ m * c - o) cs os
def badGap (t g : Int) : Bool := decide (g < 0) || !decide (g % t = 0)
def between (f : Int) (cs os : List Int) (m : Nat) : Option (List Int) :=
  if os.sum = cs.sum then (if (gaps f m cs os).filter (badGap cs.sum) = [] then wordIn f m ((gaps f m cs os).map (· / cs.sum)) else none) else none
theorem gaps_after (g t : Int) : ∀ (cs ks : List Int), cs.length = ks.length → List.zipWith (fun c o => g * c - o) cs (List.zipWith (fun c k => g * c - t * k) cs ks) = ks.map (t * ·)
  | [], [], _ => rfl
  | [], _ :: _, hl => by simp at hl
  | _ :: _, [], hl => by simp at hl
  | c :: cs, k :: ks, h => by
    have ih := gaps_after g t cs ks (by simpa using h)
    simp only [List.zipWith_cons_cons, List.map_cons, ih]
    congr 1
    omega
theorem between_after {f : Int} (hf : 2 ≤ f) (cs ws : List Int) (ht : 0 < cs.sum) (h : WordOk cs.length ws) : between f cs (after f cs ws) ws.length = some ws := by
  have e : gaps f ws.length cs (after f cs ws) = (nums f cs.length ws).map (cs.sum * ·) := gaps_after _ _ _ _ (nums_length ..).symm
  unfold between
  rw [if_pos (after_sum f cs ws h), e]
  have e2 : ((nums f cs.length ws).map (cs.sum * ·)).filter (badGap cs.sum) = [] := by
    rw [List.filter_eq_nil_iff]
    intro x hx
    obtain ⟨k, hk, rfl⟩ := List.mem_map.mp hx
    have h0 := Int.mul_nonneg (show 0 ≤ cs.sum by omega) (nums_nonneg f (by omega) _ ws k hk)
    unfold badGap
    have n0 : ¬ cs.sum * k < 0 := by omega
    simp [Int.mul_emod_right, n0]
  rw [if_pos e2, List.map_map]
  have : ∀ c : Int, ((· / cs.sum) ∘ (cs.sum * ·)) c = c := fun c => by
    show cs.sum * c / cs.sum = c
    rw [Int.mul_ediv_cancel_left _ (by omega)]
  rw [show ((· / cs.sum) ∘ (cs.sum * ·) : Int → Int) = id from funext this, List.map_id]
  exact wordIn_nums hf _ _ ws rfl h
theorem gaps_back (g t : Int) : ∀ (cs os : List Int), cs.length = os.length → (List.zipWith (fun c o => g * c - o) cs os).filter (badGap t) = [] →
    List.zipWith (fun c k => g * c - t * k) cs ((List.zipWith (fun c o => g * c - o) cs os).map (· / t)) = os
  | [], [], _, _ => rfl
  | [], _ :: _, same, _ => by simp at same
  | _ :: _, [], same, _ => by simp at same
  | c :: cs, o :: os, h, hf => by
    rw [List.zipWith_cons_cons, List.filter_cons] at hf
    split at hf
    · cases hf
    · rename_i hd
      have hd : (g * c - o) % t = 0 := by
        unfold badGap at hd
        simp only [Bool.or_eq_true, not_or, Bool.not_eq_true', decide_eq_false_iff_not, Decidable.not_not] at hd
        simpa using hd.2
      have ih := gaps_back g t cs os (by simpa using h) hf
      have := Int.mul_ediv_add_emod (g * c - o) t
      simp only [List.zipWith_cons_cons, List.map_cons, ih]
      congr 1
      omega
theorem gaps_length (f : Int) (m : Nat) (cs os : List Int) (h : cs.length = os.length) : (gaps f m cs os).length = cs.length := by
  unfold gaps
  rw [List.length_zipWith, h, Nat.min_self]
theorem after_between {f : Int} (hf : 2 ≤ f) {cs os w : List Int} {m : Nat} (hl : cs.length = os.length) (e : between f cs os m = some w) : w.length = m ∧ WordOk cs.length w ∧ after f cs w = os := by
  unfold between at e
  split at e
  · split at e
    · rename_i h1 h2
      obtain ⟨a, b, c⟩ := nums_wordIn hf m _ w e
      rw [List.length_map, gaps_length f m cs os hl] at b c
      refine ⟨a, b, ?_⟩
      unfold after
      rw [a, c]
      exact gaps_back _ _ _ _ hl h2
    · cases e
  · cases e

/-! ### the law's own way back -/
def addN (v : Int) : List Int → Nat → List Int
  | [], _ => []
  | x :: xs, 0 => (x + v) :: xs
  | x :: xs, j + 1 => x :: addN v xs j
theorem addN_length (v : Int) : ∀ (xs : List Int) (j : Nat), (addN v xs j).length = xs.length
  | [], _ => rfl
  | x :: xs, 0 => rfl
  | x :: xs, j + 1 => by
    show (addN v xs j).length + 1 = xs.length + 1
    rw [addN_length v xs j]
theorem addN_get (v : Int) : ∀ (xs : List Int) (j i : Nat) (x : Int), xs[i]? = some x → (addN v xs j)[i]? = some (if i = j then x + v else x)
  | [], _, _, _, hl => by simp at hl
  | a :: xs, 0, 0, x, h => by
    have e : a = x := by simpa using h
    subst e
    simp [addN]
  | a :: xs, 0, i + 1, x, h => by
    have e : xs[i]? = some x := by simpa using h
    simp [addN, e]
  | a :: xs, j + 1, 0, x, h => by
    have e : a = x := by simpa using h
    subst e
    simp [addN]
  | a :: xs, j + 1, i + 1, x, h => by
    have ih := addN_get v xs j i x (by simpa using h)
    have : (i + 1 = j + 1) = (i = j) := by simp
    simp only [addN, List.getElem?_cons_succ, ih, this]
theorem back_map (f S a : Int) : ∀ (ls ks : List Int), List.zipWith (fun l k => l + S * (a * f) * k) ls ks = List.zipWith (fun l k => l + S * a * k) ls (ks.map (f * ·))
  | [], _ => by simp
  | _ :: _, [] => by simp
  | l :: ls, k :: ks => by
    simp only [List.map_cons, List.zipWith_cons_cons, back_map f S a ls ks]
    congr 1
    grind
theorem back_addN (f S a : Int) : ∀ (ls ks : List Int) (j : Nat), List.zipWith (fun l k => l + S * (a * f) * k) (addN ((f - 1) * S * a) ls j) ks = List.zipWith (fun l k => l + S * a * k) ls (stepN f ks j)
  | [], _, j => by simp [addN]
  | _ :: _, [], j => by cases j <;> simp [stepN]
  | l :: ls, k :: ks, 0 => by
    simp only [addN, stepN, List.zipWith_cons_cons, back_map f S a ls ks]
    congr 1
    grind
  | l :: ls, k :: ks, j + 1 => by
    simp only [addN, stepN, List.zipWith_cons_cons, back_addN f S a ls ks j]
    congr 1
    grind
def backRun (f S : Int) (st : List Int × Int) (rs : List Int) : List Int × Int := rs.foldl (fun st p => (addN ((f - 1) * S * st.2) st.1 p.toNat, st.2 * f)) st
theorem backRun_eq (f S : Int) (n : Nat) : ∀ (m : Nat) (ws ls : List Int) (a : Int), ws.length = m → ls.length = n →
    backRun f S (ls, a) ws.reverse = (List.zipWith (fun l k => l + S * a * k) ls (nums f n ws), a * f ^ m)
  | 0, ws, ls, a, h, hl => by
    have e : ws = [] := List.eq_nil_of_length_eq_zero h
    subst e
    have : ∀ (ls : List Int), List.zipWith (fun l k => l + S * a * k) ls (List.replicate ls.length 0) = ls := by
      intro ls
      induction ls with
      | nil => rfl
      | cons c cs ih => simp_all [List.replicate_succ]
    show (ls, a) = (List.zipWith (fun l k => l + S * a * k) ls (List.replicate n 0), a * f ^ 0)
    rw [← hl, this ls, Int.pow_zero, Int.mul_one]
  | m + 1, ws, ls, a, h, hl => by
    obtain ⟨u, p, rfl, hu⟩ := snoc_of ws m h
    rw [List.reverse_append]
    show backRun f S (addN ((f - 1) * S * a) ls p.toNat, a * f) u.reverse = _
    rw [backRun_eq f S n m u _ _ hu (by rw [addN_length]; exact hl), nums_snoc, back_addN, Int.pow_succ]
    congr 1
    grind
theorem backRun_sums (f : Int) (cs ws : List Int) : backRun f cs.sum (cs, 1) ws.reverse = (sums f cs ws, f ^ ws.length) := by
  rw [backRun_eq f cs.sum cs.length ws.length ws cs 1 rfl rfl]
  simp [sums]
theorem start_none {f : Int} {cs ws : List Int} (e : startC f cs ws = none) : (sums f cs ws).filter (fun x => !decide (x % f ^ ws.length = 0)) ≠ [] := by
  unfold startC at e
  split at e
  · cases e
  · assumption

/-! ### sorted digits -/
theorem perm_sorted_eq : ∀ {xs ys : List Int}, xs.Perm ys → xs.Pairwise (· ≤ ·) → ys.Pairwise (· ≤ ·) → xs = ys
  | [], ys, p, _, _ => (List.nil_perm.mp p).symm
  | x :: xs, [], p, _, _ => by cases List.perm_nil.mp p
  | x :: xs, y :: ys, p, hx, hy => by
    have a := List.pairwise_cons.mp hx
    have b := List.pairwise_cons.mp hy
    have e : x = y := by
      have h1 : x ∈ y :: ys := p.mem_iff.mp (by simp)
      have h2 : y ∈ x :: xs := p.mem_iff.mpr (by simp)
      have h1' : y ≤ x := by
        rcases List.mem_cons.mp h1 with h | h
        · omega
        · exact b.1 x h
      have h2' : x ≤ y := by
        rcases List.mem_cons.mp h2 with h | h
        · omega
        · exact a.1 y h
      omega
    subst e
    rw [perm_sorted_eq (p.cons_inv) a.2 b.2]
theorem unit_perm {c : Int} : ∀ {ds : List Int} {j : Nat}, unitAt c ds = some j → ds.Perm (List.replicate (ds.length - 1) 0 ++ [c])
  | [], j, h => by cases h
  | d :: r, j, h => by
    unfold unitAt at h
    split at h
    · split at h
      · rename_i e ha
        subst e
        have hr : r = List.replicate r.length 0 := by
          apply List.eq_replicate_iff.mpr
          refine ⟨rfl, fun b hb => ?_⟩
          have := List.all_eq_true.mp ha b hb
          simpa using this
        rw [List.length_cons, Nat.add_sub_cancel, ← hr]
        exact (List.perm_append_singleton d r).symm
      · cases h
    · split at h
      · rename_i e0
        subst e0
        cases hr : unitAt c r with
        | none => rw [hr] at h; cases h
        | some k =>
          have ih := unit_perm hr
          have hpos : 0 < r.length := by
            cases r with
            | nil => cases hr
            | cons _ _ => simp
          rw [List.length_cons]; rw [Nat.add_sub_cancel]
          have e : List.replicate r.length (0 : Int) = 0 :: List.replicate (r.length - 1) 0 := by
            rw [← List.replicate_succ]
            congr 1
            omega
          rw [e]
          exact List.Perm.cons 0 ih
      · cases h
theorem perm_unit {c : Int} (hc : c ≠ 0) : ∀ {ds : List Int}, ds.Perm (List.replicate (ds.length - 1) 0 ++ [c]) → ∃ j, unitAt c ds = some j
  | [], h => by
    have := h.length_eq
    simp at this
  | d :: r, h => by
    by_cases e : d = c
    · subst e
      have h2 : (d :: r).Perm (d :: List.replicate r.length 0) := by
        refine h.trans ?_
        rw [List.length_cons]; rw [Nat.add_sub_cancel]
        exact List.perm_append_singleton d _
      have h3 := h2.cons_inv
      refine ⟨0, ?_⟩
      unfold unitAt
      rw [if_pos rfl, if_pos]
      apply List.all_eq_true.mpr
      intro x hx
      have := (List.mem_replicate.mp (h3.mem_iff.mp hx)).2
      simp [this]
    · have hd : d ∈ List.replicate ((d :: r).length - 1) 0 ++ [c] := h.mem_iff.mp (by simp)
      have d0 : d = 0 := by
        rcases List.mem_append.mp hd with hd | hd
        · exact (List.mem_replicate.mp hd).2
        · exact absurd (by simpa using hd) e
      subst d0
      have hc' : c ∈ (0 : Int) :: r := h.mem_iff.mpr (by simp)
      have hpos : 0 < r.length := by
        cases r with
        | nil =>
          have : c = 0 := by simpa using hc'
          exact absurd this hc
        | cons _ _ => simp
      have e2 : List.replicate r.length (0 : Int) = 0 :: List.replicate (r.length - 1) 0 := by
        rw [← List.replicate_succ]
        congr 1
        omega
      rw [List.length_cons, Nat.add_sub_cancel, e2] at h
      obtain ⟨j, hj⟩ := perm_unit hc (h.cons_inv)
      refine ⟨j + 1, ?_⟩
      unfold unitAt
      rw [if_neg e, if_pos rfl, hj]
      rfl
theorem unit_rising {c : Int} (hc : 0 ≤ c) (k : Nat) : (List.replicate k 0 ++ [c]).Pairwise (· ≤ ·) := by
  rw [List.pairwise_append]
  refine ⟨?_, by simp, fun a ha b hb => ?_⟩
  · rw [List.pairwise_replicate]
    exact .inr (Int.le_refl _)
  · rw [(List.mem_replicate.mp ha).2, show b = c by simpa using hb]
    exact hc
/-- what the sorted digits tell -/
theorem sorted_unit {c : Int} (hc : 0 < c) {ds ss : List Int} (hp : ss.Perm ds) (hs : ss.Pairwise (· ≤ ·)) : ss = List.replicate (ds.length - 1) 0 ++ [c] ↔ ∃ j, unitAt c ds = some j := by
  constructor
  · intro e
    rw [e] at hp
    exact perm_unit (by omega) hp.symm
  · rintro ⟨j, hj⟩
    exact perm_sorted_eq (hp.trans (unit_perm hj)) hs (unit_rising (by omega) _)

/-! ### sums and bounds -/
theorem le_sum : ∀ {xs : List Int}, (∀ x ∈ xs, 0 ≤ x) → ∀ x ∈ xs, x ≤ xs.sum
  | [], _, x, hx => by simp at hx
  | a :: xs, h, x, hx => by
    have h0 : 0 ≤ xs.sum := by
      clear hx
      have : ∀ ys : List Int, (∀ y ∈ ys, 0 ≤ y) → 0 ≤ ys.sum := by
        intro ys
        induction ys with
        | nil => intro _; simp
        | cons b ys ih =>
          intro hy
          have := ih fun z hz => hy z (by simp [hz])
          have := hy b (by simp)
          rw [List.sum_cons]
          omega
      exact this xs fun y hy => h y (by simp [hy])
    have ha := h a (by simp)
    rw [List.sum_cons]
    obtain rfl | hx := List.mem_cons.mp hx
    · omega
    · have := le_sum (fun y hy => h y (by simp [hy])) x hx
      omega
theorem sum_nonneg {xs : List Int} (h : ∀ x ∈ xs, 0 ≤ x) : 0 ≤ xs.sum := by
  induction xs with
  | nil => simp
  | cons b ys ih =>
    have := ih fun z hz => h z (by simp [hz])
    have := h b (by simp)
    rw [List.sum_cons]
    omega
theorem sum_pos {xs : List Int} (h : ∀ x ∈ xs, 0 ≤ x) {x : Int} (hx : x ∈ xs) (h0 : 0 < x) : 0 < xs.sum := by
  have := le_sum h x hx
  omega
theorem sum_le {b : Int} : ∀ {xs : List Int}, (∀ x ∈ xs, x ≤ b) → xs.sum ≤ xs.length * b
  | [], _ => by simp
  | a :: xs, h => by
    have ih := sum_le (xs := xs) fun y hy => h y (by simp [hy])
    have ha := h a (by simp)
    rw [List.length_cons, List.sum_cons]
    have : ((xs.length + 1 : Nat) : Int) * b = xs.length * b + b := by
      rw [Int.natCast_add, Int.add_mul]
      simp
    omega
theorem exists_pos {xs : List Int} (h : ∀ x ∈ xs, 0 ≤ x) (hs : 0 < xs.sum) : ∃ x ∈ xs, 0 < x := by
  induction xs with
  | nil => simp at hs
  | cons a xs ih =>
    by_cases ha : 0 < a
    · exact ⟨a, by simp, ha⟩
    · have h0 := h a (by simp)
      rw [List.sum_cons] at hs
      obtain ⟨x, hx, h1⟩ := ih (fun y hy => h y (by simp [hy])) (by omega)
      exact ⟨x, by simp [hx], h1⟩
theorem pow_le_pow9 {f : Int} (h2 : 2 ≤ f) (h9 : f ≤ 9) : ∀ m : Nat, f ^ m ≤ 9 ^ m
  | 0 => by simp
  | m + 1 => by
    have ih := pow_le_pow9 h2 h9 m
    have p1 := pow_pos' (show 1 ≤ f by omega) m
    rw [Int.pow_succ, Int.pow_succ]
    have a1 : f ^ m * f ≤ f ^ m * 9 := Int.mul_le_mul_of_nonneg_left h9 (by omega)
    have a2 : f ^ m * 9 ≤ 9 ^ m * 9 := Int.mul_le_mul_of_nonneg_right ih (by omega)
    omega
theorem pow9_le : ∀ {m k : Nat}, m ≤ k → (9 : Int) ^ m ≤ 9 ^ k := fun {m k} h => by
  obtain ⟨d, rfl⟩ := Nat.exists_eq_add_of_le h
  rw [Int.pow_add]
  have p1 := pow_pos' (show (1 : Int) ≤ 9 by omega) m
  have p2 := pow_pos' (show (1 : Int) ≤ 9 by omega) d
  have : (9 : Int) ^ m * 1 ≤ 9 ^ m * 9 ^ d := Int.mul_le_mul_of_nonneg_left p2 (by omega)
  omega
end DM
/-! The law's drawn tables: bounds. -/
namespace DM
theorem tabDiv {f : Int} {xs : List Int} {j : Nat} {B y : Int} (f2 : 2 ≤ f) (hx : ∀ x ∈ xs, 0 ≤ x ∧ x ≤ B) (hp : ∃ x ∈ xs, 0 < x) (hl : xs.length ≤ 5) (hj : xs[j]? = some y) (hd : ∀ (i : Nat) x, i ≠ j → xs[i]? = some x → x % f = 0) :
    (∀ z ∈ (xs.map (· / f)).set j ((y + (f - 1) * xs.sum) / f), 0 ≤ z ∧ z ≤ 9 * B) ∧ ∃ z ∈ (xs.map (· / f)).set j ((y + (f - 1) * xs.sum) / f), 0 < z := by
  have hn : ∀ x ∈ xs, 0 ≤ x := fun x h => (hx x h).1
  have hy := hx y (List.mem_of_getElem? hj)
  have ys := le_sum hn y (List.mem_of_getElem? hj)
  have s5 := sum_le (b := B) fun x h => (hx x h).2
  have B0 : 0 ≤ B := by omega
  have s5' : xs.sum ≤ 5 * B := by
    have : (xs.length : Int) * B ≤ 5 * B := Int.mul_le_mul_of_nonneg_right (by omega) B0
    omega
  have m0 : 0 ≤ (f - 1) * xs.sum := Int.mul_nonneg (by omega) (by omega)
  have hlt : j < xs.length := (List.getElem?_eq_some_iff.mp hj).1
  constructor
  · intro z hz
    rcases List.mem_or_eq_of_mem_set hz with hz | rfl
    · obtain ⟨x, hxm, rfl⟩ := List.mem_map.mp hz
      have h1 := hx x hxm
      have h2 : 0 ≤ x / f := Int.ediv_nonneg h1.1 (by omega)
      have h3 : x / f ≤ x := Int.ediv_le_self f h1.1
      exact ⟨h2, by show x / f ≤ 9 * B; omega⟩
    · refine ⟨Int.ediv_nonneg (by omega) (by omega), ?_⟩
      have : (y + (f - 1) * xs.sum) / f ≤ xs.sum := by
        refine Int.ediv_le_of_le_mul (by omega) ?_
        rw [Int.sub_mul, Int.mul_comm xs.sum f]
        omega
      omega
  · obtain ⟨x, hxm, hx0⟩ := hp
    obtain ⟨i, hi⟩ := List.mem_iff_getElem?.mp hxm
    by_cases hij : i = j
    · subst hij
      rw [hj] at hi
      cases hi
      refine ⟨(y + (f - 1) * xs.sum) / f, List.mem_of_getElem? (i := i) (List.getElem?_set_self (by rw [List.length_map]; exact hlt)), ?_⟩
      have h1 : y ≤ (y + (f - 1) * xs.sum) / f := by
        apply Int.le_ediv_of_mul_le (by omega)
        have h2 : (f - 1) * y ≤ (f - 1) * xs.sum := Int.mul_le_mul_of_nonneg_left ys (by omega)
        rw [Int.sub_mul] at h2 ⊢
        rw [Int.mul_comm y f]
        rw [Int.sub_mul] at h2
        omega
      omega
    · refine ⟨x / f, ?_, ?_⟩
      · apply List.mem_of_getElem? (i := i)
        rw [List.getElem?_set_ne (Ne.symm hij), List.getElem?_map, hi]
        rfl
      · have h1 := hd i x hij hi
        have h2 := Int.mul_ediv_add_emod x f
        by_cases h3 : x / f ≤ 0
        · have : f * (x / f) ≤ 0 := Int.mul_nonpos_of_nonneg_of_nonpos (by omega) h3
          omega
        · omega
theorem tabMul {f : Int} {xs : List Int} {B : Int} (f2 : 2 ≤ f) (f9 : f ≤ 9) (hx : ∀ x ∈ xs, 0 ≤ x ∧ x ≤ B) (hp : ∃ x ∈ xs, 0 < x) :
    (∀ z ∈ xs.map (f * ·), 0 ≤ z ∧ z ≤ 9 * B) ∧ ∃ z ∈ xs.map (f * ·), 0 < z := by
  constructor
  · intro z hz
    obtain ⟨x, hxm, rfl⟩ := List.mem_map.mp hz
    have h1 := hx x hxm
    refine ⟨Int.mul_nonneg (by omega) h1.1, ?_⟩
    have h2 : f * x ≤ 9 * x := Int.mul_le_mul_of_nonneg_right f9 h1.1
    show f * x ≤ 9 * B
    omega
  · obtain ⟨x, hxm, hx0⟩ := hp
    exact ⟨f * x, List.mem_map.mpr ⟨x, hxm, rfl⟩, Int.mul_pos (by omega) hx0⟩
theorem sum_map_mulr (m : Int) : ∀ xs : List Int, (xs.map (· * m)).sum = xs.sum * m
  | [] => by simp
  | x :: xs => by
    have ih := sum_map_mulr m xs
    simp only [List.map_cons, List.sum_cons, ih, Int.add_mul]
theorem sum_replicate1 : ∀ n : Nat, (List.replicate n (1 : Int)).sum = n
  | 0 => rfl
  | n + 1 => by rw [List.replicate_succ, List.sum_cons, sum_replicate1 n]; omega
/-- a word's digits laid out -/
theorem step9 {f : Int} (f2 : 2 ≤ f) (f9 : f ≤ 9) {xs : List Int} {i j : Nat} (hx : ∀ x ∈ xs, 0 ≤ x ∧ x ≤ 9 ^ i - 1) (hj : j < xs.length) :
    (∀ x ∈ stepN f xs j, 0 ≤ x ∧ x ≤ 9 ^ (i + 1) - 1) ∧ 0 < (stepN f xs j).sum := by
  have p9 := pow_pos' (show (1 : Int) ≤ 9 by omega) i
  constructor
  · intro x hm
    refine ⟨stepN_nonneg f (by omega) xs j (fun y hy => (hx y hy).1) x hm, ?_⟩
    have := stepN_bound f (9 ^ i - 1) (by omega) xs j (fun y hy => (hx y hy).2) x hm
    rw [Int.mul_sub] at this
    have h2 : f * 9 ^ i ≤ 9 * 9 ^ i := Int.mul_le_mul_of_nonneg_right f9 (by omega)
    rw [Int.pow_succ, Int.mul_comm _ 9]
    omega
  · rw [stepN_sum f xs j hj]
    have := Int.mul_nonneg (show 0 ≤ f by omega) (sum_nonneg fun y hy => (hx y hy).1)
    omega
end DM
/-! Rules that the hand layer has no row for: sum of a tuple, reading a list's item for xs[i] += e, and iterators that hand out new tuples (told by the heap layer's GoesN). -/
namespace DR
open PySem L2
open PySem.Spec PyProof.Rows

/-! ### the sum of a tuple of ints -/
def rSumT (K : PySem.W.Frag) : List V → Hp → VK → Prop := fun args H k => ∃ (t : Addr) (ms : List Int), args = [V.ref t] ∧ SqT K H t (ms.map V.int) ∧ k (.int ms.sum) H
theorem cr_sumT {X : Cx} (calm : X.calm = true) : CallR X (.builtin "sum") (rSumT X.K) := by
  rintro pins u σ H args held Q inv rel ⟨t, ms, rfl, seq, k⟩
  have ⟨its, are, isT, _⟩ := inv.tuple seq
  have ⟨prs, same⟩ := are.ints.allInts.items
  have nums : numsOf (intItems prs).toList = ms := by
    have z := are.ints.numsOf
    rwa [show its = (intItems prs).toList from congrArg Array.toList same] at z
  have isT' : u.heap.IsTuple t (intItems prs) := same ▸ (show u.heap.IsTuple t its.toArray from isT)
  have total : preSum (numAt prs) prs.size = ms.sum := by
    rw [preSum_eq, ← nums, nums_intItems]
    exact congrArg List.sum (List.take_of_length_le (Nat.le_of_eq (by simp)))
  rw [rel.ref1]
  refine PySem.W.ktm_sumG (inv.ok.hd calm) isT' fun hp n tok grown => ⟨.int ms.sum, H, inv.kept grown, ⟨tok, ?_⟩, k⟩
  rw [total]

/-! ### xs[i], for xs[i] += e -/
def rGetL (K : PySem.W.Frag) : V → V → Hp → VK → Prop := fun o i H k => ∃ l xs j x, o = .ref l ∧ i = .int j ∧ SqL K H l xs ∧ 0 ≤ j ∧ xs[j.toNat]? = some x ∧ k x H
theorem get_list {X : Cx} : PGet X (rGetL X.K) := by
  rintro pins u σ H o i ov iv Q inv rl ri ⟨l, xs, j, x, rfl, rfl, seq, low, at_, k⟩
  have ⟨its, are, lst, _⟩ := inv.list seq
  have ⟨y, here, same⟩ := are.get at_
  cases rl
  have ⟨tok, e⟩ := ri
  subst e
  have inside : j.toNat < its.length := (List.getElem?_eq_some_iff.mp here).1
  have fits := inv.list seq |>.choose_spec.2.2
  have same_len := are.length
  have line := line63
  refine wpAny_getItem_list lst.isList low ?_ (by rw [← here]; simp) ⟨x, H, inv, same, k⟩
  omega

/-! ### iterators that hand out a new tuple at every turn -/
/-- at turn j: a new tuple whose items are r, row j H r -/
def ItRows (has : Nat → Hp → Prop) (row : Nat → Hp → List V → Prop) (out : Nat → Hp → Prop) : It where
  go := has
  yld := fun j H v H' => ∃ T r, v = .ref T ∧ H T = none ∧ H' = upd H T (.tup r) ∧ row j H r
  stop := out
/-- an object stands at c, and it is no cell -/
def Solid (h : Heap) (c : Addr) : Prop := ∃ ob, h.get? c = some ob ∧ ∀ v, ob.data ≠ .cell v
theorem Solid.mk' {h : Heap} {c : Addr} {ob : Obj} (e : h.get? c = some ob) (d : ∀ v, ob.data ≠ .cell v) : Solid h c := ⟨ob, e, d⟩
/-- whatever the heap layer tells as GoesN, for the hand layer -/
theorem turn_rows {P : Program} {w : World} {K : PySem.W.Frag} {tg : Expr} {has out : Nat → Hp → Prop} {row : Nat → Hp → List V → Prop} {cells : List Addr} {it : Addr} {tn : Nat → Heap → Prop} (inC : it ∈ cells)
    (live : ∀ j h, tn j h → ∀ c ∈ cells, Solid h c) (stay : ∀ j h h', tn j h → (∀ c ∈ cells, ∀ ob, h.get? c = some ob → h'.get? c = some ob) → tn j h')
    (self : ∀ (A : Around) (j : Nat) (u : Shared) (Q : Value → Shared → Prop) (E : Value → Shared → Prop), tn j u.heap → Q (.ref it) u → wpAny (model P w) A (pyIter (.ref it)) Q E u)
    (tell : ∀ (X : Cx), X.prog = P → X.w = w → X.K = K → X.calm = true → ∀ (pins : List (Addr × Obj)) (u : Shared) (σ : L2.St) (H : Hp), Inv X pins σ H u → ∀ j, tn j u.heap → (has j H ∨ out j H) →
      ∃ (n : Nat) (fp wr : List Addr) (Y : Nat → Heap → Value → Heap → Prop) (stt : Nat → Heap → Prop), GoesN P w X.A tg it fp wr n Y stt ∧ stt j u.heap ∧ (∀ c ∈ wr, c ∈ cells) ∧ (has j H → j < n) ∧ (out j H → j = n) ∧ (∀ h', stt (j + 1) h' → tn (j + 1) h') ∧
        (has j H → ∀ v h', Y j u.heap v h' → ∃ T us r, v = .ref T ∧ u.heap.objs.size ≤ T ∧ IsTup h' T us.toArray ∧ Vals r us ∧ r.length ≤ sizeLine ∧ row j H r)) :
    Turn P w K tg (ItRows has row out) cells it tn where
  mem := inC
  obj := live
  keep := stay
  self := self
  item := by
    rintro X rfl rfl rfl calm j pins u σ H E inv mine st ok
    have ⟨n, fp, wr, Y, stt, goes, at_, sub, lt, _, next, rows⟩ := tell X rfl rfl rfl calm pins u σ H inv j st (.inl ok)
    refine goes.goes j u _ E (lt ok) at_ fun v h' tk y at' kept _ => ?_
    obtain ⟨T, us, r, rfl, young, tup, are, small, good⟩ := rows ok v h' y
    refine ⟨.ref T, upd H T (.tup r), inv.turnedNew (ch := cells) (fun b ob off => kept b ob fun m => off (sub b m)) mine young ⟨small, us, are, tup⟩, rfl, ⟨T, r, rfl, inv.hok.fresh young, rfl, good⟩, next h' at', fun c m => ?_⟩
    have ⟨ob, e, _⟩ := live j _ st c m
    exact (upd_ne (Nat.ne_of_lt (Nat.lt_of_lt_of_le (Heap.lt_size e) young))).trans (mine c m).1
  done := by
    rintro X rfl rfl rfl calm j pins u σ H E inv mine st ok
    have ⟨n, fp, wr, Y, stt, goes, at_, sub, _, fin, _, _⟩ := tell X rfl rfl rfl calm pins u σ H inv j st (.inr ok)
    have last := fin ok
    subst last
    exact goes.stops u _ E at_ fun h' tk kept _ => inv.turnedL (ch := cells) (fun b ob off => kept b ob fun m => off (sub b m)) mine
/-- cells above the heap's end are ours -/
theorem young_ok {X : Cx} {pins : List (Addr × Obj)} {σ : L2.St} {H : Hp} {u : Shared} (inv : Inv X pins σ H u) {cells : List Addr} (above : ∀ c ∈ cells, u.heap.objs.size ≤ c) : ∀ c ∈ cells, FpOk X pins H c :=
  fun c m => inv.fpOk (above c m) (inv.hok.fresh (above c m))

/-! ### enumerate of a tuple -/
def enumOb (src : Addr) : Obj := { cls := .type "enumerate", data := .fields #[.none, .bool false, .ref src, rawInt 0, .none, .none] }
theorem new_enum {v : Value} {o : Obj} {Has : Heap → Prop} (B : Begins v o Has) :
    Meets (Builtin.«enumerate.__new__» ⟨[.type "enumerate", v], []⟩) fun _ R u => Has u.heap ∧ R (.ok (.ret (.ref (u.heap.push o).objs.size))) { u with heap := (u.heap.push o).push (enumOb u.heap.objs.size) } := by
  refine .of_wp fun prog w A R ⟨hp, gens, dr, toks, os⟩ ⟨stands, good⟩ => ?_
  have isSub := sub_enumerate
  have starts : ∀ {A' : Around} {E Q : Value → Shared → Prop}, Q (.ref hp.objs.size) ⟨hp.push o, gens, dr, toks, os⟩ → wpAny (model prog w) A' (pyIter v) Q E ⟨hp, gens, dr, toks, os⟩ := fun q => B.iter prog w _ _ _ _ stands q
  wp_walk using starts
  apply wpAny_stack_any
  intro stk
  apply wpAny_pure
  split
  rotate_left
  · wp_walk using starts
    exact ⟨_, rfl, good⟩
  rename_i top _ _ _ _ _
  cases (top == Value.type "enumerate") <;>
    (wp_walk using starts
     exact ⟨_, rfl, good⟩)
theorem enum_made {prog : Program} {w : World} {A : Around} {E Q : Value → Shared → Prop} {u : Shared} {v : Value} {o : Obj} {Has : Heap → Prop} (B : Begins v o Has) (stands : Has u.heap)
    (k : ∀ h', IsEnum h' (u.heap.objs.size + 1) u.heap.objs.size 0 .none → h'.get? u.heap.objs.size = some o → (∀ c ob, u.heap.get? c = some ob → h'.get? c = some ob) → Q (.ref (u.heap.objs.size + 1)) { u with heap := h' }) :
    wpAny (model prog w) A (call (.type "enumerate") [v]) Q E u := by
  have top : (u.heap.push o).objs.size = u.heap.objs.size + 1 := by simp
  have en : ((u.heap.push o).push (enumOb u.heap.objs.size)).get? (u.heap.objs.size + 1) = some (enumOb u.heap.objs.size) := top ▸ Heap.get?_push_size (u.heap.push o) rfl
  refine callType_new F.called_enumerate (by decide) (F.typeCall_enumerate_1 v) (F.newCall_enumerate_1 v) (F.args_object_init_2 · v) F.entry_enumerate_new (new_enum B) ⟨stands, ?_⟩
  show _ ∧ _
  rw [top]
  exact ⟨⟨_, en, rfl⟩, k _ en (Heap.get?_push_of_some _ (Heap.get?_push_size _ B.free)) fun c ob e => Heap.get?_push_of_some _ (Heap.get?_push_of_some _ e)⟩
/-- the tuple at a: its number, its item -/
def IteT (K : PySem.W.Frag) (a : Addr) : It :=
  ItRows (fun j H => ∃ xs : List V, SqT K H a xs ∧ j < xs.length) (fun j H r => ∀ xs, SqT K H a xs → ∃ x, xs[j]? = some x ∧ r = [.int (j : Nat), x]) fun j H => ∃ xs : List V, SqT K H a xs ∧ j = xs.length
theorem turn_enumT {P : Program} {w : World} {K : PySem.W.Frag} {elts : List Expr} {kk : Nat} {tpos : Pos} (a e i : Addr) (ea : e ≠ a) (ia : i ≠ a) (ei : e ≠ i) :
    Turn P w K (.Tuple elts kk tpos) (IteT K a) [e, i] e (fun j h => (∃ old, IsEnum h e i (0 + (j : Int)) old) ∧ h.IsTupleIter i a j) := by
  refine turn_rows (by simp) (fun j h ⟨⟨old, en⟩, ob, at_, _, d⟩ => ?_) (fun j h h' ⟨⟨old, en⟩, ti⟩ kept => ⟨⟨old, kept e (by simp) _ en⟩, ti.at fun ob => kept i (by simp) ob⟩) (fun A j u Q E ⟨⟨_, en⟩, _⟩ => wpAny_pyIter_enum en) ?_
  · exact List.forall_mem_cons.mpr ⟨.mk' en (fun _ => nofun), List.forall_mem_cons.mpr ⟨.mk' at_ (fun _ q => nomatch d.symm.trans q), nofun⟩⟩
  · rintro X rfl rfl rfl calm pins u σ H inv j ⟨en, ti⟩ which
    obtain ⟨xs, seq⟩ : ∃ xs, SqT X.K H a xs := which.elim (fun ⟨xs, q, _⟩ => ⟨xs, q⟩) fun ⟨xs, q, _⟩ => ⟨xs, q⟩
    have ⟨its, are, isT, _⟩ := inv.tuple seq
    have len := are.length
    refine ⟨_, _, _, _, _, GoesN.enumFrom 0 (Draws.tuple (A := X.A.in1) (inv.ok.hd calm) i a (Ne.symm ia) its.toArray) e ei (by simp [ei, ea]) (by simp), ⟨en, ti, isT⟩, fun _ m => m, ?_, ?_, fun h' nx => ⟨nx.1, nx.2.1⟩, ?_⟩
    · rintro ⟨ys, q, lt⟩
      rw [inv.tuple_inj q seq] at lt
      simpa [← len] using lt
    · rintro ⟨ys, q, eq⟩
      rw [inv.tuple_inj q seq] at eq
      simpa [← len] using eq
    · rintro ⟨ys, q, lt⟩ v h' ⟨T, t, x, rfl, young, got, tup⟩
      rw [inv.tuple_inj q seq] at lt
      have item := List.getElem?_eq_getElem lt
      have ⟨y, there, same⟩ := are.get item
      have xy : y = x := Option.some.inj (there.symm.trans (by simpa using got))
      subst xy
      exact ⟨T, [.int (0 + (j : Int)) t, y], [.int (j : Nat), xs[j]], rfl, young, tup, .cons ⟨t, by rw [Int.zero_add]⟩ (.cons same .nil), by show 2 ≤ sizeLine; decide, fun zs z => ⟨xs[j], by rw [inv.tuple_inj z seq]; exact item, rfl⟩⟩
def iEnumT (K : PySem.W.Frag) (ta : TA) : TI := fun σ H R => ta σ H fun vs H1 => ∃ a xs, vs = [.ref a] ∧ SqT K H1 a xs ∧ R (IteT K a) H1
theorem pi_enumT {X : Cx} {e : Expr} {ta : TA} {p pos tpos : Pos} {elts : List Expr} {kk : Nat} (hg : Gl X "enumerate") (hm : X.mg "enumerate" = none) (ha : PA X [e] ta) (hs : starEach [e] X.env = [(false, eval e X.env)] := by rfl) :
    PI X (.Tuple elts kk tpos) (.Call (.Name "enumerate" p) [e] [] pos) (iEnumT X.K ta) where
  run := fun pins u σ H R inv need => by
    refine Call_ (ld_blt inv hg hm boot_enumerate (PyProof.Rows.callWith_type1 (thn (ha.run pos pins u σ H _ inv need) ?_) hs rfl))
    rintro args u1 ⟨vs, H1, inv1, rel, a, xs, rfl, seq, k⟩
    rw [rel.ref1]
    have ⟨its, _, isT, _⟩ := inv1.tuple seq
    have low : a < u1.heap.objs.size := isT.lt
    refine enum_made (begins_tuple a its.toArray) isT fun h' en ti grown => wpAny_pyIter_enum en ?_
    exact ⟨_, _, _, _, H1, rfl, inv1.kept (t' := u1.toks) grown, turn_enumT a (u1.heap.objs.size + 1) u1.heap.objs.size (Nat.ne_of_gt (Nat.lt_succ_of_lt low)) (Nat.ne_of_gt low) (Nat.succ_ne_self _),
      ⟨⟨.none, en⟩, _, ti, rfl, rfl⟩, young_ok inv1 (List.forall_mem_cons.mpr ⟨Nat.le_succ _, List.forall_mem_cons.mpr ⟨Nat.le_refl _, nofun⟩⟩), k⟩
end DR
/-! More rules: zip of a tuple and a list, a tuple from behind, a tuple times 1. -/
namespace DR
open PySem L2
open PySem.Spec PyProof.Rows

/-! ### zip(tuple, list) -/
/-- the tuple at a and the list at b side by side -/
def ItzTL (K : PySem.W.Frag) (a b : Addr) : It :=
  ItRows (fun j H => ∃ xs ys : List V, SqT K H a xs ∧ SqL K H b ys ∧ j < xs.length ∧ j < ys.length) (fun j H r => ∀ xs ys, SqT K H a xs → SqL K H b ys → ∃ x y, xs[j]? = some x ∧ ys[j]? = some y ∧ r = [x, y])
    fun j H => ∃ xs ys : List V, SqT K H a xs ∧ SqL K H b ys ∧ j = min xs.length ys.length
/-- zip over what stands at a and b, its five cells from N on -/
def Zipping (N a b : Addr) (j : Nat) (h : Heap) : Prop :=
  IsZip h (N + 4) (N + 2) (N + 3) .none ∧ IsTupOf2 h (N + 2) (.ref N) (.ref (N + 1)) ∧ (∃ p q, IsTupOf2 h (N + 3) p q) ∧ h.IsTupleIter N a j ∧ h.IsListIter (N + 1) b j
theorem turn_zipTL {P : Program} {w : World} {K : PySem.W.Frag} {elts : List Expr} {kk : Nat} {tpos : Pos} {N a b : Addr} (la : a < N) (lb : b < N) :
    Turn P w K (.Tuple elts kk tpos) (ItzTL K a b) [N, N + 1, N + 2, N + 3, N + 4] (N + 4) (Zipping N a b) := by
  refine turn_rows (by simp) (fun j h ⟨zp, ti, ⟨_, _, to⟩, ⟨_, e1, _, d1⟩, ⟨_, e2, _, d2⟩⟩ => ?_) (fun j h h' ⟨zp, ti, ⟨p, q, to⟩, i1, i2⟩ kept => ?_) (fun A j u Q E st => wpAny_pyIter_zip st.1) ?_
  · simp only [List.forall_mem_cons]
    exact ⟨.mk' e1 (fun _ z => nomatch d1.symm.trans z), .mk' e2 (fun _ z => nomatch d2.symm.trans z), .mk' ti (fun _ => nofun), .mk' to (fun _ => nofun), .mk' zp (fun _ => nofun), nofun⟩
  · simp only [List.forall_mem_cons] at kept
    obtain ⟨k0, k1, k2, k3, k4, _⟩ := kept
    exact ⟨k4 _ zp, k2 _ ti, ⟨p, q, k3 _ to⟩, i1.at k0, i2.at k1⟩
  · rintro X rfl rfl rfl calm pins u σ H inv j ⟨zp, ti, to, i1, i2⟩ which
    obtain ⟨xs, ys, sx, sy⟩ : ∃ xs ys, SqT X.K H a xs ∧ SqL X.K H b ys := which.elim (fun ⟨xs, ys, p, q, _⟩ => ⟨xs, ys, p, q⟩) fun ⟨xs, ys, p, q, _⟩ => ⟨xs, ys, p, q⟩
    have ⟨us, ru, isT, _⟩ := inv.tuple sx
    have ⟨vs, rv, isL, _⟩ := inv.list sy
    have nu := ru.length
    have nv := rv.length
    have hd := inv.ok.hd calm
    refine ⟨_, _, _, _, _, GoesN.zip2 (zip_sep2 (N := N) (fp1 := [a]) (fp2 := [b]) (by simpa using la) (by simpa using lb)) (Draws.tuple (A := X.A.in1) hd N a (Nat.ne_of_lt la) us.toArray) (Draws.list (A := X.A.in1) hd (N + 1) b (Nat.ne_of_lt (Nat.lt_succ_of_lt lb)) vs.toArray),
      ⟨zp, ti, to, ⟨i1, isT⟩, i2, isL.isList⟩, by simp, ?_, ?_, fun h' ⟨z, t, o, p, q⟩ => ⟨z, t, o, p.1, q.1⟩, ?_⟩
    · rintro ⟨xs', ys', p, q, l1, l2⟩
      rw [inv.tuple_inj p sx] at l1
      rw [inv.list_inj q sy] at l2
      show j < min us.toArray.size vs.toArray.size
      rw [List.size_toArray, List.size_toArray, ← nu, ← nv]
      exact Nat.lt_min.mpr ⟨l1, l2⟩
    · rintro ⟨xs', ys', p, q, eq⟩
      rw [inv.tuple_inj p sx, inv.list_inj q sy, nu, nv] at eq
      exact eq
    · rintro ⟨xs', ys', p, q, l1, l2⟩ v h' ⟨T, x, y, rfl, young, gx, gy, tup⟩
      rw [inv.tuple_inj p sx] at l1
      rw [inv.list_inj q sy] at l2
      have ix := List.getElem?_eq_getElem l1
      have iy := List.getElem?_eq_getElem l2
      have ⟨x', hx, rx⟩ := ru.get ix
      have ⟨y', hy, ry⟩ := rv.get iy
      have e1 : x' = x := Option.some.inj (hx.symm.trans (by simpa using gx))
      have e2 : y' = y := Option.some.inj (hy.symm.trans (by simpa using gy))
      subst e1 e2
      exact ⟨T, [x', y'], [xs[j], ys[j]], rfl, young, tup, .cons rx (.cons ry .nil), by show 2 ≤ sizeLine; decide, fun as bs p' q' => ⟨xs[j], ys[j], by rw [inv.tuple_inj p' sx]; exact ix, by rw [inv.list_inj q' sy]; exact iy, rfl⟩⟩
def iZipTL (K : PySem.W.Frag) (ta : TA) : TI := fun σ H R => ta σ H fun vs H1 => ∃ a b xs ys, vs = [.ref a, .ref b] ∧ SqT K H1 a xs ∧ SqL K H1 b ys ∧ R (ItzTL K a b) H1
theorem vals_ref2 {a b : Addr} {us : List Value} (r : Vals [V.ref a, V.ref b] us) : us = [Value.ref a, Value.ref b] := by
  rcases r with _ | ⟨r1, _ | ⟨r2, rest⟩⟩
  cases r1
  cases r2
  cases rest
  rfl
theorem pi_zipTL {X : Cx} {e e2 : Expr} {ta : TA} {p pos tpos : Pos} {elts : List Expr} {kk : Nat} (hg : Gl X "zip") (hm : X.mg "zip" = none) (ha : PA X [e, e2] ta)
    (plain : starEach [e, e2] X.env = (false, eval e X.env) :: starEach [e2] X.env := by rfl) (rest : (backTo pos (starEach [e2] X.env)).any (·.1) = false := by rfl) :
    PI X (.Tuple elts kk tpos) (.Call (.Name "zip" p) [e, e2] [] pos) (iZipTL X.K ta) where
  run := fun pins u σ H R inv need => by
    refine Call_ (ld_blt inv hg hm PyProof.Rows.boot_zip (PyProof.Rows.callWith_type1 (thn (ha.run pos pins u σ H _ inv need) ?_) plain rest))
    rintro args u1 ⟨vs, H1, inv1, rel, a, b, xs, ys, rfl, sx, sy, k⟩
    rw [vals_ref2 rel]
    have ⟨us, _, isT, _⟩ := inv1.tuple sx
    have ⟨ws, _, isL, _⟩ := inv1.list sy
    refine zip_begins2 (begins_tuple a us.toArray) (begins_list b ws.toArray) isT isL.isList fun h' zp ti to i1 i2 _ grown => wpAny_pyIter_zip zp ?_
    refine ⟨_, _, _, _, H1, rfl, inv1.kept (t' := u1.toks) grown, turn_zipTL (N := u1.heap.objs.size) isT.lt isL.lt, ⟨zp, ti, ⟨_, _, to⟩, ⟨_, i1, rfl, rfl⟩, _, i2, rfl, rfl⟩, young_ok inv1 ?_, k⟩
    simp only [List.forall_mem_cons]
    exact ⟨Nat.le_refl _, Nat.le_add_right _ _, Nat.le_add_right _ _, Nat.le_add_right _ _, Nat.le_add_right _ _, nofun⟩

/-! ### t[::-1] -/
theorem back_count (n : Nat) : Builtin.Slice.slicePlaces ((n : Int) - 1) (-1) (-1) = n := by
  show Int.toNat (if ((n : Int) - 1 > -1) then ((n : Int) - 1 - -1 - 1) / 1 + 1 else 0) = n
  rw [Int.ediv_one]
  split <;> omega
theorem pick_same {α β : Type} {f g : α → Option β} : ∀ {l : List α}, (∀ k ∈ l, f k = g k) → l.filterMap f = l.filterMap g
  | [], _ => rfl
  | x :: l, h => by rw [List.filterMap_cons, List.filterMap_cons, h x (by simp), pick_same fun k m => h k (by simp [m])]
theorem back_pick (xs : List Value) : ((List.range xs.length).filterMap fun (k : Nat) => xs.toArray[(((xs.length : Nat) : Int) - 1 + (k : Int) * (-1)).toNat]?) = xs.reverse := by
  rw [pick_same (g := fun k => xs.reverse.toArray[k]?) fun k hk => ?_]
  · simpa using PySem.W.krv_all xs.reverse.toArray
  · have lt := List.mem_range.mp hk
    have at_ : (((xs.length : Nat) : Int) - 1 + (k : Int) * (-1)).toNat = xs.length - 1 - k := by omega
    rw [at_]
    simp [List.getElem?_reverse lt]
theorem back_applied {prog : Program} {w : World} {A : Around} {E : Value → Shared → Prop} {u : Shared} {b : Addr} {t : Tok} {n : Nat} {Q : Int × Int × Nat → Shared → Prop} (isS : u.heap.IsSliceOf b .none .none (.int (-1) t)) (k : Q ((n : Int) - 1, -1, n) u) :
    wpAny (model prog w) A (Builtin.Slice.sliceApplied (.ref b) (pure (n : Int))) Q E u := by
  have ⟨ob, here, _, parts⟩ := isS
  have part : ∀ (i : Nat) (x : Value) {Q : Value → Shared → Prop}, (#[.none, .none, .int (-1) t] : Array Value)[i]? = some x → Q x u → wpAny (model prog w) A (field (.ref b) i) Q E u := fun _ _ => wpAny_field here parts
  unfold Builtin.Slice.sliceApplied
  refine wpAny_bind (wpAny_bind (part 0 _ rfl (wpAny_bind (part 1 _ rfl (wpAny_bind (part 2 _ rfl (wpAny_pure (wpAny_bind (slicePart_int ?_)))))))))
  refine wpAny_ite_false (by decide) (wpAny_bind (slicePart_none (wpAny_bind (slicePart_none (wpAny_bind (wpAny_pure ?_))))))
  show wpAny _ _ (pure ((n : Int) - 1, (-1 : Int), Builtin.Slice.slicePlaces ((n : Int) - 1) (-1) (-1))) _ _ u
  rw [back_count]
  exact wpAny_pure k
theorem tuple_back (l b : Addr) (items : List Value) (t : Tok) (small : items.length ≤ sizeLine) :
    Meets (Builtin.«tuple.__getitem__» ⟨[.ref l, .ref b], []⟩) fun _ R u => (IsTup u.heap l items.toArray ∧ u.heap.IsSliceOf b .none .none (.int (-1) t)) ∧
      R (.ok (.ret (.ref u.heap.objs.size))) { u with heap := u.heap.push { cls := .type "tuple", data := .seq items.reverse.toArray } } := by
  refine .of_wp fun prog w A R u ⟨⟨isT, isS⟩, good⟩ => ?_
  have isSl : u.TypeIs (.ref b) "slice" := isS.imp fun ob z => ⟨z.1, z.2.1⟩
  have fits : sizeOk (.seq items.reverse.toArray) := by simpa [sizeOk] using small
  refine wpAny_bind (m := Builtin.Tuple.tupleItemsOf (.ref l)) (tupleItemsOf_ isT (wpAny_bind (wpAny_typeOf isSl (wpAny_ite_true (by decide) (wpAny_bind (back_applied (n := items.length) isS ?_))))))
  refine wpAny_ite_false (decide_eq_false (by simp)) ?_
  show wpAny _ _ (Builtin.Tuple.tupleExact ((List.range items.length).filterMap fun (k : Nat) => items.toArray[(((items.length : Nat) : Int) - 1 + (k : Int) * (-1)).toNat]?).toArray >>= _) _ _ u
  rw [back_pick]
  exact wpAny_bind (m := Builtin.Tuple.tupleExact _) (wpAny_newObj_type (wpAny_pure ⟨_, rfl, good⟩) fits)
def tRevT (K : PySem.W.Frag) (te : TE) : TE := fun σ H Q => te σ H fun x H1 => ∃ a xs, x = .ref a ∧ SqT K H1 a xs ∧ ∀ p, H1 p = none → Q (.ref p) (upd H1 p (.tup xs.reverse))
theorem pe_revT {X : Cx} {e : Expr} {te : TE} {k : Nat} {p1 p2 p3 pos : Pos} (he : PE X e te) : PE X (.Subscript e (.Slice none none (some (.UnaryOp .USub (.Constant (.int 1) k p1) p2)) p3) pos) (tRevT X.K te) where
  run := fun pins u σ H Q inv need => by
    refine Subscript_ (thn (he.run pins u σ H _ inv need) ?_)
    rintro v u1 ⟨x, H1, inv1, rel, a, xs, rfl, seq, done⟩
    cases rel
    refine wpAny_Slice (wpAny_pure (wpAny_pure (thn ((pe_un un_neg pe_int).run pins u1 σ H1 (fun y H2 => y = .int (-1) ∧ H2 = H1) inv1 ⟨1, rfl, rfl, rfl⟩) ?_)))
    rintro z u2 ⟨y, H2, inv2, rz, rfl, rfl⟩
    have ⟨t, ez⟩ := rz
    subst ez
    have made := Heap.IsSliceOf.new u2.heap .none .none (.int (-1) t)
    have inv3 := inv2.kept (t' := u2.toks) (h' := u2.heap.push { cls := .type "slice", data := .fields #[.none, .none, .int (-1) t] }) fun c ob => Heap.get?_push_of_some _
    have ⟨its, are, isT, small⟩ := inv3.tuple seq
    have len := are.length
    refine tail_any (ops := [.ref a, .ref u2.heap.objs.size]) isT.typeIs PyProof.Rows.slot_tuple_getitem.lookup (getItem_meets isT.typeIs (by decide) PyProof.Rows.slot_tuple_getitem entry_tuple_getitem (args_tuple_getitem _ _) (tuple_back a u2.heap.objs.size its t (len ▸ small)) ⟨⟨isT, made⟩, ?_⟩) (by with_unfolding_all rfl)
    exact ⟨.ref _, _, inv3.laid (t' := u2.toks) (o := .tup xs.reverse) (fun c ob => Heap.get?_push_of_some _) (Nat.le_refl _) ⟨by rw [List.length_reverse]; exact small, _, are.reverse, IsTup.new _ _⟩, rfl, done _ (inv3.hok.fresh (Nat.le_refl _))⟩

/-! ### t * 1 -/
theorem tuple_once (l : Addr) (items : Array Value) (n : Nat) (dd : Option Addr) (sl : Array (Option Value)) (t : Tok) :
    Meets (Builtin.«tuple.__mul__» ⟨[.ref l, .int 1 t], []⟩) fun _ R u => u.heap.get? l = some { cls := .type "tuple", dict := dd, data := .seq items n, slots := sl } ∧ R (.ok (.ret (Value.ref l))) u := by
  refine .of_wp fun prog w A R ⟨hp, gens, dr, toks, os⟩ ⟨at_, good⟩ => ?_
  have asIs := AutoSeq1.idx_int
  have fits : ¬ ((decide ((1 : Int) < -(2 ^ 63)) || decide ((1 : Int) ≥ 2 ^ 63)) = true) := by decide
  have once : (items.isEmpty || (1 : Int) == 1) = true := Bool.or_true _
  wp_walk using AutoSeq1.wpAny_loadPart' at_
  exact ⟨_, rfl, good⟩
def rRepT1 (K : PySem.W.Frag) : R2 := fun x y H k => ∃ l xs, x = .ref l ∧ y = .int 1 ∧ SqT K H l xs ∧ k (.ref l) H
theorem op_repT1 {X : Cx} : OpR X (binaryOp .Mult) (rRepT1 X.K) := by
  rintro pins ⟨hp, gens, dr, toks, os⟩ σ H x y v z Q inv rx ry ⟨l, xs, rfl, rfl, seq, k⟩
  cases rx
  have ⟨t, ez⟩ := ry
  subst ez
  have ⟨its, _, ⟨⟨cls, dd, data, sl⟩, at_, isT, n, has⟩, _⟩ := inv.tuple seq
  cases isT
  cases has
  refine wpAny_binaryOp_repeat_ref (T := "tuple") (U := "int") (by decide) ⟨_, at_, rfl⟩ (fun u => typeIs_int u 1 t) noFill_tuple_mul F.fills_int_mul F.slot_int_rmul repeat_tuple F.slot_int_index.lookup ?_
  refine call_meets F.slot_int_rmul (typeIs_int _ 1 t) F.entry_int_rmul (F.args_int_rmul_2 _ _) (int_rmul_tuple 1 t l its.toArray n dd sl) ⟨at_, rfl, ⟨_, at_, rfl⟩, ?_⟩
  exact call_meets F.slot_tuple_mul ⟨_, at_, rfl⟩ F.entry_tuple_mul (F.args_tuple_mul_2 _ _) (tuple_once l its.toArray n dd sl t) ⟨at_, .ref l, H, inv, rfl, k⟩
end DR
/-! Short words over Evl: comprehensions of ints, promises' shapes. -/
namespace DE
open PySem PySem.Spec PyProof.Rows L2 Evl DR

abbrev iv (ns : List Int) : List V := ns.map V.int
theorem iv_get {ns : List Int} {i : Nat} {x : V} (h : (iv ns)[i]? = some x) : ∃ n, ns[i]? = some n ∧ x = .int n := by
  rw [List.getElem?_map] at h
  cases e : ns[i]? with
  | none => (rw [e] at h; exact nomatch h)
  | some n => rw [e] at h; cases h; exact ⟨n, rfl, rfl⟩
theorem iv_of {ns : List Int} {i : Nat} {n : Int} (h : ns[i]? = some n) : (iv ns)[i]? = some (.int n) := by
  rw [List.getElem?_map, h]
  rfl
theorem given_map (ns : List Int) (p : Int → Bool) (g : Int → Int) : ∀ i, i ≤ ns.length → given i (fun i => p (ns.getD i 0)) (fun i => .int (g (ns.getD i 0))) = iv (((ns.take i).filter p).map g)
  | 0, _ => by simp [given, iv]
  | i + 1, h => by
    have ih := given_map ns p g i (by omega)
    have hlt : i < ns.length := h
    have e : ns.take (i + 1) = ns.take i ++ [ns.getD i 0] := by
      rw [List.take_add_one, List.getElem?_eq_getElem hlt, List.getD_eq_getElem?_getD, List.getElem?_eq_getElem hlt]
      rfl
    rw [e, List.filter_append, List.map_append]
    cases hp : p (ns.getD i 0) with
    | true =>
      have f1 : [ns.getD i 0].filter p = [ns.getD i 0] := by rw [List.filter_cons, if_pos hp]; rfl
      rw [given_yes (f := fun i => p (ns.getD i 0)) hp, ih, f1]
      unfold iv
      rw [List.map_append]
      rfl
    | false =>
      have f1 : [ns.getD i 0].filter p = [] := by rw [List.filter_cons, if_neg (by rw [hp]; decide)]; rfl
      rw [given_no (f := fun i => p (ns.getD i 0)) hp, ih, f1, List.map_nil, List.append_nil]
theorem given_all (ns : List Int) (p : Int → Bool) (g : Int → Int) : given ns.length (fun i => p (ns.getD i 0)) (fun i => .int (g (ns.getD i 0))) = iv ((ns.filter p).map g) := by
  rw [given_map ns p g _ (Nat.le_refl _), List.take_length]

section
variable {K : PySem.W.Frag} {σ : L2.St} {H H' : Hp} {ta tb te tl : TE} {t : TT} {z v : V} {ns : List Int} {j : Nat} {vs : List Nat} {a b : Addr}
/-- [e for x in xs if p], xs a list of ints -/
theorem el_mapL (p : Int → Bool) (g : Int → Int) (h : Ev tl σ H (.ref a)) (hx : SqL K H a (iv ns)) (hz : ns.length ≤ 40000) (hw : ∀ x, wipe ((wipe σ vs).set j (some x)) vs = wipe σ vs)
    (ht : ∀ n ∈ ns, ∀ H1, Ex H H1 → EvT t ((wipe σ vs).set j (some (.int n))) H1 (p n)) (he : ∀ n ∈ ns, ∀ H1, Ex H H1 → p n = true → Ev te ((wipe σ vs).set j (some (.int n))) H1 (.int (g n))) :
    EvL (tLc (iList K tl) (gName j) t te vs) σ H (iv ((ns.filter p).map g)) := by
  have q := el_lcL (t := t) (te := te) (j := j) (vs := vs) (fun i => p (ns.getD i 0)) (fun i => .int (g (ns.getD i 0))) h hx (by simpa using hz) hw (fun i x H1 e hi => ?_) (fun i x H1 e hi hp => ?_)
  · rw [List.length_map, given_all] at q
    exact q
  · obtain ⟨n, hn, rfl⟩ := iv_get hi
    have e2 : ns.getD i 0 = n := by rw [List.getD_eq_getElem?_getD, hn]; rfl
    show EvT t _ H1 (p (ns.getD i 0))
    rw [e2]
    exact ht n (List.mem_of_getElem? hn) H1 e
  · obtain ⟨n, hn, rfl⟩ := iv_get hi
    have e2 : ns.getD i 0 = n := by rw [List.getD_eq_getElem?_getD, hn]; rfl
    show Ev te _ H1 (.int (g (ns.getD i 0)))
    have hp' : p (ns.getD i 0) = true := hp
    rw [e2] at hp' ⊢
    exact he n (List.mem_of_getElem? hn) H1 e hp'
/-- .. over a new list -/
theorem el_mapN (p : Int → Bool) (g : Int → Int) (h : EvL tl σ H (iv ns)) (hz : ns.length ≤ 40000) (hw : ∀ x, wipe ((wipe σ vs).set j (some x)) vs = wipe σ vs)
    (ht : ∀ n ∈ ns, ∀ H1, Ex H H1 → EvT t ((wipe σ vs).set j (some (.int n))) H1 (p n)) (he : ∀ n ∈ ns, ∀ H1, Ex H H1 → p n = true → Ev te ((wipe σ vs).set j (some (.int n))) H1 (.int (g n))) :
    EvL (tLc (iList K tl) (gName j) t te vs) σ H (iv ((ns.filter p).map g)) := by
  have q := el_lcNL (K := K) (t := t) (te := te) (j := j) (vs := vs) (fun i => p (ns.getD i 0)) (fun i => .int (g (ns.getD i 0))) h (by simpa using hz) hw (fun i x H1 e hi => ?_) (fun i x H1 e hi hp => ?_)
  · rw [List.length_map, given_all] at q
    exact q
  · obtain ⟨n, hn, rfl⟩ := iv_get hi
    have e2 : ns.getD i 0 = n := by rw [List.getD_eq_getElem?_getD, hn]; rfl
    show EvT t _ H1 (p (ns.getD i 0))
    rw [e2]
    exact ht n (List.mem_of_getElem? hn) H1 e
  · obtain ⟨n, hn, rfl⟩ := iv_get hi
    have e2 : ns.getD i 0 = n := by rw [List.getD_eq_getElem?_getD, hn]; rfl
    show Ev te _ H1 (.int (g (ns.getD i 0)))
    have hp' : p (ns.getD i 0) = true := hp
    rw [e2] at hp' ⊢
    exact he n (List.mem_of_getElem? hn) H1 e hp'
theorem et_yes : EvT tYes σ H true := fun H1 _ _ q => q H1 (Ex.refl H1)
/-- a walk of n turns: Pv holds ahead of each turn -/
theorem walk_n {J : It} {n : Nat} {H0 : Hp} {Qd : Hp → Prop} {body : V → Hp → (Hp → Prop) → Prop} (Pv : Nat → Hp → Prop) (h0 : Pv 0 H0)
    (more : ∀ i H', i < n → Pv i H' → J.go i H' ∧ ∀ v H'', J.yld i H' v H'' → body v H'' (Pv (i + 1))) (fin : ∀ H', Pv n H' → J.stop n H' ∧ Qd H') :
    ∃ W : Nat → Nat → Hp → Prop, (∃ m, W 0 m H0) ∧ ∀ i m H', W i m H' → (J.stop i H' ∧ Qd H') ∨ (J.go i H' ∧ ∃ Nx : Hp → Prop, (∀ H'', Nx H'' → ∃ m', m' < m ∧ W (i + 1) m' H'') ∧ ∀ v H'', J.yld i H' v H'' → body v H'' Nx) := by
  refine ⟨fun i m H' => m + i = n ∧ Pv i H', ⟨n, rfl, h0⟩, ?_⟩
  rintro i (_ | m) H' ⟨left, here⟩
  · rw [Nat.zero_add] at left
    subst left
    exact .inl (fin H' here)
  · have ⟨goes, yields⟩ := more i H' (by omega) here
    exact .inr ⟨goes, Pv (i + 1), fun H'' next => ⟨m, Nat.lt_succ_self m, by omega, next⟩, yields⟩
theorem at_getD {ns : List Int} {i : Nat} (lt : i < ns.length) : ns[i]? = some (ns.getD i 0) := by simp [List.getD_eq_getElem?_getD, lt]
/-- .. over a tuple -/
theorem el_mapT (p : Int → Bool) (g : Int → Int) (h : Ev tl σ H (.ref a)) (hx : SqT K H a (iv ns)) (hz : ns.length ≤ 40000) (hw : ∀ x, wipe ((wipe σ vs).set j (some x)) vs = wipe σ vs)
    (ht : ∀ n ∈ ns, ∀ H1, Ex H H1 → EvT t ((wipe σ vs).set j (some (.int n))) H1 (p n)) (he : ∀ n ∈ ns, ∀ H1, Ex H H1 → p n = true → Ev te ((wipe σ vs).set j (some (.int n))) H1 (.int (g n))) :
    EvL (tLc (iTup K tl) (gName j) t te vs) σ H (iv ((ns.filter p).map g)) := by
  intro H0 e Q q
  refine h H0 e _ fun H1 e1 => ⟨a, rfl, ⟨iv ns, ex_t (e.trans e1) hx⟩, fun Dl new => ?_⟩
  have far := e.trans e1
  refine walk_n (n := ns.length) (Cw H1 (fun i => p (ns.getD i 0)) (fun i => .int (g (ns.getD i 0))) Dl) ⟨new, Ex.new new, upd_same⟩ (fun i H' lt st => ?_) fun H' st => ⟨⟨iv ns, ex_t (far.trans st.2.1) hx, by simp⟩, ?_⟩
  · have still := ex_t (far.trans st.2.1) hx
    have mem := List.mem_of_getElem? (at_getD lt)
    refine ⟨⟨iv ns, _, still, iv_of (at_getD lt)⟩, ?_⟩
    rintro v _ ⟨rfl, got⟩
    have val := Option.some.inj ((got _ still).symm.trans (iv_of (at_getD lt)))
    subst val
    exact ⟨hw _, cw_turn st (by omega) (ht _ mem H1 far) (he _ mem H1 far)⟩
  · exact q Dl H' (fresh_back e1 st.1) (e1.trans st.2.1) (given_all ns p g ▸ st.2.2)
theorem filter_all (ns : List Int) : ns.filter (fun _ => true) = ns := List.filter_eq_self.mpr fun _ _ => rfl
/-- [e for x in xs] -/
theorem el_mpL (g : Int → Int) (h : Ev tl σ H (.ref a)) (hx : SqL K H a (iv ns)) (hz : ns.length ≤ 40000) (hw : ∀ x, wipe ((wipe σ vs).set j (some x)) vs = wipe σ vs)
    (he : ∀ n ∈ ns, ∀ H1, Ex H H1 → Ev te ((wipe σ vs).set j (some (.int n))) H1 (.int (g n))) : EvL (tLc (iList K tl) (gName j) tYes te vs) σ H (iv (ns.map g)) := by
  have q := el_mapL (t := tYes) (te := te) (j := j) (vs := vs) (fun _ => true) g h hx hz hw (fun _ _ _ _ => et_yes) (fun n hn H1 e _ => he n hn H1 e)
  rw [filter_all] at q
  exact q
theorem el_mpT (g : Int → Int) (h : Ev tl σ H (.ref a)) (hx : SqT K H a (iv ns)) (hz : ns.length ≤ 40000) (hw : ∀ x, wipe ((wipe σ vs).set j (some x)) vs = wipe σ vs)
    (he : ∀ n ∈ ns, ∀ H1, Ex H H1 → Ev te ((wipe σ vs).set j (some (.int n))) H1 (.int (g n))) : EvL (tLc (iTup K tl) (gName j) tYes te vs) σ H (iv (ns.map g)) := by
  have q := el_mapT (t := tYes) (te := te) (j := j) (vs := vs) (fun _ => true) g h hx hz hw (fun _ _ _ _ => et_yes) (fun n hn H1 e _ => he n hn H1 e)
  rw [filter_all] at q
  exact q
/-- [x for x in xs if p] -/
theorem el_flL (p : Int → Bool) (h : Ev tl σ H (.ref a)) (hx : SqL K H a (iv ns)) (hz : ns.length ≤ 40000) (hw : ∀ x, wipe ((wipe σ vs).set j (some x)) vs = wipe σ vs)
    (ht : ∀ n ∈ ns, ∀ H1, Ex H H1 → EvT t ((wipe σ vs).set j (some (.int n))) H1 (p n)) (hj : ∀ x : V, ((wipe σ vs).set j (some x))[j]? = some (some x)) : EvL (tLc (iList K tl) (gName j) t (tVar j) vs) σ H (iv (ns.filter p)) := by
  have q := el_mapL (t := t) (te := tVar j) (j := j) (vs := vs) p (fun n => n) h hx hz hw ht (fun n _ H1 _ _ => ev_var (hj _))
  rw [List.map_id'] at q
  exact q
theorem el_flT (p : Int → Bool) (h : Ev tl σ H (.ref a)) (hx : SqT K H a (iv ns)) (hz : ns.length ≤ 40000) (hw : ∀ x, wipe ((wipe σ vs).set j (some x)) vs = wipe σ vs)
    (ht : ∀ n ∈ ns, ∀ H1, Ex H H1 → EvT t ((wipe σ vs).set j (some (.int n))) H1 (p n)) (hj : ∀ x : V, ((wipe σ vs).set j (some x))[j]? = some (some x)) : EvL (tLc (iTup K tl) (gName j) t (tVar j) vs) σ H (iv (ns.filter p)) := by
  have q := el_mapT (t := t) (te := tVar j) (j := j) (vs := vs) p (fun n => n) h hx hz hw ht (fun n _ H1 _ _ => ev_var (hj _))
  rw [List.map_id'] at q
  exact q

/-! ### zip -/
theorem given_zip {xs ys : List Int} (g : Int → Int → Int) (hl : xs.length = ys.length) : given xs.length (fun _ => true) (fun i => .int (g (xs.getD i 0) (ys.getD i 0))) = iv (List.zipWith g xs ys) := by
  unfold given iv
  rw [List.filter_eq_self.mpr fun _ _ => rfl]
  refine List.ext_getElem (by simp [hl]) fun i h1 h2 => ?_
  have lx : i < xs.length := by simpa using h1
  simp [List.getD_eq_getElem?_getD, lx, hl ▸ lx]
variable {j1 j2 : Nat}
/-- one turn of [e for x, y in zip(..)]: the pair is new, e joins the list at Dl -/
theorem pair_turn {H H' : Hp} {xs ys : List Int} {g : Int → Int → Int} {Dl T : Addr} {i : Nat} {σ1 : L2.St} (st : Cw H (fun _ => true) (fun i => .int (g (xs.getD i 0) (ys.getD i 0))) Dl i H') (small : i < 50000) (free : H' T = none)
    (hw : wipe ((σ1.set j1 (some (.int (xs.getD i 0)))).set j2 (some (.int (ys.getD i 0)))) vs = σ1) (he : Ev te ((σ1.set j1 (some (.int (xs.getD i 0)))).set j2 (some (.int (ys.getD i 0)))) H (.int (g (xs.getD i 0) (ys.getD i 0)))) :
    gTup K 2 (gCons (gName j1) (gCons (gName j2) gNil)) (.ref T) σ1 (upd H' T (.tup [.int (xs.getD i 0), .int (ys.getD i 0)])) fun σ2 H2 => wipe σ2 vs = σ1 ∧ tYes σ2 H2 fun b H3 =>
      if b = true then te σ2 H3 fun y H4 => ∃ acc, H4 Dl = some (.lst acc) ∧ acc.length < sizeLine ∧ Cw H (fun _ => true) (fun i => .int (g (xs.getD i 0) (ys.getD i 0))) Dl (i + 1) (upd H4 Dl (.lst (acc ++ [y]))) else Cw H (fun _ => true) (fun i => .int (g (xs.getD i 0) (ys.getD i 0))) Dl (i + 1) H3 :=
  ⟨T, [.int (xs.getD i 0), .int (ys.getD i 0)], rfl, .inl (.inl upd_same), rfl, _, [.int (ys.getD i 0)], rfl, _, [], rfl, rfl, hw, cw_turn (t := tYes) ⟨st.1, st.2.1.trans (Ex.new free), Ex.new free Dl _ st.2.2⟩ small et_yes fun _ => he⟩
/-- [e for x, y in zip(t, xs)], t a tuple of ints, xs a new list of ints of the same length -/
theorem el_zipTL {xs ys : List Int} (g : Int → Int → Int) (ha : Ev ta σ H (.ref a)) (hxa : SqT K H a (iv xs)) (hb : EvL tb σ H (iv ys)) (hl : xs.length = ys.length) (hz : xs.length ≤ 40000)
    (hw : ∀ x y, wipe (((wipe σ vs).set j1 (some x)).set j2 (some y)) vs = wipe σ vs)
    (he : ∀ (i : Nat) x y H1, Ex H H1 → xs[i]? = some x → ys[i]? = some y → Ev te (((wipe σ vs).set j1 (some (.int x))).set j2 (some (.int y))) H1 (.int (g x y))) :
    EvL (tLc (iZipTL K (tCons ta (tCons tb tNil))) (gTup K 2 (gCons (gName j1) (gCons (gName j2) gNil))) tYes te vs) σ H (iv (List.zipWith g xs ys)) := by
  intro H0 e Q q
  refine ha H0 e _ fun H1 e1 => hb H1 (e.trans e1) _ fun b H2 _ e2 isb => ?_
  have far := (e.trans e1).trans e2
  refine ⟨a, b, iv xs, iv ys, rfl, ex_t far hxa, sq_of isb, fun Dl new => ?_⟩
  refine walk_n (n := xs.length) (Cw H2 (fun _ => true) (fun i => .int (g (xs.getD i 0) (ys.getD i 0))) Dl) ⟨new, Ex.new new, upd_same⟩ (fun i H' lt st => ?_) fun H' st => ⟨⟨iv xs, iv ys, ex_t (far.trans st.2.1) hxa, ex_l st.2.1 (sq_of isb), by simp [hl]⟩, ?_⟩
  · have sx := ex_t (far.trans st.2.1) hxa
    have sy : SqL K H' b (iv ys) := ex_l st.2.1 (sq_of isb)
    have ax := at_getD lt
    have ay := at_getD (hl ▸ lt)
    refine ⟨⟨iv xs, iv ys, sx, sy, by simpa using lt, by simpa using hl ▸ lt⟩, ?_⟩
    rintro v _ ⟨T, r, rfl, free, rfl, items⟩
    obtain ⟨x, y, gx, gy, rfl⟩ := items _ _ sx sy
    have vx := Option.some.inj (gx.symm.trans (iv_of ax))
    have vy := Option.some.inj (gy.symm.trans (iv_of ay))
    subst vx vy
    exact pair_turn st (by omega) free (hw _ _) (he i _ _ H2 far ax ay)
  · exact q Dl H' (fresh_back (e1.trans e2) st.1) ((e1.trans e2).trans st.2.1) (given_zip g hl ▸ st.2.2)
/-- .. of two tuples -/
theorem el_zipTT {xs ys : List Int} (g : Int → Int → Int) (ha : Ev ta σ H (.ref a)) (hxa : SqT K H a (iv xs)) (hb : Ev tb σ H (.ref b)) (hxb : SqT K H b (iv ys)) (hl : xs.length = ys.length) (hz : xs.length ≤ 40000)
    (hw : ∀ x y, wipe (((wipe σ vs).set j1 (some x)).set j2 (some y)) vs = wipe σ vs)
    (he : ∀ (i : Nat) x y H1, Ex H H1 → xs[i]? = some x → ys[i]? = some y → Ev te (((wipe σ vs).set j1 (some (.int x))).set j2 (some (.int y))) H1 (.int (g x y))) :
    EvL (tLc (RZ.iZipA K (tCons ta (tCons tb tNil))) (gTup K 2 (gCons (gName j1) (gCons (gName j2) gNil))) tYes te vs) σ H (iv (List.zipWith g xs ys)) := by
  intro H0 e Q q
  refine ha H0 e _ fun H1 e1 => hb H1 (e.trans e1) _ fun H2 e2 => ?_
  have far := (e.trans e1).trans e2
  refine ⟨a, b, iv xs, iv ys, rfl, .inr ⟨ex_t far hxa, ex_t far hxb, fun Dl new => ?_⟩⟩
  refine walk_n (n := xs.length) (Cw H2 (fun _ => true) (fun i => .int (g (xs.getD i 0) (ys.getD i 0))) Dl) ⟨new, Ex.new new, upd_same⟩ (fun i H' lt st => ?_) fun H' st => ⟨⟨iv xs, iv ys, ex_t (far.trans st.2.1) hxa, ex_t (far.trans st.2.1) hxb, .inl (by simp)⟩, ?_⟩
  · have sx := ex_t (far.trans st.2.1) hxa
    have sy := ex_t (far.trans st.2.1) hxb
    have ax := at_getD lt
    have ay := at_getD (hl ▸ lt)
    refine ⟨⟨iv xs, iv ys, _, _, sx, sy, iv_of ax, iv_of ay⟩, ?_⟩
    rintro v _ ⟨T, x, y, rfl, free, rfl, gx, gy⟩
    have vx := Option.some.inj ((gx _ sx).symm.trans (iv_of ax))
    have vy := Option.some.inj ((gy _ sy).symm.trans (iv_of ay))
    subst vx vy
    exact pair_turn st (by omega) free (hw _ _) (he i _ _ H2 far ax ay)
  · exact q Dl H' (fresh_back (e1.trans e2) st.1) ((e1.trans e2).trans st.2.1) (given_zip g hl ▸ st.2.2)

/-! ### built-in calls -/
def rTupOf (K : PySem.W.Frag) : List V → Hp → VK → Prop := fun xs H Q => ∃ p ys, xs = [.ref p] ∧ ((SqL K H p ys ∧ ∀ l, H l = none → Q (.ref l) (upd H l (.tup ys))) ∨ (SqT K H p ys ∧ Q (.ref p) H))
theorem call_tupOf {X : Cx} : CallR X (.type "tuple") (rTupOf X.K) := call_tuple_of
theorem call_lenS {X : Cx} : CallR X (.builtin "len") (rLenS X.K) := call_len_seq
theorem call_listS {X : Cx} : CallR X (.type "list") (rListS X.K) := call_list_of
/-- tuple(a new list) -/
theorem eu_tupN {xs : List V} (h : EvL te σ H xs) : EvU (tCB (rTupOf K) (tCons te tNil)) σ H xs := fun H1 e Q q =>
  h H1 e _ fun p H2 _ e2 h2 => ⟨p, xs, rfl, .inl ⟨sq_of h2, fun l hl => q l _ (fresh_back e2 hl) (e2.trans (Ex.new hl)) upd_same⟩⟩
/-- tuple(a known list) -/
theorem eu_tupL {xs : List V} (h : Ev te σ H (.ref a)) (hx : SqL K H a xs) : EvU (tCB (rTupOf K) (tCons te tNil)) σ H xs := fun H1 e Q q =>
  h H1 e _ fun H2 e2 => ⟨a, xs, rfl, .inl ⟨ex_l (e.trans e2) hx, fun l hl => q l _ (fresh_back e2 hl) (e2.trans (Ex.new hl)) upd_same⟩⟩
theorem ev_lenT {xs : List V} (ha : Ev ta σ H (.ref a)) (h : SqT K H a xs) : Ev (tCB (rLenS K) (tCons ta tNil)) σ H (.int (xs.length : Int)) := fun H1 e Q q =>
  ha H1 e _ fun H2 e2 => ⟨a, xs, rfl, Or.inr (ex_t (e.trans e2) h), q H2 e2⟩
theorem el_listT {xs : List V} (ha : Ev ta σ H (.ref a)) (h : SqT K H a xs) : EvL (tCB (rListS K) (tCons ta tNil)) σ H xs := fun H1 e Q q =>
  ha H1 e _ fun H2 e2 => ⟨a, xs, rfl, Or.inr (ex_t (e.trans e2) h), fun l hl => q l _ (fresh_back e2 hl) (e2.trans (Ex.new hl)) upd_same⟩
theorem ev_sumT (ha : Ev ta σ H (.ref a)) (h : SqT K H a (iv ns)) : Ev (tCB (rSumT K) (tCons ta tNil)) σ H (.int ns.sum) := fun H1 e Q q =>
  ha H1 e _ fun H2 e2 => ⟨a, ns, rfl, ex_t (e.trans e2) h, q H2 e2⟩
theorem ev_sumL (ha : Ev ta σ H (.ref a)) (h : SqL K H a (iv ns)) : Ev (tCB (rSum K) (tCons ta tNil)) σ H (.int ns.sum) := fun H1 e Q q =>
  ha H1 e _ fun H2 e2 => ⟨a, ns, rfl, ex_l (e.trans e2) h, q H2 e2⟩
theorem rv_ints {f : Int → Int → V} {i k : Int} : RV (rI0 f) (.int i) (.int k) H (f i k) := rv_I0

/-! ### == of lists and tuples of ints -/
theorem dpAll_iv : ∀ ns : List Int, DpAll K H (iv ns) (ns.map PyData.int)
  | [] => .nil
  | n :: ns => .cons (.int n) (dpAll_iv ns)
theorem eqv_ints (xs ys : List Int) : PyData.eqvAll (xs.map PyData.int) (ys.map PyData.int) = decide (xs = ys) := by
  induction xs generalizing ys with
  | nil => cases ys <;> simp [PyData.eqvAll]
  | cons x xs more =>
    cases ys with
    | nil => simp [PyData.eqvAll]
    | cons y ys =>
      have heads : PyData.eqv (.int x) (.int y) = decide (x = y) := by (simp only [PyData.eqv]; by_cases same : x = y <;> simp [same])
      show (PyData.eqv (.int x) (.int y) && PyData.eqvAll (xs.map PyData.int) (ys.map PyData.int)) = decide (x :: xs = y :: ys)
      rw [heads, more ys, ← Bool.decide_and]
      exact decide_eq_decide.mpr (by simp)
theorem ints_shaped : ∀ xs : List Int, PyData.canLayAll0 (xs.map PyData.int) = true ∧ PyData.depthAll (xs.map PyData.int) = 0
  | [] => ⟨rfl, rfl⟩
  | x :: xs => by
    have ih := ints_shaped xs
    refine ⟨?_, ?_⟩
    · show (PyData.canLay0 (.int x) && PyData.canLayAll0 (xs.map PyData.int)) = true
      rw [ih.1]
      rfl
    · show max (PyData.depth (.int x)) (PyData.depthAll (xs.map PyData.int)) = 0
      rw [ih.2]
      rfl
theorem lst_shaped (xs : List Int) : SeqAt.shaped (.list (xs.map PyData.int)) = true := by
  have h := ints_shaped xs
  unfold SeqAt.shaped
  rw [show PyData.canLay0 (.list (xs.map PyData.int)) = PyData.canLayAll0 (xs.map PyData.int) from rfl, h.1, show PyData.depth (.list (xs.map PyData.int)) = PyData.depthAll (xs.map PyData.int) + 1 from rfl, h.2]
  rfl
theorem tup_shaped (xs : List Int) : SeqAt.shaped (.tuple (xs.map PyData.int)) = true := by
  have h := ints_shaped xs
  unfold SeqAt.shaped
  rw [show PyData.canLay0 (.tuple (xs.map PyData.int)) = PyData.canLayAll0 (xs.map PyData.int) from rfl, h.1, show PyData.depth (.tuple (xs.map PyData.int)) = PyData.depthAll (xs.map PyData.int) + 1 from rfl, h.2]
  rfl
theorem eqv_lst (xs ys : List Int) : PyData.eqv (.list (xs.map PyData.int)) (.list (ys.map PyData.int)) = decide (xs = ys) := by
  rw [← eqv_ints]
  simp [PyData.eqv]
theorem eqv_tup (xs ys : List Int) : PyData.eqv (.tuple (xs.map PyData.int)) (.tuple (ys.map PyData.int)) = decide (xs = ys) := by
  rw [← eqv_ints]
  simp [PyData.eqv]
theorem dp_lst (h : SqL K H a (iv ns)) : Dp K H (.ref a) (.list (ns.map PyData.int)) := .lst h (dpAll_iv ns)
theorem dp_tup (h : SqT K H a (iv ns)) : Dp K H (.ref a) (.tuple (ns.map PyData.int)) := .tup h (dpAll_iv ns)
/-- xs == ys | xs != ys, of lists and tuples of ints that stand -/
theorem rv_eqL {ms : List Int} (h1 : SqL K H a (iv ns)) (h2 : SqL K H b (iv ms)) : RV (rEqD K) (.ref a) (.ref b) H (.bl (decide (ns = ms))) := fun H1 e Q q =>
  ⟨_, _, dp_lst (ex_l e h1), dp_lst (ex_l e h2), lst_shaped _, lst_shaped _, by rw [eqv_lst]; exact q H1 (Ex.refl H1)⟩
theorem rv_neL {ms : List Int} (h1 : SqL K H a (iv ns)) (h2 : SqL K H b (iv ms)) : RV (rNeD K) (.ref a) (.ref b) H (.bl (!decide (ns = ms))) := fun H1 e Q q =>
  ⟨_, _, dp_lst (ex_l e h1), dp_lst (ex_l e h2), lst_shaped _, lst_shaped _, by rw [eqv_lst]; exact q H1 (Ex.refl H1)⟩
theorem rv_eqT {ms : List Int} (h1 : SqT K H a (iv ns)) (h2 : SqT K H b (iv ms)) : RV (rEqD K) (.ref a) (.ref b) H (.bl (decide (ns = ms))) := fun H1 e Q q =>
  ⟨_, _, dp_tup (ex_t e h1), dp_tup (ex_t e h2), tup_shaped _, tup_shaped _, by rw [eqv_tup]; exact q H1 (Ex.refl H1)⟩
theorem rv_neT {ms : List Int} (h1 : SqT K H a (iv ns)) (h2 : SqT K H b (iv ms)) : RV (rNeD K) (.ref a) (.ref b) H (.bl (!decide (ns = ms))) := fun H1 e Q q =>
  ⟨_, _, dp_tup (ex_t e h1), dp_tup (ex_t e h2), tup_shaped _, tup_shaped _, by rw [eqv_tup]; exact q H1 (Ex.refl H1)⟩
/-- [..] == [], [..] != [] : a new list of ints against a new empty one -/
theorem el_nil : EvL (tLst tNil) σ H (iv []) := el_lst ea_nil (by decide)
theorem et_eqNil (h : EvL te σ H (iv ns)) : EvT (tTest (tOp (rEqD K) te (tLst tNil))) σ H (decide (ns = [])) :=
  et_test (ev_opLL h el_nil fun p q H1 h1 h2 _ => rv_eqL (sq_of h1) (sq_of h2))
theorem et_neNil (h : EvL te σ H (iv ns)) : EvT (tTest (tOp (rNeD K) te (tLst tNil))) σ H (!decide (ns = [])) :=
  et_test (ev_opLL h el_nil fun p q H1 h1 h2 _ => rv_neL (sq_of h1) (sq_of h2))
theorem ev_eqNil (h : EvL te σ H (iv ns)) : Ev (tOp (rEqD K) te (tLst tNil)) σ H (.bl (decide (ns = []))) := ev_opLL h el_nil fun p q H1 h1 h2 _ => rv_eqL (sq_of h1) (sq_of h2)

/-! ### chains, constants -/
theorem ev_chain {r r' : R2} {tc : TE} {x y u : V} {b1 : Bool} (ha : Ev ta σ H x) (hb : Ev tb σ H y) (hr : RV r x y H (.bl b1)) (hc : b1 = true → Ev tc σ H u) (hr' : b1 = true → RV r' y u H z) (hf : b1 = false → z = .bl false) : Ev (tChain r r' ta tb tc) σ H z := fun H1 e Q q =>
  ha H1 e _ fun H2 e2 => hb H2 (e.trans e2) _ fun H3 e3 => hr H3 ((e.trans e2).trans e3) _ fun H4 e4 => ⟨b1, rfl, by
    cases b1 with
    | true =>
      show tc σ H4 _
      exact hc rfl H4 (((e.trans e2).trans e3).trans e4) _ fun H5 e5 => hr' rfl H5 ((((e.trans e2).trans e3).trans e4).trans e5) _ fun H6 e6 => q H6 ((((e2.trans e3).trans e4).trans e5).trans e6)
    | false =>
      show Q (.bl false) H4
      rw [← hf rfl]
      exact q H4 ((e2.trans e3).trans e4)⟩

/-! ### promises -/
/-- a new tuple | a tuple or None -/
def RetU (xs : List V) (H : Hp) (Q : VK) : Prop := ∀ p H2, H p = none → Ex H H2 → H2 p = some (.tup xs) → Q (.ref p) H2
def RetO (o : Option (List Int)) (H : Hp) (Q : VK) : Prop := (o = none → RetV .non H Q) ∧ ∀ w, o = some w → RetU (iv w) H Q
theorem RetU.go {xs : List V} {Q : VK} (k : RetU xs H Q) (e : Ex H H') {p : Addr} {H2 : Hp} (hp : H' p = none) (e2 : Ex H' H2) (h : H2 p = some (.tup xs)) : Q (.ref p) H2 := k p H2 (fresh_back e hp) (e.trans e2) h
theorem RetV.mono {v : V} {Q : VK} (k : RetV v H Q) (e : Ex H H') : RetV v H' Q := fun H2 e2 => k H2 (e.trans e2)
theorem RetU.mono {xs : List V} {Q : VK} (k : RetU xs H Q) (e : Ex H H') : RetU xs H' Q := fun p H2 hp e2 h => k p H2 (fresh_back e hp) (e.trans e2) h
theorem RetL.mono {xs : List V} {Q : VK} (k : RetL xs H Q) (e : Ex H H') : RetL xs H' Q := fun p H2 hp e2 h => k p H2 (fresh_back e hp) (e.trans e2) h
theorem RetO.mono {o : Option (List Int)} {Q : VK} (k : RetO o H Q) (e : Ex H H') : RetO o H' Q := ⟨fun h => RetV.mono (k.1 h) e, fun w h => RetU.mono (k.2 w h) e⟩
theorem RetV.of {v : V} {Q : VK} (q : ∀ H2, Ex H H2 → Q v H2) : RetV v H Q := q
/-- a call that hands back a new tuple -/
theorem eu_call {sp : Sp} {dvs ws xs : List V} {E : XK} {ta : TA} (h : EvA ta σ H ws) (hs : ∀ H1, Ex H H1 → ∀ Q : VK, RetU xs H1 Q → ∀ E : XK, sp (ws ++ dvs) H1 Q E) : EvU (tCall sp dvs E ta) σ H xs := fun H1 e Q q =>
  h H1 e _ fun Ha ea => hs Ha (e.trans ea) Q (fun p Hb new eb at_ => q p Hb (fresh_back ea new) (ea.trans eb) at_) E
/-- return e, the end a tuple promised -/
theorem end_U {xs : List V} {D : Ends} {Q : VK} (h : EvU te σ H xs) (hD : D.rt = Q) (k : RetU xs H Q) : tRet te D σ H := s_retU h fun p H1 hp e h1 => by
  rw [hD]
  exact k p H1 hp e h1
theorem end_L {xs : List V} {D : Ends} {Q : VK} (h : EvL te σ H xs) (hD : D.rt = Q) (k : RetL xs H Q) : tRet te D σ H := s_retL h fun p H1 hp e h1 => by
  rw [hD]
  exact k p H1 hp e h1
theorem end_V {D : Ends} {Q : VK} (h : Ev te σ H v) (hD : D.rt = Q) (k : RetV v H Q) : tRet te D σ H := s_ret h fun H1 e => by
  rw [hD]
  exact k H1 e
theorem q_tup2 {i k : Nat} {tz : TS} {D : Ends} {x y : V} (h : Ev ta σ H x) (hb : Ev tb σ H y) (kk : ∀ H1, Ex H H1 → tz D ((σ.set i (some x)).set k (some y)) H1) :
    tSeq (tAsg (tTup (tCons ta (tCons tb tNil))) (gTup K 2 (gCons (gName i) (gCons (gName k) gNil)))) tz D σ H := h H (Ex.refl H) _ fun H1 e1 => hb H1 e1 _ fun H2 e2 =>
  ⟨by show 2 ≤ sizeLine; decide, fun p hp => ⟨p, [x, y], rfl, .inl (.inl upd_same), rfl, x, [y], rfl, y, [], rfl, rfl, kk _ ((e1.trans e2).trans (Ex.new hp))⟩⟩
end
end DE
/-! The row's defs by their places, their scopes, the facts of the top; printed by gen_txt.py. -/
namespace DW
open PySem PySem.Spec PyProof.Rows L2 Evl DR DE
def topS (i : Nat) : Stmt := PySem.Challenge.pw_doublepay_k05_whole_starts_and_ends.main.body.getD i (.Pass ⟨0, 0, 0, 0⟩)
abbrev s_is_in : Stmt := topS 8
abbrev N_is_in : List Str := ["value", "least", "most"]
abbrev P_is_in : List Str := ["value", "least", "most"]
theorem sc_is_in : FnScope N_is_in P_is_in (defScope s_is_in) := ⟨rfl, rfl, rfl, by decide +kernel, rfl, by decide +kernel, by decide +kernel⟩
abbrev s_is_factor : Stmt := topS 14
abbrev N_is_factor : List Str := ["value"]
abbrev P_is_factor : List Str := ["value"]
theorem sc_is_factor : FnScope N_is_factor P_is_factor (defScope s_is_factor) := ⟨rfl, rfl, rfl, by decide +kernel, rfl, by decide +kernel, by decide +kernel⟩
abbrev s_need_table : Stmt := topS 15
abbrev N_need_table : List Str := ["table", "index", "one"]
abbrev P_need_table : List Str := ["table"]
theorem sc_need_table : FnScope N_need_table P_need_table (defScope s_need_table) := ⟨rfl, rfl, rfl, by decide +kernel, rfl, by decide +kernel, by decide +kernel⟩
abbrev s_need_factor : Stmt := topS 18
abbrev N_need_factor : List Str := ["factor"]
abbrev P_need_factor : List Str := ["factor"]
theorem sc_need_factor : FnScope N_need_factor P_need_factor (defScope s_need_factor) := ⟨rfl, rfl, rfl, by decide +kernel, rfl, by decide +kernel, by decide +kernel⟩
abbrev s_need_word : Stmt := topS 19
abbrev N_need_word : List Str := ["players", "word", "one"]
abbrev P_need_word : List Str := ["players", "word"]
theorem sc_need_word : FnScope N_need_word P_need_word (defScope s_need_word) := ⟨rfl, rfl, rfl, by decide +kernel, rfl, by decide +kernel, by decide +kernel⟩
abbrev s_need_rounds : Stmt := topS 20
abbrev N_need_rounds : List Str := ["many"]
abbrev P_need_rounds : List Str := ["many"]
theorem sc_need_rounds : FnScope N_need_rounds P_need_rounds (defScope s_need_rounds) := ⟨rfl, rfl, rfl, by decide +kernel, rfl, by decide +kernel, by decide +kernel⟩
abbrev s_is_whole : Stmt := topS 21
abbrev N_is_whole : List Str := ["value"]
abbrev P_is_whole : List Str := ["value"]
theorem sc_is_whole : FnScope N_is_whole P_is_whole (defScope s_is_whole) := ⟨rfl, rfl, rfl, by decide +kernel, rfl, by decide +kernel, by decide +kernel⟩
abbrev s_need_coins : Stmt := topS 22
abbrev N_need_coins : List Str := ["players", "coins", "one"]
abbrev P_need_coins : List Str := ["players", "coins"]
theorem sc_need_coins : FnScope N_need_coins P_need_coins (defScope s_need_coins) := ⟨rfl, rfl, rfl, by decide +kernel, rfl, by decide +kernel, by decide +kernel⟩
abbrev s_power : Stmt := topS 23
abbrev N_power : List Str := ["factor", "many", "found", "k"]
abbrev P_power : List Str := ["factor", "many"]
theorem sc_power : FnScope N_power P_power (defScope s_power) := ⟨rfl, rfl, rfl, by decide +kernel, rfl, by decide +kernel, by decide +kernel⟩
abbrev s_numbers_in : Stmt := topS 24
abbrev N_numbers_in : List Str := ["factor", "players", "word", "found", "payer", "one"]
abbrev P_numbers_in : List Str := ["factor", "players", "word"]
theorem sc_numbers_in : FnScope N_numbers_in P_numbers_in (defScope s_numbers_in) := ⟨rfl, rfl, rfl, by decide +kernel, rfl, by decide +kernel, by decide +kernel⟩
abbrev s_word_in : Stmt := topS 25
abbrev N_word_in : List Str := ["factor", "numbers", "many", "found", "left", "turn", "digits", "one"]
abbrev P_word_in : List Str := ["factor", "numbers", "many"]
theorem sc_word_in : FnScope N_word_in P_word_in (defScope s_word_in) := ⟨rfl, rfl, rfl, by decide +kernel, rfl, by decide +kernel, by decide +kernel⟩
abbrev s_after_in : Stmt := topS 26
abbrev N_after_in : List Str := ["factor", "coins", "word", "size", "total", "one", "number"]
abbrev P_after_in : List Str := ["factor", "coins", "word"]
theorem sc_after_in : FnScope N_after_in P_after_in (defScope s_after_in) := ⟨rfl, rfl, rfl, by decide +kernel, rfl, by decide +kernel, by decide +kernel⟩
abbrev s_after_word : Stmt := topS 27
abbrev N_after_word : List Str := ["table", "word"]
abbrev P_after_word : List Str := ["table", "word"]
theorem sc_after_word : FnScope N_after_word P_after_word (defScope s_after_word) := ⟨rfl, rfl, rfl, by decide +kernel, rfl, by decide +kernel, by decide +kernel⟩
abbrev s_start_for : Stmt := topS 28
abbrev N_start_for : List Str := ["factor", "coins", "word", "size", "total", "sums", "one", "number"]
abbrev P_start_for : List Str := ["factor", "coins", "word"]
theorem sc_start_for : FnScope N_start_for P_start_for (defScope s_start_for) := ⟨rfl, rfl, rfl, by decide +kernel, rfl, by decide +kernel, by decide +kernel⟩
abbrev s_between_in : Stmt := topS 29
abbrev N_between_in : List Str := ["table", "coins", "many", "total", "size", "gaps", "one", "other", "gap"]
abbrev P_between_in : List Str := ["table", "coins", "many"]
theorem sc_between_in : FnScope N_between_in P_between_in (defScope s_between_in) := ⟨rfl, rfl, rfl, by decide +kernel, rfl, by decide +kernel, by decide +kernel⟩
abbrev s_word_between : Stmt := topS 30
abbrev N_word_between : List Str := ["table", "coins", "many"]
abbrev P_word_between : List Str := ["table", "coins", "many"]
theorem sc_word_between : FnScope N_word_between P_word_between (defScope s_word_between) := ⟨rfl, rfl, rfl, by decide +kernel, rfl, by decide +kernel, by decide +kernel⟩
abbrev s_fewest_rounds : Stmt := topS 31
abbrev N_fewest_rounds : List Str := ["table", "coins", "many"]
abbrev P_fewest_rounds : List Str := ["table", "coins"]
theorem sc_fewest_rounds : FnScope N_fewest_rounds P_fewest_rounds (defScope s_fewest_rounds) := ⟨rfl, rfl, rfl, by decide +kernel, rfl, by decide +kernel, by decide +kernel⟩
abbrev s_l_taken : Stmt := topS 33
abbrev N_l_taken : List Str := ["_law_row", "_law_many", "_law_found", "_law_cell"]
abbrev P_l_taken : List Str := ["_law_row", "_law_many"]
theorem sc_l_taken : FnScope N_l_taken P_l_taken (defScope s_l_taken) := ⟨rfl, rfl, rfl, by decide +kernel, rfl, by decide +kernel, by decide +kernel⟩
abbrev s_l_pick : Stmt := topS 34
abbrev N_l_pick : List Str := ["_law_row", "_law_things"]
abbrev P_l_pick : List Str := ["_law_row", "_law_things"]
theorem sc_l_pick : FnScope N_l_pick P_l_pick (defScope s_l_pick) := ⟨rfl, rfl, rfl, by decide +kernel, rfl, by decide +kernel, by decide +kernel⟩
abbrev s_l_table : Stmt := topS 35
abbrev N_l_table : List Str := ["_law_row", "_law_most", "_law_top", "_law_factor", "_law_players", "_law_way", "_law_size", "_law_coins", "_law_turn", "_law_many", "_law_payer", "_law_total", "_law_others", "_law_sums", "_law_one", "_law_k"]
abbrev P_l_table : List Str := ["_law_row", "_law_most", "_law_top"]
theorem sc_l_table : FnScope N_l_table P_l_table (defScope s_l_table) := ⟨rfl, rfl, rfl, by decide +kernel, rfl, by decide +kernel, by decide +kernel⟩
abbrev s_l_word : Stmt := topS 36
abbrev N_l_word : List Str := ["_law_row", "_law_players", "_law_most", "_law_turn"]
abbrev P_l_word : List Str := ["_law_row", "_law_players", "_law_most"]
theorem sc_l_word : FnScope N_l_word P_l_word (defScope s_l_word) := ⟨rfl, rfl, rfl, by decide +kernel, rfl, by decide +kernel, by decide +kernel⟩
abbrev s_l_alike : Stmt := topS 37
abbrev N_l_alike : List Str := ["_law_found", "_law_due", "_law_k"]
abbrev P_l_alike : List Str := ["_law_found", "_law_due"]
theorem sc_l_alike : FnScope N_l_alike P_l_alike (defScope s_l_alike) := ⟨rfl, rfl, rfl, by decide +kernel, rfl, by decide +kernel, by decide +kernel⟩
abbrev s_l_signed : Stmt := topS 38
abbrev N_l_signed : List Str := ["_law_row", "_law_most"]
abbrev P_l_signed : List Str := ["_law_row", "_law_most"]
theorem sc_l_signed : FnScope N_l_signed P_l_signed (defScope s_l_signed) := ⟨rfl, rfl, rfl, by decide +kernel, rfl, by decide +kernel, by decide +kernel⟩
abbrev s_l_owed : Stmt := topS 39
abbrev N_l_owed : List Str := ["_law_factor", "_law_coins", "_law_payer", "_law_gives", "_law_found", "_law_one", "_law_k"]
abbrev P_l_owed : List Str := ["_law_factor", "_law_coins", "_law_payer"]
theorem sc_l_owed : FnScope N_l_owed P_l_owed (defScope s_l_owed) := ⟨rfl, rfl, rfl, by decide +kernel, rfl, by decide +kernel, by decide +kernel⟩
abbrev s_l_along : Stmt := topS 40
abbrev N_l_along : List Str := ["_law_factor", "_law_coins", "_law_word_here", "_law_found", "_law_payer"]
abbrev P_l_along : List Str := ["_law_factor", "_law_coins", "_law_word_here"]
theorem sc_l_along : FnScope N_l_along P_l_along (defScope s_l_along) := ⟨rfl, rfl, rfl, by decide +kernel, rfl, by decide +kernel, by decide +kernel⟩
abbrev s_law : Stmt := topS 41
abbrev N_law : List Str := ["_law_script", "_law_row", "_law_table_here", "_law_factor", "_law_coins", "_law_players", "_law_word_here", "_law_last", "_law_few", "_law_many", "_law_near", "_law_found", "_law_whole", "_law_total", "_law_left", "_law_payer", "_law_other", "_law_one", "_law_k"]
abbrev P_law : List Str := ["_law_script"]
theorem sc_law : FnScope N_law P_law (defScope s_law) := ⟨rfl, rfl, rfl, by decide +kernel, rfl, by decide +kernel, by decide +kernel⟩
/-- a def as it stands behind the top -/
structure Df (K : PySem.W.Frag) (mg : Str → Option Value) (x : Str) (st : Stmt) where
  f : Addr
  fd : FuncData
  g : mg x = some (.ref f)
  F : Fun K x x st f fd
structure Txt (K : PySem.W.Frag) (mg : Str → Option Value) where
  is_in : Df K mg "is_in" s_is_in
  is_factor : Df K mg "is_factor" s_is_factor
  need_table : Df K mg "need_table" s_need_table
  need_factor : Df K mg "need_factor" s_need_factor
  need_word : Df K mg "need_word" s_need_word
  need_rounds : Df K mg "need_rounds" s_need_rounds
  is_whole : Df K mg "is_whole" s_is_whole
  need_coins : Df K mg "need_coins" s_need_coins
  power : Df K mg "power" s_power
  numbers_in : Df K mg "numbers_in" s_numbers_in
  word_in : Df K mg "word_in" s_word_in
  after_in : Df K mg "after_in" s_after_in
  after_word : Df K mg "after_word" s_after_word
  start_for : Df K mg "start_for" s_start_for
  between_in : Df K mg "between_in" s_between_in
  word_between : Df K mg "word_between" s_word_between
  fewest_rounds : Df K mg "fewest_rounds" s_fewest_rounds
  l_taken : Df K mg "_law_taken" s_l_taken
  l_pick : Df K mg "_law_pick" s_l_pick
  l_table : Df K mg "_law_table" s_l_table
  l_word : Df K mg "_law_word" s_l_word
  l_alike : Df K mg "_law_alike" s_l_alike
  l_signed : Df K mg "_law_signed" s_l_signed
  l_owed : Df K mg "_law_owed" s_l_owed
  l_along : Df K mg "_law_along" s_l_along
  law : Df K mg "law" s_law
  n_isinstance : mg "isinstance" = none
  n_int : mg "int" = none
  n_bool : mg "bool" = none
  n_tuple : mg "tuple" = none
  n_len : mg "len" = none
  n_enumerate : mg "enumerate" = none
  n_sum : mg "sum" = none
  n_range : mg "range" = none
  n_list : mg "list" = none
  n_sorted : mg "sorted" = none
  n_zip : mg "zip" = none
  n_str : mg "str" = none
  c_MOST_PLAYERS : ∃ t, mg "MOST_PLAYERS" = some (.int 6 t)
  c_MOST_COINS : ∃ t, mg "MOST_COINS" = some (.int 1000000 t)
  c_LEAST_FACTOR : ∃ t, mg "LEAST_FACTOR" = some (.int 2 t)
  c_MOST_FACTOR : ∃ t, mg "MOST_FACTOR" = some (.int 9 t)
  c_MOST_ROUNDS : ∃ t, mg "MOST_ROUNDS" = some (.int 40 t)
section
variable {K : PySem.W.Frag} {mg : Str → Option Value} (T : Txt K mg)
theorem b_is_in : Binds K T.is_in.fd P_is_in [] := T.is_in.F.binds (ps := P_is_in) fun _ _ _ _ _ _ us hl => match us, hl with | [_, _, _], _ => rfl
theorem b_is_factor : Binds K T.is_factor.fd P_is_factor [] := T.is_factor.F.binds (ps := P_is_factor) fun _ _ _ _ _ _ us hl => match us, hl with | [_], _ => rfl
theorem b_need_table : Binds K T.need_table.fd P_need_table [] := T.need_table.F.binds (ps := P_need_table) fun _ _ _ _ _ _ us hl => match us, hl with | [_], _ => rfl
theorem b_need_factor : Binds K T.need_factor.fd P_need_factor [] := T.need_factor.F.binds (ps := P_need_factor) fun _ _ _ _ _ _ us hl => match us, hl with | [_], _ => rfl
theorem b_need_word : Binds K T.need_word.fd P_need_word [] := T.need_word.F.binds (ps := P_need_word) fun _ _ _ _ _ _ us hl => match us, hl with | [_, _], _ => rfl
theorem b_need_rounds : Binds K T.need_rounds.fd P_need_rounds [] := T.need_rounds.F.binds (ps := P_need_rounds) fun _ _ _ _ _ _ us hl => match us, hl with | [_], _ => rfl
theorem b_is_whole : Binds K T.is_whole.fd P_is_whole [] := T.is_whole.F.binds (ps := P_is_whole) fun _ _ _ _ _ _ us hl => match us, hl with | [_], _ => rfl
theorem b_need_coins : Binds K T.need_coins.fd P_need_coins [] := T.need_coins.F.binds (ps := P_need_coins) fun _ _ _ _ _ _ us hl => match us, hl with | [_, _], _ => rfl
theorem b_power : Binds K T.power.fd P_power [] := T.power.F.binds (ps := P_power) fun _ _ _ _ _ _ us hl => match us, hl with | [_, _], _ => rfl
theorem b_numbers_in : Binds K T.numbers_in.fd P_numbers_in [] := T.numbers_in.F.binds (ps := P_numbers_in) fun _ _ _ _ _ _ us hl => match us, hl with | [_, _, _], _ => rfl
theorem b_word_in : Binds K T.word_in.fd P_word_in [] := T.word_in.F.binds (ps := P_word_in) fun _ _ _ _ _ _ us hl => match us, hl with | [_, _, _], _ => rfl
theorem b_after_in : Binds K T.after_in.fd P_after_in [] := T.after_in.F.binds (ps := P_after_in) fun _ _ _ _ _ _ us hl => match us, hl with | [_, _, _], _ => rfl
theorem b_after_word : Binds K T.after_word.fd P_after_word [] := T.after_word.F.binds (ps := P_after_word) fun _ _ _ _ _ _ us hl => match us, hl with | [_, _], _ => rfl
theorem b_start_for : Binds K T.start_for.fd P_start_for [] := T.start_for.F.binds (ps := P_start_for) fun _ _ _ _ _ _ us hl => match us, hl with | [_, _, _], _ => rfl
theorem b_between_in : Binds K T.between_in.fd P_between_in [] := T.between_in.F.binds (ps := P_between_in) fun _ _ _ _ _ _ us hl => match us, hl with | [_, _, _], _ => rfl
theorem b_word_between : Binds K T.word_between.fd P_word_between [] := T.word_between.F.binds (ps := P_word_between) fun _ _ _ _ _ _ us hl => match us, hl with | [_, _, _], _ => rfl
theorem b_fewest_rounds : Binds K T.fewest_rounds.fd P_fewest_rounds [] := T.fewest_rounds.F.binds (ps := P_fewest_rounds) fun _ _ _ _ _ _ us hl => match us, hl with | [_, _], _ => rfl
theorem b_l_taken : Binds K T.l_taken.fd P_l_taken [] := T.l_taken.F.binds (ps := P_l_taken) fun _ _ _ _ _ _ us hl => match us, hl with | [_, _], _ => rfl
theorem b_l_pick : Binds K T.l_pick.fd P_l_pick [] := T.l_pick.F.binds (ps := P_l_pick) fun _ _ _ _ _ _ us hl => match us, hl with | [_, _], _ => rfl
theorem b_l_table : Binds K T.l_table.fd P_l_table [] := T.l_table.F.binds (ps := P_l_table) fun _ _ _ _ _ _ us hl => match us, hl with | [_, _, _], _ => rfl
theorem b_l_word : Binds K T.l_word.fd P_l_word [] := T.l_word.F.binds (ps := P_l_word) fun _ _ _ _ _ _ us hl => match us, hl with | [_, _, _], _ => rfl
theorem b_l_alike : Binds K T.l_alike.fd P_l_alike [] := T.l_alike.F.binds (ps := P_l_alike) fun _ _ _ _ _ _ us hl => match us, hl with | [_, _], _ => rfl
theorem b_l_signed : Binds K T.l_signed.fd P_l_signed [] := T.l_signed.F.binds (ps := P_l_signed) fun _ _ _ _ _ _ us hl => match us, hl with | [_, _], _ => rfl
theorem b_l_owed : Binds K T.l_owed.fd P_l_owed [] := T.l_owed.F.binds (ps := P_l_owed) fun _ _ _ _ _ _ us hl => match us, hl with | [_, _, _], _ => rfl
theorem b_l_along : Binds K T.l_along.fd P_l_along [] := T.l_along.F.binds (ps := P_l_along) fun _ _ _ _ _ _ us hl => match us, hl with | [_, _, _], _ => rfl
theorem b_law : Binds K T.law.fd P_law [] := T.law.F.binds (ps := P_law) fun _ _ _ _ _ _ us hl => match us, hl with | [_], _ => rfl
end
end DW
/-! Walks: the checks of values, power. -/
namespace DW
open PySem PySem.Spec PyProof.Rows L2 Evl DR DE DM

/-! ### isinstance -/
section
variable {K : PySem.W.Frag} {σ : L2.St} {H H' : Hp} {ta tb te tl : TE} {t : TT} {z v : V} {ns : List Int} {a b : Addr}
theorem ev_isiI {n : Int} {T : String} {r : Bool} (ha : Ev ta σ H (.int n)) (h : kitB "int" T = some r) : Ev (tCB (rIsi K) (tCons ta (tCons (tC (.ty T)) tNil))) σ H (.bl r) := fun H1 e Q q =>
  ha H1 e _ fun H2 e2 => ⟨.int n, .ty T, .type "int", .type T, r, rfl, .ty T, .base (.int n), kit_ty h, q H2 e2⟩
theorem tyx_tup {xs : List V} (h : SqT K H a xs) : TyX K H (.ref a) (.type "tuple") := by
  rcases h with (h | ⟨o, h⟩) | ⟨o, its, n, h, hc, _⟩
  · exact .base (.tup h)
  · exact .fTuple h
  · exact .kTuple h hc
theorem ev_isiT {xs : List V} {T : String} {r : Bool} (ha : Ev ta σ H (.ref a)) (hx : SqT K H a xs) (h : kitB "tuple" T = some r) : Ev (tCB (rIsi K) (tCons ta (tCons (tC (.ty T)) tNil))) σ H (.bl r) := fun H1 e Q q =>
  ha H1 e _ fun H2 e2 => ⟨.ref a, .ty T, .type "tuple", .type T, r, rfl, .ty T, tyx_tup (ex_t (e.trans e2) hx), kit_ty h, q H2 e2⟩
end

section
variable {P : Program} {w : World} {K : PySem.W.Frag} {mg : Str → Option Value} {base : Heap} (T : Txt K mg)
/-! ### is_in -/
def spIsIn : Sp := fun vs H Q _ => ∃ n lo hi : Int, vs = [.int n, .int lo, .int hi] ∧ RetV (.bl (decide (lo ≤ n) && decide (n ≤ hi))) H Q
theorem ok_is_in : FnOk P w K mg base CX0 1 T.is_in.f T.is_in.fd P_is_in spIsIn := by
  refine T.is_in.F.ok sc_is_in (fun vs H Q E h => ?_) (fun cdv A outer s H vs Q E hr h => ?_)
  · obtain ⟨n, lo, hi, rfl, _⟩ := h
    rfl
  · obtain ⟨n, lo, hi, rfl, q⟩ := h
    refine ⟨_, pss_one (ps_ret (pe_and (pe_callB call_isi (by rfl) T.n_isinstance PyProof.Rows.boot_isinstance (pa_cons (pv 0) (pa_cons (pe_bltn (v := .ty "int") (by rfl) T.n_int PyProof.Rows.boot_int rfl) pa_nil)))
      (pe_and (pe_not (pe_callB call_isi (by rfl) T.n_isinstance PyProof.Rows.boot_isinstance (pa_cons (pv 0) (pa_cons (pe_bltn (v := .ty "bool") (by rfl) T.n_bool PyProof.Rows.boot_bool rfl) pa_nil))))
      (pe_one (pe_chain op_le op_le (pv 1) (pv 0) (pv 2)))))), ?_⟩
    refine end_V (ev_andV (a := true) (ev_isiI (n := n) (ev_var rfl) (by decide +kernel)) fun _ => ev_andV (a := true) (ev_notV (a := false) (ev_isiI (n := n) (ev_var rfl) (by decide +kernel))) fun _ =>
      ev_chain (x := .int lo) (y := .int n) (u := .int hi) (b1 := decide (lo ≤ n)) (z := .bl (decide (lo ≤ n) && decide (n ≤ hi))) (ev_var rfl) (ev_var rfl) (rv_I0 (g := fun i j => V.bl (decide (i ≤ j)))) (fun _ => ev_var rfl) (fun h => ?_) (fun h => ?_)) rfl q
    · rw [h]
      exact rv_I0 (g := fun i j => V.bl (decide (i ≤ j)))
    · rw [h]
      rfl
/-! ### is_factor, is_whole -/
def spIsFactor : Sp := fun vs H Q _ => ∃ n : Int, vs = [.int n] ∧ RetV (.bl (decide (2 ≤ n) && decide (n ≤ 9))) H Q
theorem ok_is_factor : FnOk P w K mg base CX0 2 T.is_factor.f T.is_factor.fd P_is_factor spIsFactor := by
  have G := ok_is_in (P := P) (w := w) (base := base) T
  obtain ⟨t1, h1⟩ := T.c_LEAST_FACTOR
  obtain ⟨t2, h2⟩ := T.c_MOST_FACTOR
  refine T.is_factor.F.ok sc_is_factor (fun vs H Q E h => ?_) (fun cdv A outer s H vs Q E hr h => ?_)
  · obtain ⟨n, rfl, _⟩ := h
    rfl
  · obtain ⟨n, rfl, q⟩ := h
    refine ⟨_, pss_one (ps_ret (pe_call G hr (by rfl) T.is_in.g T.is_in.F.kp (b_is_in T) .nil pass0 (pa_cons (pv 0) (pa_cons (pe_glob (v := .int 2) (by rfl) h1 ⟨t1, rfl⟩) (pa_cons (pe_glob (v := .int 9) (by rfl) h2 ⟨t2, rfl⟩) pa_nil))))), ?_⟩
    exact end_V (ev_call (ea_cons (ev_var rfl) (ea_cons ev_c (ea_cons ev_c ea_nil))) fun H1 e Q q E => ⟨n, 2, 9, rfl, q⟩) rfl q
def spIsWhole : Sp := fun vs H Q _ => ∃ n : Int, vs = [.int n] ∧ RetV (.bl true) H Q
theorem ok_is_whole : FnOk P w K mg base CX0 1 T.is_whole.f T.is_whole.fd P_is_whole spIsWhole := by
  refine T.is_whole.F.ok sc_is_whole (fun vs H Q E h => ?_) (fun cdv A outer s H vs Q E hr h => ?_)
  · obtain ⟨n, rfl, _⟩ := h
    rfl
  · obtain ⟨n, rfl, q⟩ := h
    refine ⟨_, pss_one (ps_ret (pe_and (pe_callB call_isi (by rfl) T.n_isinstance PyProof.Rows.boot_isinstance (pa_cons (pv 0) (pa_cons (pe_bltn (v := .ty "int") (by rfl) T.n_int PyProof.Rows.boot_int rfl) pa_nil)))
      (pe_one (pe_not (pe_callB call_isi (by rfl) T.n_isinstance PyProof.Rows.boot_isinstance (pa_cons (pv 0) (pa_cons (pe_bltn (v := .ty "bool") (by rfl) T.n_bool PyProof.Rows.boot_bool rfl) pa_nil))))))), ?_⟩
    exact end_V (ev_andV (a := true) (ev_isiI (n := n) (ev_var rfl) (by decide +kernel)) fun _ => ev_notV (a := false) (ev_isiI (n := n) (ev_var rfl) (by decide +kernel))) rfl q
/-! ### need_factor, need_rounds -/
def spNeedFactor : Sp := fun vs H Q _ => ∃ n : Int, vs = [.int n] ∧ 2 ≤ n ∧ n ≤ 9 ∧ RetV .non H Q
theorem ok_need_factor : FnOk P w K mg base CX0 3 T.need_factor.f T.need_factor.fd P_need_factor spNeedFactor := by
  have G := ok_is_factor (P := P) (w := w) (base := base) T
  refine T.need_factor.F.ok sc_need_factor (fun vs H Q E h => ?_) (fun cdv A outer s H vs Q E hr h => ?_)
  · obtain ⟨n, rfl, _⟩ := h
    rfl
  · obtain ⟨n, rfl, g1, g2, q⟩ := h
    refine ⟨_, pss_one (ps_if (pt_not (pt_val (pe_call G hr (by rfl) T.is_factor.g T.is_factor.F.kp (b_is_factor T) .nil pass0 (pa_cons (pv 0) pa_nil)))) pss_never pss_nil), ?_⟩
    refine s_when (b := false) (et_is (et_not (et_B (ev_call (ea_cons (ev_var rfl) ea_nil) fun H1 e Q q E => ⟨n, rfl, q⟩))) ?_) (fun h => nomatch h) fun _ H1 e => q H1 e
    rw [decide_eq_true g1, decide_eq_true g2]
    rfl
def spNeedRounds : Sp := fun vs H Q _ => ∃ n : Int, vs = [.int n] ∧ 0 ≤ n ∧ n ≤ 40 ∧ RetV .non H Q
theorem ok_need_rounds : FnOk P w K mg base CX0 2 T.need_rounds.f T.need_rounds.fd P_need_rounds spNeedRounds := by
  have G := ok_is_in (P := P) (w := w) (base := base) T
  obtain ⟨t1, h1⟩ := T.c_MOST_ROUNDS
  refine T.need_rounds.F.ok sc_need_rounds (fun vs H Q E h => ?_) (fun cdv A outer s H vs Q E hr h => ?_)
  · obtain ⟨n, rfl, _⟩ := h
    rfl
  · obtain ⟨n, rfl, g1, g2, q⟩ := h
    refine ⟨_, pss_one (ps_if (pt_not (pt_val (pe_call G hr (by rfl) T.is_in.g T.is_in.F.kp (b_is_in T) .nil pass0 (pa_cons (pv 0) (pa_cons pe_int (pa_cons (pe_glob (v := .int 40) (by rfl) h1 ⟨t1, rfl⟩) pa_nil)))))) pss_never pss_nil), ?_⟩
    refine s_when (b := false) (et_is (et_not (et_B (ev_call (ea_cons (ev_var rfl) (ea_cons ev_c (ea_cons ev_c ea_nil))) fun H1 e Q q E => ⟨n, 0, 40, rfl, q⟩))) ?_) (fun h => nomatch h) fun _ H1 e => q H1 e
    rw [decide_eq_true g1, decide_eq_true g2]
    rfl
/-! ### power -/
def spPower : Sp := fun vs H Q _ => ∃ f m : Int, vs = [.int f, .int m] ∧ 2 ≤ f ∧ f ≤ 9 ∧ 0 ≤ m ∧ m ≤ 40 ∧ RetV (.int (f ^ m.toNat)) H Q
theorem ok_power : FnOk P w K mg base CX0 1 T.power.f T.power.fd P_power spPower := by
  refine T.power.F.ok sc_power (fun vs H Q E h => ?_) (fun cdv A outer s H vs Q E hr h => ?_)
  · obtain ⟨f, m, rfl, _⟩ := h
    rfl
  · obtain ⟨f, m, rfl, f2, f9, m0, m4, q⟩ := h
    refine ⟨_, pss_cons (ps_set (i := 2) sc_power.nd rfl (.inl rfl) pe_int)
      (pss_cons (ps_for PassesOwn.never rfl (pi_range1 (by rfl) T.n_range (pa_cons (pv 1) pa_nil)) (pg_name (i := 3) sc_power.nd rfl (.inl rfl)) (pss_one (ps_aug (i := 2) sc_power.nd rfl (.inl rfl) (pv 0) iop_mul)))
      (pss_one (ps_ret (pv 2)))), ?_⟩
    refine q_asg ev_c fun H1 e1 => ?_
    refine q_forR1 (n := m) (ea_cons (ev_var rfl) ea_nil) ⟨m0, by omega⟩ (fun i σ' H' => (∃ y, σ' = [some (.int f), some (.int m), some (.int (f ^ i)), y]) ∧ Ex H H') (fun H2 e2 => ⟨⟨none, by rw [Int.pow_zero]; rfl⟩, e1.trans e2⟩) (fun i σ' H' hi p => ?_) (fun σ' H' p => ?_)
    · obtain ⟨⟨y, rfl⟩, e⟩ := p
      refine ⟨.int (f ^ i), rfl, .int f, rfl, f ^ i, f, rfl, rfl, .inr ⟨by omega, by omega⟩, ⟨some (.int (i : Int)), ?_⟩, e⟩
      rw [Int.pow_succ]
      rfl
    · obtain ⟨⟨y, rfl⟩, e⟩ := p
      exact end_V (ev_var rfl) rfl (RetV.mono q e)
end
end DW
/-! Walks: need_table, need_word, need_coins. -/
namespace DW
open PySem PySem.Spec PyProof.Rows L2 Evl DR DE DM

section
variable {K : PySem.W.Frag} {σ : L2.St} {H H' : Hp} {ta tb te tl : TE} {t : TT} {z v : V} {ns : List Int} {a b : Addr} {D : Ends} {tu tz : TS} {g : TG}
/-- for i, x in enumerate(a tuple) -/
theorem s_forEnT {xs : List V} (h : Ev ta σ H (.ref a)) (hx : SqT K H a xs) (Pv : Nat → L2.St → Hp → Prop) (h0 : ∀ H1, Ex H H1 → Pv 0 σ H1) (hl : ∀ i σ' H', i ≤ xs.length → Pv i σ' H' → SqT K H' a xs)
    (hs : ∀ (i : Nat) x T σ' H', xs[i]? = some x → Pv i σ' H' → H' T = none → g (.ref T) σ' (upd H' T (.tup [.int (i : Nat), x])) fun σ2 H2 => tu { D with nx := Pv (i + 1), ct := Pv (i + 1), bk := D.nx } σ2 H2) (hd : ∀ σ' H', Pv xs.length σ' H' → D.nx σ' H') :
    tFor (iEnumT K (tCons ta tNil)) g tu D σ H :=
  h H (Ex.refl H) _ fun H1 e1 => ⟨a, xs, rfl, ex_t e1 hx, by
    refine ⟨fun i m σ' H' => m + i = xs.length ∧ Pv i σ' H', ⟨xs.length, rfl, h0 H1 e1⟩, ?_⟩
    rintro i (_ | m) σ' H' ⟨left, p⟩
    · rw [Nat.zero_add] at left
      subst left
      exact .inl ⟨⟨xs, hl _ σ' H' (Nat.le_refl _) p, rfl⟩, hd σ' H' p⟩
    · have lt : i < xs.length := by omega
      have seq := hl i σ' H' (Nat.le_of_lt lt) p
      refine .inr ⟨⟨xs, seq, lt⟩, Pv (i + 1), fun σ2 H2 next => ⟨m, Nat.lt_succ_self m, by omega, next⟩, ?_⟩
      rintro v H2 ⟨T, r, rfl, free, rfl, items⟩
      obtain ⟨x, at_, rfl⟩ := items xs seq
      exact hs i x T σ' H' at_ p free⟩
theorem q_forEnT {xs : List V} (h : Ev ta σ H (.ref a)) (hx : SqT K H a xs) (Pv : Nat → L2.St → Hp → Prop) (h0 : ∀ H1, Ex H H1 → Pv 0 σ H1) (hl : ∀ i σ' H', i ≤ xs.length → Pv i σ' H' → SqT K H' a xs)
    (hs : ∀ (i : Nat) x T σ' H', xs[i]? = some x → Pv i σ' H' → H' T = none → g (.ref T) σ' (upd H' T (.tup [.int (i : Nat), x])) fun σ2 H2 => tu { D with nx := Pv (i + 1), ct := Pv (i + 1), bk := tz D } σ2 H2) (hd : ∀ σ' H', Pv xs.length σ' H' → tz D σ' H') :
    tSeq (tFor (iEnumT K (tCons ta tNil)) g tu) tz D σ H := s_forEnT (D := { D with nx := tz D }) h hx Pv h0 hl hs hd
/-- what an item of a known tuple is -/
theorem ev_at {xs : List V} {i : Int} (ha : Ev ta σ H (.ref a)) (hx : SqT K H a xs) (hv : atI xs i = some v) : Ev (tOp (rIxT K) ta (tC (.int i))) σ H v := ev_op ha ev_c (rv_ixT hx hv)
/-- 1 <= len(t) <= 6 -/
theorem ev_lenIn {xs : List V} (ha : Ev ta σ H (.ref a)) (hx : SqT K H a xs) (h1 : 1 ≤ xs.length) (h6 : xs.length ≤ 6) :
    Ev (tChain (rI0 fun i j => .bl (decide (i ≤ j))) (rI0 fun i j => .bl (decide (i ≤ j))) (tC (.int 1)) (tCB (rLenS K) (tCons ta tNil)) (tC (.int 6))) σ H (.bl true) := by
  refine ev_chain (x := .int 1) (y := .int (xs.length : Int)) (u := .int 6) (b1 := true) ev_c (ev_lenT ha hx) ?_ (fun _ => ev_c) (fun _ => ?_) (fun h => nomatch h)
  · have := rv_I0 (H := H) (g := fun i j => V.bl (decide (i ≤ j))) (i := 1) (j := (xs.length : Int))
    rw [decide_eq_true (by omega)] at this
    exact this
  · have := rv_I0 (H := H) (g := fun i j => V.bl (decide (i ≤ j))) (i := (xs.length : Int)) (j := 6)
    rw [decide_eq_true (by omega)] at this
    exact this
end

/-- a table that stands at t -/
def TabAt (K : PySem.W.Frag) (H : Hp) (t : Addr) (f : Int) (cs : List Int) : Prop := ∃ c, SqT K H t [.int f, .ref c] ∧ SqT K H c (iv cs)
def TabOk (f : Int) (cs : List Int) : Prop := 2 ≤ f ∧ f ≤ 9 ∧ 1 ≤ cs.length ∧ cs.length ≤ 6 ∧ (∀ c ∈ cs, 0 ≤ c ∧ c ≤ 1000000) ∧ 0 < cs.sum
theorem TabAt.mono {K : PySem.W.Frag} {H H' : Hp} {t : Addr} {f : Int} {cs : List Int} (h : TabAt K H t f cs) (e : Ex H H') : TabAt K H' t f cs := by
  obtain ⟨c, h1, h2⟩ := h
  exact ⟨c, ex_t e h1, ex_t e h2⟩

section
variable {P : Program} {w : World} {K : PySem.W.Frag} {mg : Str → Option Value} {base : Heap} (T : Txt K mg)
/-! ### need_table -/
def spNeedTable (K : PySem.W.Frag) : Sp := fun vs H Q _ => ∃ (t : Addr) (f : Int) (cs : List Int), vs = [.ref t] ∧ TabAt K H t f cs ∧ TabOk f cs ∧ RetV .non H Q
theorem ok_need_table : FnOk P w K mg base CX0 3 T.need_table.f T.need_table.fd P_need_table (spNeedTable K) := by
  have G := ok_is_factor (P := P) (w := w) (base := base) T
  have G1 := ok_is_in (P := P) (w := w) (base := base) T
  obtain ⟨t1, h1⟩ := T.c_MOST_PLAYERS
  obtain ⟨t2, h2⟩ := T.c_MOST_COINS
  refine T.need_table.F.ok sc_need_table (fun vs H Q E h => ?_) (fun cdv A outer s H vs Q E hr h => ?_)
  · obtain ⟨t, f, cs, rfl, _⟩ := h
    rfl
  · obtain ⟨t, f, cs, rfl, ⟨c, ht, hc⟩, ⟨f2, f9, l1, l6, hcs, hsum⟩, q⟩ := h
    refine ⟨_, pss_cons (ps_if (pw_or (pt_not (pt_val (pe_callB call_isi (by rfl) T.n_isinstance PyProof.Rows.boot_isinstance (pa_cons (pv 0) (pa_cons (pe_bltn (v := .ty "tuple") (by rfl) T.n_tuple PyProof.Rows.boot_tuple rfl) pa_nil)))))
        (pw_or (pt_cmpR op_ne (pe_callB call_lenS (by rfl) T.n_len PySem.boot_len (pa_cons (pv 0) pa_nil)) pe_int (nomark _))
        (pw_or1 (pt_not (pt_val (pe_call G hr (by rfl) T.is_factor.g T.is_factor.F.kp (b_is_factor T) .nil pass0 (pa_cons (pe_ix ix_tup (pv 0) pe_int (fun _ _ => rfl)) pa_nil))))))).pt pss_never pss_nil)
      (pss_cons (ps_if (pw_or (pt_not (pt_val (pe_callB call_isi (by rfl) T.n_isinstance PyProof.Rows.boot_isinstance (pa_cons (pe_ix ix_tup (pv 0) pe_int (fun _ _ => rfl)) (pa_cons (pe_bltn (v := .ty "tuple") (by rfl) T.n_tuple PyProof.Rows.boot_tuple rfl) pa_nil)))))
        (pw_or1 (pt_not (pt_chain op_le op_le pe_int (pe_callB call_lenS (by rfl) T.n_len PySem.boot_len (pa_cons (pe_ix ix_tup (pv 0) pe_int (fun _ _ => rfl)) pa_nil)) (pe_glob (v := .int 6) (by rfl) h1 ⟨t1, rfl⟩))))).pt pss_never pss_nil)
      (pss_cons (ps_for PassesOwn.never rfl (pi_enumT (by rfl) T.n_enumerate (pa_cons (pe_ix ix_tup (pv 0) pe_int (fun _ _ => rfl)) pa_nil))
          (pg_tup rfl (pgs_cons (pg_name (i := 1) sc_need_table.nd rfl (.inl rfl)) (pgs_cons (pg_name (i := 2) sc_need_table.nd rfl (.inl rfl)) pgs_nil)))
          (pss_one (ps_if (pt_not (pt_val (pe_call G1 (hr.mono (by decide)) (by rfl) T.is_in.g T.is_in.F.kp (b_is_in T) .nil pass0 (pa_cons (pv 2) (pa_cons pe_int (pa_cons (pe_glob (v := .int 1000000) (by rfl) h2 ⟨t2, rfl⟩) pa_nil)))))) pss_never pss_nil)))
      (pss_one (ps_if (pt_cmpR op_eq (pe_callB (cr_sumT rfl) (by rfl) T.n_sum PyProof.Rows.boot_sum (pa_cons (pe_ix ix_tup (pv 0) pe_int (fun _ _ => rfl)) pa_nil)) pe_int (nomark _)) pss_never pss_nil)))), ?_⟩
    refine q_when (b := false) (et_or (a := false) (b := false) (et_not (a := true) (et_B (ev_isiT (ev_var rfl) ht (by decide +kernel)))) fun _ => et_or (a := false) (b := false) (et_is (et_test (ev_op (ev_lenT (ev_var rfl) ht) ev_c (rv_ne rfl))) rfl) fun _ =>
      et_is (et_not (et_B (ev_call (ea_cons (ev_at (v := .int f) (ev_var rfl) ht rfl) ea_nil) fun H1 e Q q E => ⟨f, rfl, q⟩))) (by rw [decide_eq_true f2, decide_eq_true f9]; rfl)) (fun h => nomatch h) fun _ H1 e1 => ?_
    have ht1 := ex_t e1 ht
    have hc1 := ex_t e1 hc
    refine q_when (b := false) (et_or (a := false) (b := false) (et_not (a := true) (et_B (ev_isiT (ev_at (v := .ref c) (ev_var rfl) ht1 rfl) hc1 (by decide +kernel)))) fun _ =>
      et_not (a := true) (et_test (ev_lenIn (ev_at (v := .ref c) (ev_var rfl) ht1 rfl) hc1 (by simpa using l1) (by simpa using l6)))) (fun h => nomatch h) fun _ H2 e2 => ?_
    have ht2 := ex_t e2 ht1
    have hc2 := ex_t e2 hc1
    refine q_forEnT (ev_at (v := .ref c) (ev_var rfl) ht2 rfl) hc2 (fun i σ' H' => (∃ y1 y2, σ' = [some (.ref t), y1, y2]) ∧ Ex H2 H') (fun H3 e3 => ⟨⟨none, none, rfl⟩, e3⟩) (fun i σ' H' _ p => ex_t p.2 hc2) (fun i x Tq σ' H' hx p hT => ?_) (fun σ' H' p => ?_)
    · obtain ⟨⟨y1, y2, rfl⟩, e⟩ := p
      obtain ⟨n, hn, rfl⟩ := iv_get hx
      have hb := hcs n (List.mem_of_getElem? hn)
      refine ⟨Tq, [.int (i : Nat), .int n], rfl, .inl (.inl upd_same), rfl, .int (i : Nat), [.int n], rfl, .int n, [], rfl, rfl, ?_⟩
      refine s_when (b := false) (et_is (et_not (et_B (ev_call (ea_cons (ev_var rfl) (ea_cons ev_c (ea_cons ev_c ea_nil))) fun H1 e Q q E => ⟨n, 0, 1000000, rfl, q⟩))) ?_) (fun h => nomatch h) fun _ H3 e3 => ⟨⟨_, _, rfl⟩, e.trans ((Ex.new hT).trans e3)⟩
      rw [decide_eq_true hb.1, decide_eq_true hb.2]
      rfl
    · obtain ⟨⟨y1, y2, rfl⟩, e⟩ := p
      refine s_when (b := false) (et_is (et_test (ev_op (ev_sumT (ev_at (v := .ref c) (ev_var rfl) (ex_t e ht2) rfl) (ex_t e hc2)) ev_c (rv_eq rfl))) ?_) (fun h => nomatch h) fun _ H3 e3 => q H3 (((e1.trans e2).trans e).trans e3)
      exact decide_eq_false fun z => by
        have := V.int.inj z
        omega
/-! ### need_word -/
def spNeedWord (K : PySem.W.Frag) : Sp := fun vs H Q _ => ∃ (n : Int) (wd : Addr) (ws : List Int), vs = [.int n, .ref wd] ∧ SqT K H wd (iv ws) ∧ (∀ p ∈ ws, 0 ≤ p ∧ p < n) ∧ ws.length ≤ 40 ∧ RetV .non H Q
theorem ok_need_word : FnOk P w K mg base CX0 2 T.need_word.f T.need_word.fd P_need_word (spNeedWord K) := by
  have G1 := ok_is_in (P := P) (w := w) (base := base) T
  obtain ⟨t1, h1⟩ := T.c_MOST_ROUNDS
  refine T.need_word.F.ok sc_need_word (fun vs H Q E h => ?_) (fun cdv A outer s H vs Q E hr h => ?_)
  · obtain ⟨n, wd, ws, rfl, _⟩ := h
    rfl
  · obtain ⟨n, wd, ws, rfl, hw, hok, hl, q⟩ := h
    refine ⟨_, pss_cons (ps_if (pw_or (pt_not (pt_val (pe_callB call_isi (by rfl) T.n_isinstance PyProof.Rows.boot_isinstance (pa_cons (pv 1) (pa_cons (pe_bltn (v := .ty "tuple") (by rfl) T.n_tuple PyProof.Rows.boot_tuple rfl) pa_nil)))))
        (pw_or1 (pt_cmpR op_gt (pe_callB call_lenS (by rfl) T.n_len PySem.boot_len (pa_cons (pv 1) pa_nil)) (pe_glob (v := .int 40) (by rfl) h1 ⟨t1, rfl⟩) (nomark _)))).pt pss_never pss_nil)
      (pss_one (ps_if (pt_cmpR (op_neD hr.units) (pe_lc (own := [("one", 2)]) (g := gName 2) (by rfl) sc_need_word.nd (pi_tup (pv 1)) (blkOk_by (own := [("one", 2)]) (N := N_need_word) (sc := defScope s_need_word) (by decide +kernel))
          (fun _ _ _ _ _ => pg_name (i := 2) sc_need_word.nd rfl (Or.inl rfl)) (fun _ _ _ _ _ => pts_one (pt_not (pt_val (pe_call G1 hr (by rfl) T.is_in.g T.is_in.F.kp (b_is_in T) .nil pass0 (pa_cons (pv 2) (pa_cons pe_int (pa_cons (pe_op op_sub (pv 0) pe_int) pa_nil))))))) (fun _ _ _ _ _ => pv 2)) (pe_lst pa_nil) (nomark _)) pss_never pss_nil)), ?_⟩
    refine q_when (b := false) (et_or (a := false) (b := false) (et_not (a := true) (et_B (ev_isiT (ev_var rfl) hw (by decide +kernel)))) fun _ => et_is (et_test (ev_op (ev_lenT (ev_var rfl) hw) ev_c (rv_I0 (g := fun i j => V.bl (decide (j < i)))))) ?_) (fun h => nomatch h) fun _ H1 e1 => ?_
    · rw [List.length_map]
      exact decide_eq_false (show ¬ _ by omega)
    · refine s_when (b := false) (et_is (et_neNil (ns := ws.filter fun p => !(decide (0 ≤ p) && decide (p ≤ n - 1))) (el_flT (fun p => !(decide (0 ≤ p) && decide (p ≤ n - 1))) (ev_var rfl) (ex_t e1 hw) (by omega) (fun _ => rfl) (fun p hp H2 e2 => ?_) (fun _ => rfl))) ?_) (fun h => nomatch h) fun _ H2 e2 => q H2 (e1.trans e2)
      · exact et_not (et_B (ev_call (ea_cons (ev_var rfl) (ea_cons ev_c (ea_cons (ev_op (ev_var rfl) ev_c (rv_I0 (g := fun i j => V.int (i - j)))) ea_nil))) fun H1 e Q q E => ⟨p, 0, n - 1, rfl, q⟩))
      · have e0 : ws.filter (fun p => !(decide (0 ≤ p) && decide (p ≤ n - 1))) = [] := by
          rw [List.filter_eq_nil_iff]
          intro p hp
          obtain ⟨a1, a2⟩ := hok p hp
          rw [decide_eq_true a1, decide_eq_true (show p ≤ n - 1 by omega)]
          decide
        rw [e0]
        rfl
/-! ### need_coins -/
def spNeedCoins (K : PySem.W.Frag) : Sp := fun vs H Q _ => ∃ (p : V) (c : Addr) (os : List Int), vs = [p, .ref c] ∧ SqT K H c (iv os) ∧ 1 ≤ os.length ∧ os.length ≤ 6 ∧ 1 ≤ os.sum ∧ (p = .non ∨ p = .int (os.length : Int)) ∧ RetV .non H Q
theorem ok_need_coins : FnOk P w K mg base CX0 2 T.need_coins.f T.need_coins.fd P_need_coins (spNeedCoins K) := by
  have G1 := ok_is_whole (P := P) (w := w) (base := base) T
  obtain ⟨t1, h1⟩ := T.c_MOST_PLAYERS
  refine T.need_coins.F.ok sc_need_coins (fun vs H Q E h => ?_) (fun cdv A outer s H vs Q E hr h => ?_)
  · obtain ⟨p, c, os, rfl, _⟩ := h
    rfl
  · obtain ⟨p, c, os, rfl, hc, l1, l6, hs, hp, q⟩ := h
    refine ⟨_, pss_cons (ps_if (pw_or (pt_not (pt_val (pe_callB call_isi (by rfl) T.n_isinstance PyProof.Rows.boot_isinstance (pa_cons (pv 1) (pa_cons (pe_bltn (v := .ty "tuple") (by rfl) T.n_tuple PyProof.Rows.boot_tuple rfl) pa_nil)))))
        (pw_or1 (pt_not (pt_chain op_le op_le pe_int (pe_callB call_lenS (by rfl) T.n_len PySem.boot_len (pa_cons (pv 1) pa_nil)) (pe_glob (v := .int 6) (by rfl) h1 ⟨t1, rfl⟩))))).pt pss_never pss_nil)
      (pss_cons (ps_if (pw_or (pt_cmpR (op_neD hr.units) (pe_lc (own := [("one", 2)]) (g := gName 2) (by rfl) sc_need_coins.nd (pi_tup (pv 1)) (blkOk_by (own := [("one", 2)]) (N := N_need_coins) (sc := defScope s_need_coins) (by decide +kernel))
          (fun _ _ _ _ _ => pg_name (i := 2) sc_need_coins.nd rfl (Or.inl rfl)) (fun _ _ _ _ _ => pts_one (pt_not (pt_val (pe_call G1 hr (by rfl) T.is_whole.g T.is_whole.F.kp (b_is_whole T) .nil pass0 (pa_cons (pv 2) pa_nil))))) (fun _ _ _ _ _ => pv 2)) (pe_lst pa_nil) (nomark _))
        (pw_or1 (pt_cmpR op_lt (pe_callB (cr_sumT rfl) (by rfl) T.n_sum PyProof.Rows.boot_sum (pa_cons (pv 1) pa_nil)) pe_int (nomark _)))).pt pss_never pss_nil)
      (pss_one (ps_if (pw_and (pt_cmpR op_notN (pv 0) pe_non (nomark _)) (pw_and1 (pt_cmpR op_ne (pe_callB call_lenS (by rfl) T.n_len PySem.boot_len (pa_cons (pv 1) pa_nil)) (pv 0) (nomark _)))).pt pss_never pss_nil))), ?_⟩
    refine q_when (b := false) (et_or (a := false) (b := false) (et_not (a := true) (et_B (ev_isiT (ev_var rfl) hc (by decide +kernel)))) fun _ => et_not (a := true) (et_test (ev_lenIn (ev_var rfl) hc (by simpa using l1) (by simpa using l6)))) (fun h => nomatch h) fun _ H1 e1 => ?_
    have hc1 := ex_t e1 hc
    refine q_when (b := false) (et_or (a := false) (b := false) (et_is (et_neNil (ns := os.filter fun _ => !true) (el_flT (fun _ => !true) (ev_var rfl) hc1 (by omega) (fun _ => rfl) (fun p hp H2 e2 => ?_) (fun _ => rfl))) ?_) fun _ => et_is (et_test (ev_op (ev_sumT (ev_var rfl) hc1) ev_c (rv_I0 (g := fun i j => V.bl (decide (i < j)))))) ?_) (fun h => nomatch h) fun _ H2 e2 => ?_
    · exact et_not (et_B (ev_call (ea_cons (ev_var rfl) ea_nil) fun H1 e Q q E => ⟨p, rfl, q⟩))
    · have e0 : os.filter (fun _ => !true) = [] := by
        rw [List.filter_eq_nil_iff]
        intro _ _
        decide
      rw [e0]
      rfl
    · exact decide_eq_false (by omega)
    · have hc2 := ex_t e2 hc1
      refine s_when (b := false) ?_ (fun h => nomatch h) fun _ H3 e3 => q H3 ((e1.trans e2).trans e3)
      rcases hp with rfl | rfl
      · exact et_and (a := false) (b := false) (et_test (ev_op (ev_var rfl) ev_c fun H3 e3 Q q => ⟨rfl, q H3 (Ex.refl H3)⟩)) (fun h => nomatch h)
      · refine et_and (a := true) (b := false) (et_test (ev_op (x := .int (os.length : Int)) (ev_var rfl) ev_c fun H3 e3 Q q => ⟨rfl, q H3 (Ex.refl H3)⟩)) (fun _ => et_is (et_test (ev_op (ev_lenT (ev_var rfl) hc2) (ev_var rfl) (rv_ne rfl))) ?_)
        rw [List.length_map, decide_eq_true rfl]
        rfl
end
end DW
/-! Walks: numbers_in, word_in. -/
namespace DW
open PySem PySem.Spec PyProof.Rows L2 Evl DR DE DM

section
variable {K : PySem.W.Frag} {σ : L2.St} {H H' : Hp} {ta tb te tl : TE} {t : TT} {z v : V} {ns : List Int} {a b : Addr} {D : Ends} {tu tz : TS} {g : TG}
theorem dec_int (x y : Int) : decide (V.int x = V.int y) = decide (x = y) := by
  by_cases h : x = y
  · subst h
    simp
  · rw [decide_eq_false h, decide_eq_false fun e => h (V.int.inj e)]
theorem iv_set (ns : List Int) (j : Nat) (z : Int) : (iv ns).set j (.int z) = iv (ns.set j z) := by
  rw [← List.map_set]
/-- [z] * k -/
theorem el_rep1 {k w : Int} (hv : Ev ta σ H (.int w)) (h : Ev tb σ H (.int k)) (h0 : 0 ≤ k) (h1 : k ≤ 1000) : EvL (tOp rRep (tLst (tCons ta tNil)) tb) σ H (iv (List.replicate k.toNat w)) := fun H0 e Q q =>
  hv H0 e _ fun H1 e1 => ⟨by show 1 ≤ sizeLine; decide, fun p hp => h _ ((e.trans e1).trans (Ex.new hp)) _ fun H2 e2 => by
    have hpe : H2 p = some (.lst [.int w]) := e2 p _ upd_same
    refine ⟨p, k, [.int w], rfl, rfl, hpe, by omega, by omega, ?_, fun p2 hp2 => ?_⟩
    · rw [sizeLine_eq]
      show 1 * k.toNat ≤ _
      omega
    · have ef : (List.replicate k.toNat [V.int w]).flatten = iv (List.replicate k.toNat w) := by
        unfold iv
        rw [List.map_replicate]
        generalize k.toNat = m
        induction m with
        | zero => rfl
        | succ m ih => simp [List.replicate_succ, ih]
      rw [ef]
      exact q p2 _ (fresh_back (e1.trans ((Ex.new hp).trans e2)) hp2) ((e1.trans ((Ex.new hp).trans e2)).trans (Ex.new hp2)) upd_same⟩
/-- xs + ys, both new -/
theorem el_catL {xs ys : List V} (ha : EvL ta σ H xs) (hb : EvL tb σ H ys) (hz : xs.length + ys.length ≤ 100000) : EvL (tOp rCat ta tb) σ H (xs ++ ys) := fun H0 e Q q =>
  ha H0 e _ fun p H1 _ e1 h1 => hb H1 (e.trans e1) _ fun p2 H2 _ e2 h2 => ⟨p, p2, xs, ys, rfl, rfl, e2 p _ h1, h2, sz_of hz, fun p3 h3 => q p3 _ (fresh_back (e1.trans e2) h3) ((e1.trans e2).trans (Ex.new h3)) upd_same⟩
/-- xs[j] += e -/
theorem s_augL {l : Addr} {j d y : Int} {to ti : TE} (ho : Ev to σ H (.ref l)) (hi : Ev ti σ H (.int j)) (hl : H l = some (.lst (iv ns))) (h0 : 0 ≤ j) (hj : ns[j.toNat]? = some y) (he : Ev te σ H (.int d))
    (k : ∀ H1, Ex H H1 → D.nx σ (upd H1 l (.lst (iv (ns.set j.toNat (y + d)))))) : tAugS to ti te (rGetL K) (ipI fun i j => i + j) rSetL D σ H :=
  ho H (Ex.refl H) _ fun H1 e1 => hi H1 e1 _ fun H2 e2 => ⟨l, iv ns, j, .int y, rfl, rfl, ex_l (e1.trans e2) (sq_of hl), h0, iv_of hj, he H2 (e1.trans e2) _ fun H3 e3 => ⟨y, d, rfl, rfl, l, iv ns, j, j.toNat, rfl, rfl, ((e1.trans e2).trans e3) l _ hl, by
      have hlt : j.toNat < (iv ns).length := by
        have := (List.getElem?_eq_some_iff.mp hj).1
        simpa using this
      have e := Evl.ixN_nat (n := (iv ns).length) (j := j.toNat) hlt
      simp only [Int.toNat_of_nonneg h0] at e
      exact e, by
      rw [iv_set]
      exact k H3 ((e1.trans e2).trans e3)⟩⟩
theorem q_augL {l : Addr} {j d y : Int} {to ti : TE} (ho : Ev to σ H (.ref l)) (hi : Ev ti σ H (.int j)) (hl : H l = some (.lst (iv ns))) (h0 : 0 ≤ j) (hj : ns[j.toNat]? = some y) (he : Ev te σ H (.int d))
    (k : ∀ H1, Ex H H1 → tz D σ (upd H1 l (.lst (iv (ns.set j.toNat (y + d)))))) : tSeq (tAugS to ti te (rGetL K) (ipI fun i j => i + j) rSetL) tz D σ H := s_augL (D := { D with nx := tz D }) ho hi hl h0 hj he k
theorem take_snoc {ws : List Int} {i : Nat} {p : Int} (h : ws[i]? = some p) : ws.take (i + 1) = ws.take i ++ [p] := by
  rw [List.take_add_one, h]
  rfl
/-- xs[::-1] -/
theorem el_revL {xs : List V} (h : Ev te σ H (.ref a)) (hx : SqL K H a xs) : EvL (tRevL K te) σ H xs.reverse := fun H0 e Q q =>
  h H0 e _ fun H1 e1 => ⟨a, xs, rfl, ex_l (e.trans e1) hx, fun p hp => q p _ (fresh_back e1 hp) (e1.trans (Ex.new hp)) upd_same⟩
/-- sorted(ds) != [0] * (n - 1) + [c] -/
theorem et_sortedNe {ds : List Int} {c : Int} (ha : Ev ta σ H (.ref a)) (hx : SqL K H a (iv ds)) (hc : 0 < c) (hb : EvL tb σ H (iv (List.replicate (ds.length - 1) 0 ++ [c]))) :
    EvT (tTest (tOp (rNeD K) (tCB (rSortedI K) (tCons ta tNil)) tb)) σ H (!(unitAt c ds).isSome) := fun H0 e Q q =>
  ha H0 e _ fun H1 e1 => ⟨a, ds, rfl, ex_l (e.trans e1) hx, fun ss p hp hs hn => hb _ ((e.trans e1).trans (Ex.new hn)) _ fun p2 H2 _ e2 h2 => by
    have h1 : H2 p = some (.lst (iv ss)) := e2 p _ upd_same
    refine ⟨_, _, dp_lst (sq_of h1), dp_lst (sq_of h2), lst_shaped _, lst_shaped _, _, rfl, ?_⟩
    have eb : PyData.eqv (.list (ss.map PyData.int)) (.list ((List.replicate (ds.length - 1) 0 ++ [c]).map PyData.int)) = (unitAt c ds).isSome := by
      rw [eqv_lst]
      have iff := sorted_unit hc hp hs
      cases hu : unitAt c ds with
      | none =>
        exact decide_eq_false fun z => by
          obtain ⟨j, hj⟩ := iff.mp z
          rw [hu] at hj
          cases hj
      | some j => exact decide_eq_true (iff.mpr ⟨j, hu⟩)
    rw [eb]
    exact q H2 (e1.trans ((Ex.new hn).trans e2))⟩
/-- ds.index(c) -/
theorem ev_indexU {ds : List Int} {c : Int} {j : Nat} (ha : Ev ta σ H (.ref a)) (hx : SqL K H a (iv ds)) (he : Ev te σ H (.int c)) (hc : c ≠ 0) (hu : unitAt c ds = some j) : Ev (tBM K "list" (rIndex K) ta (tCons te tNil)) σ H (.int (j : Int)) := fun H0 e Q q =>
  ha H0 e _ fun H1 e1 => ⟨.inl ⟨rfl, _, ex_l (e.trans e1) hx⟩, he H1 (e.trans e1) _ fun H2 e2 => by
    obtain ⟨g1, g2⟩ := unitAt_get hc hu
    refine ⟨a, iv ds, .int c, j, .int c, rfl, rfl, ex_l ((e.trans e1).trans e2) hx, rfl, ?_, iv_of g1, ?_, fun m z' hm hz => ?_, q H2 (e1.trans e2)⟩
    · rw [List.all_eq_true]
      intro x hx
      obtain ⟨n, _, rfl⟩ := List.mem_map.mp hx
      rfl
    · show (c == c) = true
      exact beq_self_eq_true c
    · obtain ⟨n, hn, rfl⟩ := iv_get hz
      have n0 := g2 m (by omega) n hn
      subst n0
      show ((0 : Int) == c) = false
      exact beq_eq_false_iff_ne.mpr (Ne.symm hc)⟩
end

section
variable {P : Program} {w : World} {K : PySem.W.Frag} {mg : Str → Option Value} {base : Heap} (T : Txt K mg)
/-! ### numbers_in -/
def spNumbersIn (K : PySem.W.Frag) : Sp := fun vs H Q _ => ∃ (f n : Int) (wd : Addr) (ws : List Int), vs = [.int f, .int n, .ref wd] ∧ 2 ≤ f ∧ f ≤ 9 ∧ 0 ≤ n ∧ n ≤ 6 ∧ SqT K H wd (iv ws) ∧ WordOk n.toNat ws ∧ RetL (iv (nums f n.toNat ws)) H Q
theorem ok_numbers_in : FnOk P w K mg base CX0 1 T.numbers_in.f T.numbers_in.fd P_numbers_in (spNumbersIn K) := by
  refine T.numbers_in.F.ok sc_numbers_in (fun vs H Q E h => ?_) (fun cdv A outer s H vs Q E hr h => ?_)
  · obtain ⟨f, n, wd, ws, rfl, _⟩ := h
    rfl
  · obtain ⟨f, n, wd, ws, rfl, f2, f9, n0, n6, hw, hok, q⟩ := h
    refine ⟨_, pss_cons (ps_set (i := 3) sc_numbers_in.nd rfl (.inl rfl) (pe_op op_rep (pe_lst (pa_cons pe_int pa_nil)) (pv 1)))
      (pss_cons (ps_for PassesOwn.never rfl (pi_tup (pv 2)) (pg_name (i := 4) sc_numbers_in.nd rfl (.inl rfl))
        (pss_cons (ps_setLc (i := 3) (own := [("one", 5)]) (g := gName 5) (by rfl) sc_numbers_in.nd rfl rfl (sw_true rfl rfl rfl (by decide +kernel)) (pi_list (pv 3)) (blkOk_by (own := [("one", 5)]) (N := N_numbers_in) (sc := defScope s_numbers_in) (by decide +kernel))
          (fun _ _ _ _ _ => pg_name (i := 5) sc_numbers_in.nd rfl (Or.inl rfl)) (fun _ _ _ _ _ => pts_nil) (fun _ _ _ _ _ => pe_op op_mul (pv 0) (pv 5)))
        (pss_one (ps_augS (pv 3) (pv 4) get_list (pe_op op_sub (pv 0) pe_int) ip_add set_list))))
      (pss_one (ps_ret (pv 3)))), ?_⟩
    refine q_asgL (el_rep1 ev_c (ev_var rfl) n0 (by omega)) fun p0 H1 hp0 e1 h1 => ?_
    refine q_forT (ev_var rfl) (ex_t e1 hw) (fun i σ' H' => ∃ p y, σ' = [some (.int f), some (.int n), some (.ref wd), some (.ref p), y, none] ∧ Ex H H' ∧ H p = none ∧ H' p = some (.lst (iv (nums f n.toNat (ws.take i)))))
      (fun H2 e2 => ⟨p0, none, rfl, e1.trans e2, hp0, e2 p0 _ h1⟩) (fun i σ' H' _ p => ?_) (fun i x σ' H' hx p => ?_) (fun σ' H' p => ?_)
    · obtain ⟨p, y, rfl, e, hp, h⟩ := p
      exact ex_t e hw
    · obtain ⟨p, y, rfl, e, hp, h⟩ := p
      obtain ⟨pl, hpl, rfl⟩ := iv_get hx
      have hb := hok pl (List.mem_of_getElem? hpl)
      have en : nums f n.toNat (ws.take (i + 1)) = stepN f (nums f n.toNat (ws.take i)) pl.toNat := by
        rw [take_snoc hpl]
        exact nums_snoc ..
      have hlen : (nums f n.toNat (ws.take i)).length = n.toNat := nums_length ..
      refine q_asgL (el_mpL (f * ·) (ev_var rfl) (sq_of h) (by omega) (fun _ => rfl) fun k hk H2 e2 => ev_op (ev_var rfl) (ev_var rfl) (rv_I (g := fun i j => V.int (i * j)) (C := CMul) (.inl ⟨by omega, by omega⟩))) fun p2 H2 hp2 e2 h2 => ?_
      have hlt : pl.toNat < ((nums f n.toNat (ws.take i)).map (f * ·)).length := by
        rw [List.length_map, hlen]
        omega
      refine s_augL (d := f - 1) (ev_var rfl) (ev_var (v := .int pl) rfl) h2 hb.1 (List.getElem?_eq_getElem hlt) (ev_op (ev_var rfl) ev_c (rv_I0 (g := fun i j => V.int (i - j)))) fun H3 e3 => ?_
      refine ⟨p2, some (.int pl), rfl, Ex.mut ((e.trans e2).trans e3) (fresh_back e hp2), fresh_back e hp2, ?_⟩
      rw [en, ← stepN_set f _ pl.toNat _ (List.getElem?_eq_getElem hlt)]
      exact upd_same
    · obtain ⟨p, y, rfl, e, hp, h⟩ := p
      rw [List.length_map, List.take_length] at h
      exact s_ret (ev_var rfl) fun H2 e2 => q p H2 hp (e.trans e2) (e2 p _ h)
end
end DW
/-! Walks: word_in. -/
namespace DW
open PySem PySem.Spec PyProof.Rows L2 Evl DR DE DM

section
variable {P : Program} {w : World} {K : PySem.W.Frag} {mg : Str → Option Value} {base : Heap} (T : Txt K mg)
theorem op_rep0 {X : Cx} : OpR X (binaryOp .Mult) rRep := op_rep
/-! ### word_in -/
def spWordIn (K : PySem.W.Frag) : Sp := fun vs H Q _ => ∃ (f m : Int) (a : Addr) (ns : List Int), vs = [.int f, .ref a, .int m] ∧ 2 ≤ f ∧ f ≤ 9 ∧ SqL K H a (iv ns) ∧ 1 ≤ ns.length ∧ ns.length ≤ 6 ∧ 0 ≤ m ∧ m ≤ 40 ∧ RetO (wordIn f m.toNat ns) H Q
theorem ok_word_in : FnOk P w K mg base CX0 1 T.word_in.f T.word_in.fd P_word_in (spWordIn K) := by
  refine T.word_in.F.ok sc_word_in (fun vs H Q E h => ?_) (fun cdv A outer s H vs Q E hr h => ?_)
  · obtain ⟨f, m, a, ns, rfl, _⟩ := h
    rfl
  · obtain ⟨f, m, a, ns, rfl, f2, f9, hns, l1, l6, m0, m4, q⟩ := h
    refine ⟨_, pss_cons (ps_par (i := 3) (j := 4) rfl sc_word_in.nd rfl rfl (by decide) rfl rfl (pa_cons (pe_lst pa_nil) (pa_cons (pe_callTy call_listS (by rfl) T.n_list PyProof.Rows.boot_list (pa_cons (pv 1) pa_nil)) pa_nil)) (by rfl))
      (pss_cons (ps_for PassesOwn.never rfl (pi_range1 (by rfl) T.n_range (pa_cons (pv 2) pa_nil)) (pg_name (i := 5) sc_word_in.nd rfl (.inl rfl))
        (pss_cons (ps_setLc (i := 6) (own := [("one", 7)]) (g := gName 7) (by rfl) sc_word_in.nd rfl rfl (sw_true rfl rfl rfl (by decide +kernel)) (pi_list (pv 4)) (blkOk_by (own := [("one", 7)]) (N := N_word_in) (sc := defScope s_word_in) (by decide +kernel))
          (fun _ _ _ _ _ => pg_name (i := 7) sc_word_in.nd rfl (Or.inl rfl)) (fun _ _ _ _ _ => pts_nil) (fun _ _ _ _ _ => pe_op op_mod (pv 7) (pv 0)))
        (pss_cons (ps_if (pt_cmpR (op_neD hr.units) (pe_callB cr_sortedI (by rfl) T.n_sorted PyProof.Rows.boot_sorted (pa_cons (pv 6) pa_nil))
            (pe_op op_cat (pe_op op_rep0 (pe_lst (pa_cons pe_int pa_nil)) (pe_op op_sub (pe_callB call_lenS (by rfl) T.n_len PySem.boot_len (pa_cons (pv 4) pa_nil)) pe_int)) (pe_lst (pa_cons (pe_op op_sub (pv 0) pe_int) pa_nil))) (nomark _)) (pss_one (ps_ret pe_non)) pss_nil)
        (pss_cons (ps_expr (pe_bm PySem.F.plainAttrs_list PySem.F.slot_list_append PySem.F.type_list_append mt_append (pv 3) (pa_cons (pe_bm PySem.F.plainAttrs_list PySem.F.slot_list_index PySem.F.type_list_index mt_index (pv 6) (pa_cons (pe_op op_sub (pv 0) pe_int) pa_nil)) pa_nil)))
        (pss_one (ps_setLc (i := 4) (own := [("one", 7)]) (g := gName 7) (by rfl) sc_word_in.nd rfl rfl (sw_true rfl rfl rfl (by decide +kernel)) (pi_list (pv 4)) (blkOk_by (own := [("one", 7)]) (N := N_word_in) (sc := defScope s_word_in) (by decide +kernel))
          (fun _ _ _ _ _ => pg_name (i := 7) sc_word_in.nd rfl (Or.inl rfl)) (fun _ _ _ _ _ => pts_nil) (fun _ _ _ _ _ => pe_op op_fdiv (pv 7) (pv 0))))))))
      (pss_one (ps_ret (pe_ifExp (pt_cmpR (op_eqD hr.units) (pe_lc (own := [("one", 7)]) (g := gName 7) (by rfl) sc_word_in.nd (pi_list (pv 4)) (blkOk_by (own := [("one", 7)]) (N := N_word_in) (sc := defScope s_word_in) (by decide +kernel))
          (fun _ _ _ _ _ => pg_name (i := 7) sc_word_in.nd rfl (Or.inl rfl)) (fun _ _ _ _ _ => pts_one (pt_cmpR op_ne (pv 7) pe_int (nomark _))) (fun _ _ _ _ _ => pv 7)) (pe_lst pa_nil) (nomark _))
        (pe_callTy call_tupOf (by rfl) T.n_tuple PyProof.Rows.boot_tuple (pa_cons (pe_revL (pv 3)) pa_nil)) pe_non)))), ?_⟩
    -- found, left = [], list(numbers)
    refine ⟨by decide, fun p1 hp1 => ?_⟩
    have ea : Ex H (upd H p1 (.lst [])) := Ex.new hp1
    refine el_list (K := K) (xs := iv ns) (ev_var rfl) (ex_l ea hns) _ (Ex.refl _) _ fun p2 H2 hp2 eb h2 => ?_
    have e0 : Ex H H2 := ea.trans eb
    refine ⟨_, _, rfl, ?_⟩
    -- the loop
    refine q_forR1 (n := m) (ea_cons (ev_var rfl) ea_nil) ⟨m0, by omega⟩ (fun i σ' H' => ∃ (pf pl : Addr) (y5 y6 : Option V) (fo lf : List Int), σ' = [some (.int f), some (.ref a), some (.int m), some (.ref pf), some (.ref pl), y5, y6, none] ∧ Ex H H' ∧ H pf = none ∧
        H' pf = some (.lst (iv fo)) ∧ H' pl = some (.lst (iv lf)) ∧ pl ≠ pf ∧ fo.length = i ∧ lf.length = ns.length ∧ i ≤ m.toNat ∧ wordIn f m.toNat ns = (wordIn f (m.toNat - i) lf).map (· ++ fo.reverse))
      (fun H3 e3 => ⟨p1, p2, none, none, [], ns, rfl, e0.trans e3, hp1, e3 _ _ (eb _ _ upd_same), e3 _ _ h2, Ne.symm (ne_of_none upd_same hp2), rfl, rfl, Nat.zero_le _, ?_⟩) (fun i σ' H' hi p => ?_) (fun σ' H' p => ?_)
    · simp
    · obtain ⟨pf, pl, y5, y6, fo, lf, rfl, e, hpf, hf, hl, hne, lfo, llf, him, hword⟩ := p
      refine q_asgL (el_mpL (· % f) (ev_var rfl) (sq_of hl) (by omega) (fun _ => rfl) fun k hk H3 e3 => ev_op (ev_var rfl) (ev_var rfl) (rv_I (g := fun i j => V.int (i % j)) (C := fun _ j => 0 < j) (by omega))) fun p3 H3 hp3 e3 h3 => ?_
      have em : m.toNat - i = (m.toNat - (i + 1)) + 1 := by omega
      have hl3 := e3 _ _ hl
      refine q_when (b := !(unitAt (f - 1) (lf.map (· % f))).isSome) (et_sortedNe (ev_var rfl) (sq_of h3) (by omega) ?_) (fun hb H4 e4 => ?_) (fun hb H4 e4 => ?_)
      · have el : iv (List.replicate ((lf.map (· % f)).length - 1) 0 ++ [f - 1]) = iv (List.replicate ((((iv lf).length : Nat) : Int) - 1).toNat 0) ++ [V.int (f - 1)] := by
          unfold iv
          rw [List.map_append, List.length_map, List.length_map]
          have : (((lf.length : Nat) : Int) - 1).toNat = lf.length - 1 := by omega
          rw [this]
          rfl
        rw [el]
        exact el_catL (el_rep1 ev_c (ev_op (ev_len (ev_var rfl) (sq_of hl3)) ev_c (rv_I0 (g := fun i j => V.int (i - j)))) (by simp; omega) (by simp; omega)) (el_lst (ea_cons (ev_op (ev_var rfl) ev_c (rv_I0 (g := fun i j => V.int (i - j)))) ea_nil) (by simp)) (by simp; omega)
      · -- None
        have hn : wordIn f m.toNat ns = none := by
          rw [hword, em]
          unfold wordIn
          cases hu : unitAt (f - 1) (lf.map (· % f)) with
          | none => rfl
          | some j => rw [hu] at hb; cases hb
        exact s_ret ev_c fun H5 e5 => q.1 hn H5 (((e.trans e3).trans e4).trans e5)
      · obtain ⟨j, hu⟩ : ∃ j, unitAt (f - 1) (lf.map (· % f)) = some j := by
          cases hu : unitAt (f - 1) (lf.map (· % f)) with
          | none => rw [hu] at hb; cases hb
          | some j => exact ⟨j, rfl⟩
        have hf4 := e4 _ _ (e3 _ _ hf)
        refine q_app hf4 (ev_var rfl) (ev_indexU (ev_var rfl) (sq_of (e4 _ _ h3)) (ev_op (ev_var rfl) ev_c (rv_I0 (g := fun i j => V.int (i - j)))) (by omega) hu) (by simp; omega) fun H5 e5 => ?_
        have hl5 : (upd H5 pf (.lst (iv fo ++ [.int (j : Int)]))) pl = some (.lst (iv lf)) := by
          rw [upd_ne hne]
          exact e5 _ _ (e4 _ _ hl3)
        refine s_asgL (el_mpL (· / f) (ev_var rfl) (sq_of hl5) (by omega) (fun _ => rfl) fun k hk H6 e6 => ev_op (ev_var rfl) (ev_var rfl) (rv_I (g := fun i j => V.int (i / j)) (C := CDiv) ⟨by omega, by omega⟩)) fun p6 H6 hp6 e6 h6 => ?_
        have eup : Ex H (upd H5 pf (.lst (iv fo ++ [.int (j : Int)]))) := Ex.mut (((e.trans e3).trans e4).trans e5) hpf
        refine ⟨pf, p6, some (.int (i : Int)), some (.ref p3), fo ++ [(j : Int)], lf.map (· / f), rfl, eup.trans e6, hpf, ?_, h6, Ne.symm (ne_of_none (o := .lst (iv fo ++ [.int (j : Int)])) upd_same hp6), ?_, ?_, by omega, ?_⟩
        · have := e6 pf _ upd_same
          rw [this]
          unfold iv
          rw [List.map_append]
          rfl
        · rw [List.length_append, lfo]
          rfl
        · rw [List.length_map, llf]
        · rw [hword, em]
          have ew : wordIn f ((m.toNat - (i + 1)) + 1) lf = (wordIn f (m.toNat - (i + 1)) (lf.map (· / f))).map (· ++ [(j : Int)]) := by
            conv => lhs; unfold wordIn
            rw [hu]
          rw [ew, Option.map_map]
          congr 1
          funext l
          simp
    · obtain ⟨pf, pl, y5, y6, fo, lf, rfl, e, hpf, hf, hl, hne, lfo, llf, him, hword⟩ := p
      rw [Nat.sub_self] at hword
      have ht : EvT (tTest (tOp (rEqD K) (tLc (iList K (tVar 4)) (gName 7) (tTest (tOp rNe (tVar 7) (tC (.int 0)))) (tVar 7) [7]) (tLst tNil))) [some (.int f), some (.ref a), some (.int m), some (.ref pf), some (.ref pl), y5, y6, none] H' (decide (lf.filter (fun x => !decide (x = 0)) = [])) :=
        et_eqNil (el_flL (fun x => !decide (x = 0)) (ev_var rfl) (sq_of hl) (by omega) (fun _ => rfl) (fun n hn H3 e3 => et_is (et_test (ev_op (ev_var rfl) ev_c (rv_ne rfl))) (by rw [dec_int])) (fun _ => rfl))
      refine ht H' (Ex.refl _) _ fun H3 e3 => ?_
      by_cases h0 : lf.filter (fun x => !decide (x = 0)) = []
      · rw [decide_eq_true h0]
        refine iteT ?_
        have hw0 : wordIn f m.toNat ns = some fo.reverse := by
          rw [hword]
          unfold wordIn
          rw [if_pos h0]
          simp
        refine eu_tupN (K := K) (xs := iv fo.reverse) ?_ H3 (Ex.refl _) _ fun p4 H4 hp4 e4 h4 => q.2 _ hw0 p4 H4 (fresh_back (e.trans e3) hp4) ((e.trans e3).trans e4) h4
        have er : iv fo.reverse = (iv fo).reverse := by
          unfold iv
          rw [List.map_reverse]
        rw [er]
        exact el_revL (ev_var rfl) (sq_of (e3 _ _ hf))
      · rw [decide_eq_false h0]
        refine iteF ?_
        have hw0 : wordIn f m.toNat ns = none := by
          rw [hword]
          unfold wordIn
          rw [if_neg h0]
          rfl
        exact q.1 hw0 H3 (e.trans e3)
end
end DW
/-! Walks: after_in, after_word, start_for. -/
namespace DW
open PySem PySem.Spec PyProof.Rows L2 Evl DR DE DM

theorem pow_small {f : Int} (f2 : 2 ≤ f) (f9 : f ≤ 9) {m : Nat} (hm : m ≤ 40) : 1 ≤ f ^ m ∧ (f ^ m).natAbs < 2 ^ 128 := by
  have h1 := pow_pos' (show 1 ≤ f by omega) m
  have h2 := pow_le_pow9 f2 f9 m
  have h3 := pow9_le hm
  have h4 : (9 : Int) ^ 40 < 2 ^ 128 := by decide +kernel
  refine ⟨h1, ?_⟩
  have h5 : ((f ^ m).natAbs : Int) < ((2 ^ 128 : Nat) : Int) := by
    rw [Int.natAbs_of_nonneg (by omega)]
    have : ((2 ^ 128 : Nat) : Int) = (2 : Int) ^ 128 := by decide +kernel
    omega
  exact_mod_cast h5

section
variable {K : PySem.W.Frag} {σ : L2.St} {H H' : Hp} {ta tb te tl : TE} {t : TT} {z v : V} {ns : List Int} {a b : Addr} {D : Ends} {tu tz : TS} {g : TG}
end

section
variable {P : Program} {w : World} {K : PySem.W.Frag} {mg : Str → Option Value} {base : Heap} (T : Txt K mg)
/-! ### after_in -/
def spAfterIn (K : PySem.W.Frag) : Sp := fun vs H Q _ => ∃ (f : Int) (c wd : Addr) (cs ws : List Int), vs = [.int f, .ref c, .ref wd] ∧ TabOk f cs ∧ SqT K H c (iv cs) ∧ SqT K H wd (iv ws) ∧ WordOk cs.length ws ∧ ws.length ≤ 40 ∧ RetU (iv (after f cs ws)) H Q
theorem ok_after_in : FnOk P w K mg base CX0 2 T.after_in.f T.after_in.fd P_after_in (spAfterIn K) := by
  have G1 := ok_power (P := P) (w := w) (base := base) T
  have G2 := ok_numbers_in (P := P) (w := w) (base := base) T
  refine T.after_in.F.ok sc_after_in (fun vs H Q E h => ?_) (fun cdv A outer s H vs Q E hr h => ?_)
  · obtain ⟨f, c, wd, cs, ws, rfl, _⟩ := h
    rfl
  · obtain ⟨f, c, wd, cs, ws, rfl, ⟨f2, f9, l1, l6, hcs, hsum⟩, hc, hw, hok, hl, q⟩ := h
    have hs6 := sum_le (b := 1000000) fun x hx => (hcs x hx).2
    refine ⟨_, pss_cons (ps_asg (pe_tup (pa_cons (pe_call G1 hr (by rfl) T.power.g T.power.F.kp (b_power T) .nil pass0 (pa_cons (pv 0) (pa_cons (pe_callB call_lenS (by rfl) T.n_len PySem.boot_len (pa_cons (pv 2) pa_nil)) pa_nil))) (pa_cons (pe_callB (cr_sumT rfl) (by rfl) T.n_sum PyProof.Rows.boot_sum (pa_cons (pv 1) pa_nil)) pa_nil)))
        (pg_tup rfl (pgs_cons (pg_name (i := 3) sc_after_in.nd rfl (.inr rfl)) (pgs_cons (pg_name (i := 4) sc_after_in.nd rfl (.inr rfl)) pgs_nil))))
      (pss_one (ps_ret (pe_callTy call_tupOf (by rfl) T.n_tuple PyProof.Rows.boot_tuple (pa_cons (pe_lc (own := [("one", 5), ("number", 6)]) (g := gTup K 2 (gCons (gName 5) (gCons (gName 6) gNil))) (by rfl) sc_after_in.nd
          (pi_zipTL (by rfl) T.n_zip (pa_cons (pv 1) (pa_cons (pe_call G2 hr (by rfl) T.numbers_in.g T.numbers_in.F.kp (b_numbers_in T) .nil pass0 (pa_cons (pv 0) (pa_cons (pe_callB call_lenS (by rfl) T.n_len PySem.boot_len (pa_cons (pv 1) pa_nil)) (pa_cons (pv 2) pa_nil)))) pa_nil)))
          (blkOk_by (own := [("one", 5), ("number", 6)]) (N := N_after_in) (sc := defScope s_after_in) (by decide +kernel))
          (fun _ _ _ _ _ => pg_tup rfl (pgs_cons (pg_name (i := 5) sc_after_in.nd rfl (Or.inl rfl)) (pgs_cons (pg_name (i := 6) sc_after_in.nd rfl (Or.inl rfl)) pgs_nil))) (fun _ _ _ _ _ => pts_nil) (fun _ _ _ _ _ => pe_op op_sub (pe_op op_mul (pv 3) (pv 5)) (pe_op op_mul (pv 4) (pv 6)))) pa_nil)))), ?_⟩
    refine q_tup2 (x := .int (f ^ ws.length)) (y := .int cs.sum) (ev_call (ea_cons (ev_var rfl) (ea_cons (ev_lenT (ev_var rfl) hw) ea_nil)) fun H1 e Q q E => ⟨f, (ws.length : Int), by rw [List.length_map]; rfl, f2, f9, by omega, by omega, q⟩) (ev_sumT (ev_var rfl) hc) fun H1 e1 => ?_
    refine end_U (eu_tupN (xs := iv (after f cs ws)) (el_zipTL (fun x k => f ^ ws.length * x - cs.sum * k) (ys := nums f cs.length ws) (ev_var rfl) (ex_t e1 hc) ?_ (nums_length ..).symm (by omega) (fun _ _ => rfl) fun i x y H2 e2 hx hy => ?_)) rfl (RetU.mono q e1)
    · refine el_call (ea_cons (ev_var rfl) (ea_cons (ev_lenT (ev_var rfl) (ex_t e1 hc)) (ea_cons (ev_var rfl) ea_nil))) fun H2 e2 Q q E => ⟨f, (cs.length : Int), wd, ws, by rw [List.length_map]; rfl, f2, f9, by omega, by omega, ex_t (e1.trans e2) hw, by rw [Int.toNat_natCast]; exact hok, ?_⟩
      rw [Int.toNat_natCast]
      exact q
    · have hx' := hcs x (List.mem_of_getElem? hx)
      exact ev_op (ev_op (ev_var rfl) (ev_var rfl) (rv_I (g := fun i j => V.int (i * j)) (C := CMul) (.inr ⟨by omega, by omega⟩))) (ev_op (ev_var rfl) (ev_var rfl) (rv_I (g := fun i j => V.int (i * j)) (C := CMul) (.inl ⟨by omega, by omega⟩))) (rv_I0 (g := fun i j => V.int (i - j)))
/-! ### after_word -/
def spAfterWord (K : PySem.W.Frag) : Sp := fun vs H Q _ => ∃ (t wd : Addr) (f : Int) (cs ws : List Int), vs = [.ref t, .ref wd] ∧ TabAt K H t f cs ∧ TabOk f cs ∧ SqT K H wd (iv ws) ∧ WordOk cs.length ws ∧ ws.length ≤ 40 ∧ RetU (iv (after f cs ws)) H Q
theorem ok_after_word : FnOk P w K mg base CX0 4 T.after_word.f T.after_word.fd P_after_word (spAfterWord K) := by
  have G1 := ok_need_table (P := P) (w := w) (base := base) T
  have G2 := ok_need_word (P := P) (w := w) (base := base) T
  have G3 := ok_after_in (P := P) (w := w) (base := base) T
  refine T.after_word.F.ok sc_after_word (fun vs H Q E h => ?_) (fun cdv A outer s H vs Q E hr h => ?_)
  · obtain ⟨t, wd, f, cs, ws, rfl, _⟩ := h
    rfl
  · obtain ⟨t, wd, f, cs, ws, rfl, hT, hok, hw, hwd, hl, q⟩ := h
    obtain ⟨c, ht, hc⟩ := id hT
    refine ⟨_, pss_cons (ps_expr (pe_call G1 hr (by rfl) T.need_table.g T.need_table.F.kp (b_need_table T) .nil pass0 (pa_cons (pv 0) pa_nil)))
      (pss_cons (ps_expr (pe_call G2 (hr.mono (by decide)) (by rfl) T.need_word.g T.need_word.F.kp (b_need_word T) .nil pass0 (pa_cons (pe_callB call_lenS (by rfl) T.n_len PySem.boot_len (pa_cons (pe_ix ix_tup (pv 0) pe_int (fun _ _ => rfl)) pa_nil)) (pa_cons (pv 1) pa_nil))))
      (pss_one (ps_ret (pe_call G3 (hr.mono (by decide)) (by rfl) T.after_in.g T.after_in.F.kp (b_after_in T) .nil pass0 (pa_cons (pe_ix ix_tup (pv 0) pe_int (fun _ _ => rfl)) (pa_cons (pe_ix ix_tup (pv 0) pe_int (fun _ _ => rfl)) (pa_cons (pv 1) pa_nil))))))), ?_⟩
    refine q_drop (v := .non) (ev_call (ea_cons (ev_var rfl) ea_nil) fun H1 e Q q E => ⟨t, f, cs, rfl, hT.mono e, hok, q⟩) fun H1 e1 => ?_
    have ht1 := ex_t e1 ht
    have hc1 := ex_t e1 hc
    refine q_drop (v := .non) (ev_call (ea_cons (ev_lenT (ev_at (v := .ref c) (ev_var rfl) ht1 rfl) hc1) (ea_cons (ev_var rfl) ea_nil)) fun H2 e Q q E => ⟨(cs.length : Int), wd, ws, by rw [List.length_map]; rfl, ex_t (e1.trans e) hw, fun p hp => ⟨(hwd p hp).1, (hwd p hp).2⟩, hl, q⟩) fun H2 e2 => ?_
    have ht2 := ex_t e2 ht1
    have hc2 := ex_t e2 hc1
    exact end_U (eu_call (ea_cons (ev_at (v := .int f) (ev_var rfl) ht2 rfl) (ea_cons (ev_at (v := .ref c) (ev_var rfl) ht2 rfl) (ea_cons (ev_var rfl) ea_nil))) fun H3 e Q q E => ⟨f, c, wd, cs, ws, rfl, hok, ex_t e hc2, ex_t ((e1.trans e2).trans e) hw, hwd, hl, q⟩) rfl (RetU.mono q (e1.trans e2))
/-! ### start_for -/
def spStartFor (K : PySem.W.Frag) : Sp := fun vs H Q _ => ∃ (f : Int) (c wd : Addr) (os ws : List Int), vs = [.int f, .ref c, .ref wd] ∧ 2 ≤ f ∧ f ≤ 9 ∧ SqT K H c (iv os) ∧ 1 ≤ os.length ∧ os.length ≤ 6 ∧ 1 ≤ os.sum ∧ os.sum < 2 ^ 64 ∧ SqT K H wd (iv ws) ∧ WordOk os.length ws ∧ ws.length ≤ 40 ∧ RetO (startC f os ws) H Q
theorem ok_start_for : FnOk P w K mg base CX0 4 T.start_for.f T.start_for.fd P_start_for (spStartFor K) := by
  have G1 := ok_need_factor (P := P) (w := w) (base := base) T
  have G2 := ok_need_coins (P := P) (w := w) (base := base) T
  have G3 := ok_need_word (P := P) (w := w) (base := base) T
  have G4 := ok_power (P := P) (w := w) (base := base) T
  have G5 := ok_numbers_in (P := P) (w := w) (base := base) T
  refine T.start_for.F.ok sc_start_for (fun vs H Q E h => ?_) (fun cdv A outer s H vs Q E hr h => ?_)
  · obtain ⟨f, c, wd, os, ws, rfl, _⟩ := h
    rfl
  · obtain ⟨f, c, wd, os, ws, rfl, f2, f9, hc, l1, l6, s1, s64, hw, hwd, hl, q⟩ := h
    obtain ⟨g1, g2⟩ := pow_small f2 f9 hl
    refine ⟨_, pss_cons (ps_expr (pe_call G1 hr (by rfl) T.need_factor.g T.need_factor.F.kp (b_need_factor T) .nil pass0 (pa_cons (pv 0) pa_nil)))
      (pss_cons (ps_expr (pe_call G2 (hr.mono (by decide)) (by rfl) T.need_coins.g T.need_coins.F.kp (b_need_coins T) .nil pass0 (pa_cons pe_non (pa_cons (pv 1) pa_nil))))
      (pss_cons (ps_expr (pe_call G3 (hr.mono (by decide)) (by rfl) T.need_word.g T.need_word.F.kp (b_need_word T) .nil pass0 (pa_cons (pe_callB call_lenS (by rfl) T.n_len PySem.boot_len (pa_cons (pv 1) pa_nil)) (pa_cons (pv 2) pa_nil))))
      (pss_cons (ps_asg (pe_tup (pa_cons (pe_call G4 (hr.mono (by decide)) (by rfl) T.power.g T.power.F.kp (b_power T) .nil pass0 (pa_cons (pv 0) (pa_cons (pe_callB call_lenS (by rfl) T.n_len PySem.boot_len (pa_cons (pv 2) pa_nil)) pa_nil))) (pa_cons (pe_callB (cr_sumT rfl) (by rfl) T.n_sum PyProof.Rows.boot_sum (pa_cons (pv 1) pa_nil)) pa_nil)))
        (pg_tup rfl (pgs_cons (pg_name (i := 3) sc_start_for.nd rfl (.inr rfl)) (pgs_cons (pg_name (i := 4) sc_start_for.nd rfl (.inr rfl)) pgs_nil))))
      (pss_cons (ps_setLc (i := 5) (own := [("one", 6), ("number", 7)]) (g := gTup K 2 (gCons (gName 6) (gCons (gName 7) gNil))) (by rfl) sc_start_for.nd rfl rfl (sw_true rfl rfl rfl (by decide +kernel))
          (pi_zipTL (by rfl) T.n_zip (pa_cons (pv 1) (pa_cons (pe_call G5 (hr.mono (by decide)) (by rfl) T.numbers_in.g T.numbers_in.F.kp (b_numbers_in T) .nil pass0 (pa_cons (pv 0) (pa_cons (pe_callB call_lenS (by rfl) T.n_len PySem.boot_len (pa_cons (pv 1) pa_nil)) (pa_cons (pv 2) pa_nil)))) pa_nil)))
          (blkOk_by (own := [("one", 6), ("number", 7)]) (N := N_start_for) (sc := defScope s_start_for) (by decide +kernel))
          (fun _ _ _ _ _ => pg_tup rfl (pgs_cons (pg_name (i := 6) sc_start_for.nd rfl (Or.inl rfl)) (pgs_cons (pg_name (i := 7) sc_start_for.nd rfl (Or.inl rfl)) pgs_nil))) (fun _ _ _ _ _ => pts_nil) (fun _ _ _ _ _ => pe_op op_add (pv 6) (pe_op op_mul (pv 4) (pv 7))))
      (pss_cons (ps_if (pt_cmpR (op_neD hr.units) (pe_lc (own := [("one", 6)]) (g := gName 6) (by rfl) sc_start_for.nd (pi_list (pv 5)) (blkOk_by (own := [("one", 6)]) (N := N_start_for) (sc := defScope s_start_for) (by decide +kernel))
          (fun _ _ _ _ _ => pg_name (i := 6) sc_start_for.nd rfl (Or.inl rfl)) (fun _ _ _ _ _ => pts_one (pt_cmpR op_ne (pe_op op_mod (pv 6) (pv 3)) pe_int (nomark _))) (fun _ _ _ _ _ => pv 6)) (pe_lst pa_nil) (nomark _)) (pss_one (ps_ret pe_non)) pss_nil)
      (pss_one (ps_ret (pe_callTy call_tupOf (by rfl) T.n_tuple PyProof.Rows.boot_tuple (pa_cons (pe_lc (own := [("one", 6)]) (g := gName 6) (by rfl) sc_start_for.nd (pi_list (pv 5)) (blkOk_by (own := [("one", 6)]) (N := N_start_for) (sc := defScope s_start_for) (by decide +kernel))
          (fun _ _ _ _ _ => pg_name (i := 6) sc_start_for.nd rfl (Or.inl rfl)) (fun _ _ _ _ _ => pts_nil) (fun _ _ _ _ _ => pe_op op_fdivW (pv 6) (pv 3))) pa_nil))))))))), ?_⟩
    refine q_drop (v := .non) (ev_call (ea_cons (ev_var rfl) ea_nil) fun H1 e Q q E => ⟨f, rfl, f2, f9, q⟩) fun H1 e1 => ?_
    refine q_drop (v := .non) (ev_call (ea_cons ev_c (ea_cons (ev_var rfl) ea_nil)) fun H2 e Q q E => ⟨.non, c, os, rfl, ex_t (e1.trans e) hc, l1, l6, s1, .inl rfl, q⟩) fun H2 e2 => ?_
    have e12 := e1.trans e2
    refine q_drop (v := .non) (ev_call (ea_cons (ev_lenT (ev_var rfl) (ex_t e12 hc)) (ea_cons (ev_var rfl) ea_nil)) fun H3 e Q q E => ⟨(os.length : Int), wd, ws, by rw [List.length_map]; rfl, ex_t (e12.trans e) hw, fun p hp => ⟨(hwd p hp).1, (hwd p hp).2⟩, hl, q⟩) fun H3 e3 => ?_
    have e13 := e12.trans e3
    refine q_tup2 (x := .int (f ^ ws.length)) (y := .int os.sum) (ev_call (ea_cons (ev_var rfl) (ea_cons (ev_lenT (ev_var rfl) (ex_t e13 hw)) ea_nil)) fun H1 e Q q E => ⟨f, (ws.length : Int), by rw [List.length_map]; rfl, f2, f9, by omega, by omega, q⟩) (ev_sumT (ev_var rfl) (ex_t e13 hc)) fun H4 e4 => ?_
    have e14 := e13.trans e4
    refine q_asgL (xs := iv (sums f os ws)) (el_zipTL (fun x k => x + os.sum * k) (ys := nums f os.length ws) (ev_var rfl) (ex_t e14 hc) ?_ (nums_length ..).symm (by omega) (fun _ _ => rfl) fun i x y H2 e2 hx hy => ?_) fun p5 H5 hp5 e5 h5 => ?_
    · refine el_call (ea_cons (ev_var rfl) (ea_cons (ev_lenT (ev_var rfl) (ex_t e14 hc)) (ea_cons (ev_var rfl) ea_nil))) fun H2 e2 Q q E => ⟨f, (os.length : Int), wd, ws, by rw [List.length_map]; rfl, f2, f9, by omega, by omega, ex_t (e14.trans e2) hw, by rw [Int.toNat_natCast]; exact hwd, ?_⟩
      rw [Int.toNat_natCast]
      exact q
    · exact ev_op (ev_var rfl) (ev_op (ev_var rfl) (ev_var rfl) (rv_I (g := fun i j => V.int (i * j)) (C := CMul) (.inl ⟨by omega, by omega⟩))) (rv_I0 (g := fun i j => V.int (i + j)))
    · have e15 := e14.trans e5
      have hlen := sums_length f os ws
      refine q_when (et_neNil (ns := (sums f os ws).filter fun x => !decide (x % f ^ ws.length = 0)) (el_flL (fun x => !decide (x % f ^ ws.length = 0)) (ev_var rfl) (sq_of h5) (by omega) (fun _ => rfl) (fun n hn H3 e3 => et_is (et_test (ev_op (ev_op (ev_var rfl) (ev_var rfl) (rv_I (g := fun i j => V.int (i % j)) (C := fun _ j => 0 < j) (by omega))) ev_c (rv_ne rfl))) (by rw [dec_int])) (fun _ => rfl))) (fun hb H6 e6 => ?_) fun hb H6 e6 => ?_
      · have hn : startC f os ws = none := by
          unfold startC
          rw [if_neg (by simpa using hb)]
        exact s_ret ev_c fun H7 e7 => q.1 hn H7 ((e15.trans e6).trans e7)
      · have hn : startC f os ws = some ((sums f os ws).map (· / f ^ ws.length)) := by
          unfold startC
          rw [if_pos (by simpa using hb)]
        refine end_U (eu_tupN (el_mpL (· / f ^ ws.length) (ev_var rfl) (sq_of (e6 _ _ h5)) (by omega) (fun _ => rfl) fun k hk H3 e3 => ev_op (ev_var rfl) (ev_var rfl) (rv_I (g := fun i j => V.int (i / j)) (C := CDivW) (wide_div (b := 128) (by omega) g2 (by decide) (by decide))))) rfl (RetU.mono (q.2 _ hn) (e15.trans e6))
end
end DW
/-! Walks: between_in, word_between, fewest_rounds. -/
namespace DW
open PySem PySem.Spec PyProof.Rows L2 Evl DR DE DM

section
variable {P : Program} {w : World} {K : PySem.W.Frag} {mg : Str → Option Value} {base : Heap} (T : Txt K mg)
/-! ### between_in -/
def spBetweenIn (K : PySem.W.Frag) : Sp := fun vs H Q _ => ∃ (t c : Addr) (f m : Int) (cs os : List Int), vs = [.ref t, .ref c, .int m] ∧ TabAt K H t f cs ∧ TabOk f cs ∧ SqT K H c (iv os) ∧ cs.length = os.length ∧ 0 ≤ m ∧ m ≤ 40 ∧ RetO (between f cs os m.toNat) H Q
theorem ok_between_in : FnOk P w K mg base CX0 2 T.between_in.f T.between_in.fd P_between_in (spBetweenIn K) := by
  have G1 := ok_power (P := P) (w := w) (base := base) T
  have G2 := ok_word_in (P := P) (w := w) (base := base) T
  refine T.between_in.F.ok sc_between_in (fun vs H Q E h => ?_) (fun cdv A outer s H vs Q E hr h => ?_)
  · obtain ⟨t, c, f, m, cs, os, rfl, _⟩ := h
    rfl
  · obtain ⟨t, c, f, m, cs, os, rfl, ⟨tc, ht, htc⟩, ⟨f2, f9, l1, l6, hcs, hsum⟩, hc, hll, m0, m4, q⟩ := h
    have hs6 := sum_le (b := 1000000) fun x hx => (hcs x hx).2
    have hm40 : m.toNat ≤ 40 := by omega
    refine ⟨_, pss_cons (ps_asg (pe_tup (pa_cons (pe_callB (cr_sumT rfl) (by rfl) T.n_sum PyProof.Rows.boot_sum (pa_cons (pe_ix ix_tup (pv 0) pe_int (fun _ _ => rfl)) pa_nil)) (pa_cons (pe_call G1 hr (by rfl) T.power.g T.power.F.kp (b_power T) .nil pass0 (pa_cons (pe_ix ix_tup (pv 0) pe_int (fun _ _ => rfl)) (pa_cons (pv 2) pa_nil))) pa_nil)))
        (pg_tup rfl (pgs_cons (pg_name (i := 3) sc_between_in.nd rfl (.inr rfl)) (pgs_cons (pg_name (i := 4) sc_between_in.nd rfl (.inr rfl)) pgs_nil))))
      (pss_cons (ps_if (pt_cmpR op_ne (pe_callB (cr_sumT rfl) (by rfl) T.n_sum PyProof.Rows.boot_sum (pa_cons (pv 1) pa_nil)) (pv 3) (nomark _)) (pss_one (ps_ret pe_non)) pss_nil)
      (pss_cons (ps_setLc (i := 5) (own := [("one", 6), ("other", 7)]) (g := gTup K 2 (gCons (gName 6) (gCons (gName 7) gNil))) (by rfl) sc_between_in.nd rfl rfl (sw_true rfl rfl rfl (by decide +kernel))
          (RZ.pi_zipA (by rfl) T.n_zip (pa_cons (pe_ix ix_tup (pv 0) pe_int (fun _ _ => rfl)) (pa_cons (pv 1) pa_nil)))
          (blkOk_by (own := [("one", 6), ("other", 7)]) (N := N_between_in) (sc := defScope s_between_in) (by decide +kernel))
          (fun _ _ _ _ _ => pg_tup rfl (pgs_cons (pg_name (i := 6) sc_between_in.nd rfl (Or.inl rfl)) (pgs_cons (pg_name (i := 7) sc_between_in.nd rfl (Or.inl rfl)) pgs_nil))) (fun _ _ _ _ _ => pts_nil) (fun _ _ _ _ _ => pe_op op_sub (pe_op op_mul (pv 4) (pv 6)) (pv 7)))
      (pss_cons (ps_if (pt_cmpR (op_neD hr.units) (pe_lc (own := [("gap", 8)]) (g := gName 8) (by rfl) sc_between_in.nd (pi_list (pv 5)) (blkOk_by (own := [("gap", 8)]) (N := N_between_in) (sc := defScope s_between_in) (by decide +kernel))
          (fun _ _ _ _ _ => pg_name (i := 8) sc_between_in.nd rfl (Or.inl rfl)) (fun _ _ _ _ _ => pts_one (pw_or (pt_cmpR op_lt (pv 8) pe_int (nomark _)) (pw_or1 (pt_cmpR op_ne (pe_op op_mod (pv 8) (pv 3)) pe_int (nomark _)))).pt) (fun _ _ _ _ _ => pv 8)) (pe_lst pa_nil) (nomark _)) (pss_one (ps_ret pe_non)) pss_nil)
      (pss_one (ps_ret (pe_call G2 hr (by rfl) T.word_in.g T.word_in.F.kp (b_word_in T) .nil pass0 (pa_cons (pe_ix ix_tup (pv 0) pe_int (fun _ _ => rfl))
        (pa_cons (pe_lc (own := [("gap", 8)]) (g := gName 8) (by rfl) sc_between_in.nd (pi_list (pv 5)) (blkOk_by (own := [("gap", 8)]) (N := N_between_in) (sc := defScope s_between_in) (by decide +kernel))
          (fun _ _ _ _ _ => pg_name (i := 8) sc_between_in.nd rfl (Or.inl rfl)) (fun _ _ _ _ _ => pts_nil) (fun _ _ _ _ _ => pe_op op_fdiv (pv 8) (pv 3))) (pa_cons (pv 2) pa_nil))))))))), ?_⟩
    refine q_tup2 (x := .int cs.sum) (y := .int (f ^ m.toNat)) (ev_sumT (ev_at (v := .ref tc) (ev_var rfl) ht rfl) htc) (ev_call (ea_cons (ev_at (v := .int f) (ev_var rfl) ht rfl) (ea_cons (ev_var rfl) ea_nil)) fun H1 e Q q E => ⟨f, m, rfl, f2, f9, m0, m4, q⟩) fun H1 e1 => ?_
    refine q_when (b := !decide (os.sum = cs.sum)) (et_is (et_test (ev_op (ev_sumT (ev_var rfl) (ex_t e1 hc)) (ev_var rfl) (rv_ne rfl))) (by rw [dec_int])) (fun hb H2 e2 => ?_) fun hb H2 e2 => ?_
    · have hn : between f cs os m.toNat = none := by
        unfold between
        rw [if_neg (by simpa using hb)]
      exact s_ret ev_c fun H7 e7 => q.1 hn H7 ((e1.trans e2).trans e7)
    · have hse : os.sum = cs.sum := by simpa using hb
      have e12 := e1.trans e2
      refine q_asgL (xs := iv (gaps f m.toNat cs os)) (el_zipTT (fun c o => f ^ m.toNat * c - o) (ev_at (v := .ref tc) (ev_var rfl) (ex_t e12 ht) rfl) (ex_t e12 htc) (ev_var rfl) (ex_t e12 hc) hll (by omega) (fun _ _ => rfl) fun i x y H3 e3 hx hy => ?_) fun p5 H5 hp5 e5 h5 => ?_
      · have hx' := hcs x (List.mem_of_getElem? hx)
        exact ev_op (ev_op (ev_var rfl) (ev_var rfl) (rv_I (g := fun i j => V.int (i * j)) (C := CMul) (.inr ⟨by omega, by omega⟩))) (ev_var rfl) (rv_I0 (g := fun i j => V.int (i - j)))
      · have e15 := e12.trans e5
        have hgl := gaps_length f m.toNat cs os hll
        refine q_when (et_neNil (ns := (gaps f m.toNat cs os).filter (badGap cs.sum)) (el_flL (badGap cs.sum) (ev_var rfl) (sq_of h5) (by omega) (fun _ => rfl) (fun n hn H3 e3 => ?_) (fun _ => rfl))) (fun hb H6 e6 => ?_) fun hb H6 e6 => ?_
        · exact et_or (et_test (ev_op (ev_var rfl) ev_c (rv_I0 (g := fun i j => V.bl (decide (i < j)))))) fun _ => et_is (et_test (ev_op (ev_op (ev_var rfl) (ev_var rfl) (rv_I (g := fun i j => V.int (i % j)) (C := fun _ j => 0 < j) (by omega))) ev_c (rv_ne rfl))) (by rw [dec_int])
        · have hn : between f cs os m.toNat = none := by
            unfold between
            rw [if_pos hse, if_neg (by simpa using hb)]
          exact s_ret ev_c fun H7 e7 => q.1 hn H7 ((e15.trans e6).trans e7)
        · have hn : between f cs os m.toNat = wordIn f m.toNat ((gaps f m.toNat cs os).map (· / cs.sum)) := by
            unfold between
            rw [if_pos hse, if_pos (by simpa using hb)]
          have e16 := e15.trans e6
          refine ev_at (v := .int f) (ev_var rfl) (ex_t e16 ht) rfl H6 (Ex.refl _) _ fun H7 e7 => ?_
          refine el_mpL (K := K) (a := p5) (ns := gaps f m.toNat cs os) (· / cs.sum) (ev_var rfl) (sq_of (e7 _ _ (e6 _ _ h5))) (by omega) (fun _ => rfl) (fun k hk H3 e3 => ev_op (ev_var rfl) (ev_var rfl) (rv_I (g := fun i j => V.int (i / j)) (C := CDiv) ⟨by omega, by omega⟩)) H7 (Ex.refl _) _ fun p8 H8 hp8 e8 h8 => ?_
          refine ⟨.int m, rfl, ?_⟩
          refine ⟨f, m, p8, _, rfl, f2, f9, sq_of h8, by rw [List.length_map, hgl]; exact l1, by rw [List.length_map, hgl]; exact l6, m0, m4, ?_⟩
          rw [← hn]
          exact RetO.mono q ((e16.trans e7).trans e8)
/-! ### word_between -/
def spWordBetween (K : PySem.W.Frag) : Sp := fun vs H Q _ => ∃ (t c : Addr) (f m : Int) (cs os : List Int), vs = [.ref t, .ref c, .int m] ∧ TabAt K H t f cs ∧ TabOk f cs ∧ SqT K H c (iv os) ∧ cs.length = os.length ∧ 1 ≤ os.sum ∧ 0 ≤ m ∧ m ≤ 40 ∧ RetO (between f cs os m.toNat) H Q
theorem ok_word_between : FnOk P w K mg base CX0 4 T.word_between.f T.word_between.fd P_word_between (spWordBetween K) := by
  have G1 := ok_need_table (P := P) (w := w) (base := base) T
  have G2 := ok_need_coins (P := P) (w := w) (base := base) T
  have G3 := ok_need_rounds (P := P) (w := w) (base := base) T
  have G4 := ok_between_in (P := P) (w := w) (base := base) T
  refine T.word_between.F.ok sc_word_between (fun vs H Q E h => ?_) (fun cdv A outer s H vs Q E hr h => ?_)
  · obtain ⟨t, c, f, m, cs, os, rfl, _⟩ := h
    rfl
  · obtain ⟨t, c, f, m, cs, os, rfl, hT, hok, hc, hll, s1, m0, m4, q⟩ := h
    obtain ⟨tc, ht, htc⟩ := id hT
    have l1 := hok.2.2.1
    have l6 := hok.2.2.2.1
    refine ⟨_, pss_cons (ps_expr (pe_call G1 hr (by rfl) T.need_table.g T.need_table.F.kp (b_need_table T) .nil pass0 (pa_cons (pv 0) pa_nil)))
      (pss_cons (ps_expr (pe_call G2 (hr.mono (by decide)) (by rfl) T.need_coins.g T.need_coins.F.kp (b_need_coins T) .nil pass0 (pa_cons (pe_callB call_lenS (by rfl) T.n_len PySem.boot_len (pa_cons (pe_ix ix_tup (pv 0) pe_int (fun _ _ => rfl)) pa_nil)) (pa_cons (pv 1) pa_nil))))
      (pss_cons (ps_expr (pe_call G3 (hr.mono (by decide)) (by rfl) T.need_rounds.g T.need_rounds.F.kp (b_need_rounds T) .nil pass0 (pa_cons (pv 2) pa_nil)))
      (pss_one (ps_ret (pe_call G4 (hr.mono (by decide)) (by rfl) T.between_in.g T.between_in.F.kp (b_between_in T) .nil pass0 (pa_cons (pv 0) (pa_cons (pv 1) (pa_cons (pv 2) pa_nil)))))))), ?_⟩
    refine q_drop (v := .non) (ev_call (ea_cons (ev_var rfl) ea_nil) fun H1 e Q q E => ⟨t, f, cs, rfl, hT.mono e, hok, q⟩) fun H1 e1 => ?_
    have ht1 := ex_t e1 ht
    have hc1 := ex_t e1 htc
    refine q_drop (v := .non) (ev_call (ea_cons (ev_lenT (ev_at (v := .ref tc) (ev_var rfl) ht1 rfl) hc1) (ea_cons (ev_var rfl) ea_nil)) fun H2 e Q q E => ⟨.int (cs.length : Int), c, os, by rw [List.length_map]; rfl, ex_t (e1.trans e) hc, by omega, by omega, s1, .inr (by rw [hll]), q⟩) fun H2 e2 => ?_
    refine q_drop (v := .non) (ev_call (ea_cons (ev_var rfl) ea_nil) fun H1 e Q q E => ⟨m, rfl, m0, m4, q⟩) fun H3 e3 => ?_
    have e13 := (e1.trans e2).trans e3
    exact ⟨_, rfl, _, rfl, _, rfl, t, c, f, m, cs, os, rfl, hT.mono e13, hok, ex_t e13 hc, hll, m0, m4, RetO.mono q e13⟩
/-! ### fewest_rounds -/
def spFewest (K : PySem.W.Frag) : Sp := fun vs H Q _ => ∃ (t c : Addr) (f : Int) (cs os : List Int), vs = [.ref t, .ref c] ∧ TabAt K H t f cs ∧ TabOk f cs ∧ SqT K H c (iv os) ∧ cs.length = os.length ∧ 1 ≤ os.sum ∧
  (∀ k : Nat, k ≤ 40 → between f cs os k ≠ none → (∀ j, j < k → between f cs os j = none) → RetV (.int (k : Int)) H Q) ∧ ((∀ j, j ≤ 40 → between f cs os j = none) → RetV .non H Q)
theorem ok_fewest_rounds : FnOk P w K mg base CX0 4 T.fewest_rounds.f T.fewest_rounds.fd P_fewest_rounds (spFewest K) := by
  have G1 := ok_need_table (P := P) (w := w) (base := base) T
  have G2 := ok_need_coins (P := P) (w := w) (base := base) T
  have G4 := ok_between_in (P := P) (w := w) (base := base) T
  obtain ⟨t1, h1⟩ := T.c_MOST_ROUNDS
  refine T.fewest_rounds.F.ok sc_fewest_rounds (fun vs H Q E h => ?_) (fun cdv A outer s H vs Q E hr h => ?_)
  · obtain ⟨t, c, f, cs, os, rfl, _⟩ := h
    rfl
  · obtain ⟨t, c, f, cs, os, rfl, hT, hok, hc, hll, s1, q1, q2⟩ := h
    obtain ⟨tc, ht, htc⟩ := id hT
    have l1 := hok.2.2.1
    have l6 := hok.2.2.2.1
    refine ⟨_, pss_cons (ps_expr (pe_call G1 hr (by rfl) T.need_table.g T.need_table.F.kp (b_need_table T) .nil pass0 (pa_cons (pv 0) pa_nil)))
      (pss_cons (ps_expr (pe_call G2 (hr.mono (by decide)) (by rfl) T.need_coins.g T.need_coins.F.kp (b_need_coins T) .nil pass0 (pa_cons (pe_callB call_lenS (by rfl) T.n_len PySem.boot_len (pa_cons (pe_ix ix_tup (pv 0) pe_int (fun _ _ => rfl)) pa_nil)) (pa_cons (pv 1) pa_nil))))
      (pss_cons (ps_for PassesOwn.never rfl (pi_range1 (by rfl) T.n_range (pa_cons (pe_op op_add (pe_glob (v := .int 40) (by rfl) h1 ⟨t1, rfl⟩) pe_int) pa_nil)) (pg_name (i := 2) sc_fewest_rounds.nd rfl (.inl rfl))
        (pss_one (ps_if (pt_cmpR op_notN (pe_call G4 (hr.mono (by decide)) (by rfl) T.between_in.g T.between_in.F.kp (b_between_in T) .nil pass0 (pa_cons (pv 0) (pa_cons (pv 1) (pa_cons (pv 2) pa_nil)))) pe_non (nomark _)) (pss_one (ps_ret (pv 2))) pss_nil)))
      (pss_one (ps_ret pe_non)))), ?_⟩
    refine q_drop (v := .non) (ev_call (ea_cons (ev_var rfl) ea_nil) fun H1 e Q q E => ⟨t, f, cs, rfl, hT.mono e, hok, q⟩) fun H1 e1 => ?_
    have ht1 := ex_t e1 ht
    have hc1 := ex_t e1 htc
    refine q_drop (v := .non) (ev_call (ea_cons (ev_lenT (ev_at (v := .ref tc) (ev_var rfl) ht1 rfl) hc1) (ea_cons (ev_var rfl) ea_nil)) fun H2 e Q q E => ⟨.int (cs.length : Int), c, os, by rw [List.length_map]; rfl, ex_t (e1.trans e) hc, by omega, by omega, s1, .inr (by rw [hll]), q⟩) fun H2 e2 => ?_
    refine q_forR1 (n := 41) (ea_cons (ev_is (ev_op ev_c ev_c (rv_I0 (g := fun i j => V.int (i + j)))) rfl) ea_nil) ⟨by decide, by decide⟩ (fun i σ' H' => ∃ y, σ' = [some (.ref t), some (.ref c), y] ∧ Ex H H' ∧ ∀ j, j < i → between f cs os j = none)
      (fun H3 e3 => ⟨none, rfl, (e1.trans e2).trans e3, fun j hj => absurd hj (Nat.not_lt_zero _)⟩) (fun i σ' H' hi p => ?_) (fun σ' H' p => ?_)
    · obtain ⟨y, rfl, e, hno⟩ := p
      refine ⟨_, rfl, _, rfl, _, rfl, t, c, f, (i : Int), cs, os, rfl, hT.mono e, hok, ex_t e hc, hll, by omega, by omega, ?_⟩
      rw [Int.toNat_natCast]
      refine ⟨fun hb H3 e3 => ⟨rfl, _, rfl, ?_⟩, fun wd hb p H3 hp e3 h3 => ⟨rfl, _, rfl, ?_⟩⟩
      · refine iteF ?_
        refine ⟨_, rfl, e.trans e3, fun j hj => ?_⟩
        by_cases hji : j < i
        · exact hno j hji
        · have : j = i := by omega
          rw [this]
          exact hb
      · refine iteT ?_
        exact s_ret (ev_var rfl) fun H4 e4 => q1 i (by omega) (by rw [hb]; exact fun z => nomatch z) hno H4 ((e.trans e3).trans e4)
    · obtain ⟨y, rfl, e, hno⟩ := p
      exact s_ret ev_c fun H4 e4 => q2 (fun j hj => hno j (by show j < 41; omega)) H4 (e.trans e4)
end
end DW
/-! Walks: the law's alike, owed, along. -/
namespace DW
open PySem PySem.Spec PyProof.Rows L2 Evl DR DE DM

section
variable {K : PySem.W.Frag} {σ : L2.St} {H H' : Hp} {ta tb te tl : TE} {t : TT} {z v : V} {ns : List Int} {a b : Addr} {D : Ends} {tu tz : TS} {g : TG}
/-- isinstance(x, (tuple, list)) -/
theorem ev_isiTL {x : V} {ty : Value} {r : Bool} (ha : Ev ta σ H x) (hty : ∀ H1, Ex H H1 → TyX K H1 x ty) (hk : PySem.W.kitAny K ty [.type "tuple", .type "list"] = some r) :
    Ev (tCB (rIsiT K) (tCons ta (tCons (tTup (tCons (tC (.ty "tuple")) (tCons (tC (.ty "list")) tNil))) tNil))) σ H (.bl r) := fun H0 e Q q =>
  ha H0 e _ fun H1 e1 => ⟨by show 2 ≤ sizeLine; decide, fun p hp => ⟨x, p, [.ty "tuple", .ty "list"], ty, [.type "tuple", .type "list"], r, rfl, upd_same, .cons (.ty _) (.cons (.ty _) .nil), hty _ ((e.trans e1).trans (Ex.new hp)), hk, q _ (e1.trans (Ex.new hp))⟩⟩
theorem kit_intTL {K : PySem.W.Frag} : PySem.W.kitAny K (.type "int") [.type "tuple", .type "list"] = some false :=
  kitAny_cons (b := false) (kit_ty (by decide +kernel)) (fun _ => kitAny_cons (b := false) (kit_ty (by decide +kernel)) (fun _ => kitAny_nil) (fun h => nomatch h)) (fun h => nomatch h)
theorem kit_tupTL {K : PySem.W.Frag} : PySem.W.kitAny K (.type "tuple") [.type "tuple", .type "list"] = some true :=
  kitAny_cons (b := true) (kit_ty (by decide +kernel)) (fun h => nomatch h) (fun _ => rfl)
theorem given_none (n : Nat) (v : Nat → V) : given n (fun _ => false) v = iv [] := by
  unfold given
  rw [List.filter_eq_nil_iff.mpr fun _ _ => by decide]
  rfl
theorem ev_ixAt {tb : TE} {xs : List Int} {i : Nat} (ha : Ev ta σ H (.ref a)) (hx : SqT K H a (iv xs)) (hb : Ev tb σ H (.int (i : Int))) (hi : i < xs.length) : Ev (tOp (rIxT K) ta tb) σ H (.int (xs.getD i 0)) := by
  refine ev_op ha hb (rv_ixT hx (atI_nat (iv_of ?_)))
  rw [List.getD_eq_getElem?_getD]; rw [List.getElem?_eq_getElem hi]
  rfl
theorem ev_ixAtL {tb : TE} {xs : List Int} {i : Nat} (ha : Ev ta σ H (.ref a)) (hx : SqL K H a (iv xs)) (hb : Ev tb σ H (.int (i : Int))) (hi : i < xs.length) : Ev (tOp (rIxL K) ta tb) σ H (.int (xs.getD i 0)) := by
  refine ev_op ha hb (rv_ixL hx (atI_nat (iv_of ?_)))
  rw [List.getD_eq_getElem?_getD]; rw [List.getElem?_eq_getElem hi]
  rfl
end

section
variable {P : Program} {w : World} {K : PySem.W.Frag} {mg : Str → Option Value} {base : Heap} (T : Txt K mg)
/-! ### alike, of ints -/
def spAlikeI : Sp := fun vs H Q _ => ∃ n : Int, vs = [.int n, .int n] ∧ RetV (.bl true) H Q
theorem ok_alikeI : FnOk P w K mg base CX0 1 T.l_alike.f T.l_alike.fd P_l_alike spAlikeI := by
  refine T.l_alike.F.ok sc_l_alike (fun vs H Q E h => ?_) (fun cdv A outer s H vs Q E hr h => ?_)
  · obtain ⟨n, rfl, _⟩ := h
    rfl
  · obtain ⟨n, rfl, q⟩ := h
    refine ⟨_, pss_cons (ps_if (pt_val (pe_callB call_isiT (by rfl) T.n_isinstance PyProof.Rows.boot_isinstance (pa_cons (pv 1) (pa_cons (pe_tup (pa_cons (pe_bltn (v := .ty "tuple") (by rfl) T.n_tuple PyProof.Rows.boot_tuple rfl) (pa_cons (pe_bltn (v := .ty "list") (by rfl) T.n_list PyProof.Rows.boot_list rfl) pa_nil))) pa_nil)))) pss_never pss_nil)
      (pss_cons (ps_if (pw_or (pt_cmpR op_isN (pv 1) pe_non (nomark _)) (pw_or1 (pt_val (pe_callB call_isi (by rfl) T.n_isinstance PyProof.Rows.boot_isinstance (pa_cons (pv 1) (pa_cons (pe_bltn (v := .ty "str") (by rfl) T.n_str PyProof.Rows.boot_str rfl) pa_nil)))))).pt pss_never pss_nil)
      (pss_one (ps_ret (pe_and (pe_callB call_isi (by rfl) T.n_isinstance PyProof.Rows.boot_isinstance (pa_cons (pv 0) (pa_cons (pe_bltn (v := .ty "int") (by rfl) T.n_int PyProof.Rows.boot_int rfl) pa_nil)))
        (pe_and (pe_cmpR op_eq (pe_callB call_isi (by rfl) T.n_isinstance PyProof.Rows.boot_isinstance (pa_cons (pv 0) (pa_cons (pe_bltn (v := .ty "bool") (by rfl) T.n_bool PyProof.Rows.boot_bool rfl) pa_nil))) (pe_callB call_isi (by rfl) T.n_isinstance PyProof.Rows.boot_isinstance (pa_cons (pv 1) (pa_cons (pe_bltn (v := .ty "bool") (by rfl) T.n_bool PyProof.Rows.boot_bool rfl) pa_nil))) (nomark _))
        (pe_one (pe_cmpR op_eq (pv 0) (pv 1) (nomark _)))))))), ?_⟩
    refine q_when (b := false) (et_B (ev_isiTL (x := .int n) (ev_var rfl) (fun _ _ => .base (.int n)) kit_intTL)) (fun h => nomatch h) fun _ H1 e1 => ?_
    refine q_when (b := false) (et_or (a := false) (b := false) (et_test (ev_op (x := .int n) (ev_var rfl) ev_c fun H3 e3 Q q => ⟨rfl, q H3 (Ex.refl H3)⟩)) fun _ => et_B (ev_isiI (n := n) (ev_var rfl) (by decide +kernel))) (fun h => nomatch h) fun _ H2 e2 => ?_
    refine end_V (v := .bl true) (ev_andV (a := true) (b := true) (ev_isiI (n := n) (ev_var rfl) (by decide +kernel)) fun _ => ev_andV (a := true) (b := true) (ev_is (ev_op (ev_isiI (n := n) (r := false) (ev_var rfl) (by decide +kernel)) (ev_isiI (n := n) (r := false) (ev_var rfl) (by decide +kernel)) (rv_eq rfl)) rfl) fun _ => ev_is (ev_op (ev_var rfl) (ev_var rfl) (rv_eq (x := .int n) (y := .int n) rfl)) (by rw [decide_eq_true rfl])) rfl (RetV.mono q (e1.trans e2))
/-! ### alike, of tuples of ints -/
def spAlikeT (K : PySem.W.Frag) : Sp := fun vs H Q _ => ∃ (a b : Addr) (xs : List Int), vs = [.ref a, .ref b] ∧ SqT K H a (iv xs) ∧ SqT K H b (iv xs) ∧ xs.length ≤ 1000 ∧ RetV (.bl true) H Q
theorem ok_alikeT : FnOk P w K mg base CX0 2 T.l_alike.f T.l_alike.fd P_l_alike (spAlikeT K) := by
  have G := ok_alikeI (P := P) (w := w) (base := base) T
  refine T.l_alike.F.ok sc_l_alike (fun vs H Q E h => ?_) (fun cdv A outer s H vs Q E hr h => ?_)
  · obtain ⟨a, b, xs, rfl, _⟩ := h
    rfl
  · obtain ⟨a, b, xs, rfl, ha, hb, hl, q⟩ := h
    refine ⟨_, pss_cons (ps_if (pt_val (pe_callB call_isiT (by rfl) T.n_isinstance PyProof.Rows.boot_isinstance (pa_cons (pv 1) (pa_cons (pe_tup (pa_cons (pe_bltn (v := .ty "tuple") (by rfl) T.n_tuple PyProof.Rows.boot_tuple rfl) (pa_cons (pe_bltn (v := .ty "list") (by rfl) T.n_list PyProof.Rows.boot_list rfl) pa_nil))) pa_nil))))
        (pss_cons (ps_if (pw_or (pt_not (pt_val (pe_callB call_isiT (by rfl) T.n_isinstance PyProof.Rows.boot_isinstance (pa_cons (pv 0) (pa_cons (pe_tup (pa_cons (pe_bltn (v := .ty "tuple") (by rfl) T.n_tuple PyProof.Rows.boot_tuple rfl) (pa_cons (pe_bltn (v := .ty "list") (by rfl) T.n_list PyProof.Rows.boot_list rfl) pa_nil))) pa_nil)))))
            (pw_or1 (pt_cmpR op_ne (pe_callB call_isi (by rfl) T.n_isinstance PyProof.Rows.boot_isinstance (pa_cons (pv 0) (pa_cons (pe_bltn (v := .ty "list") (by rfl) T.n_list PyProof.Rows.boot_list rfl) pa_nil))) (pe_callB call_isi (by rfl) T.n_isinstance PyProof.Rows.boot_isinstance (pa_cons (pv 1) (pa_cons (pe_bltn (v := .ty "list") (by rfl) T.n_list PyProof.Rows.boot_list rfl) pa_nil))) (nomark _)))).pt pss_never pss_nil)
        (pss_cons (ps_if (pt_cmpR op_ne (pe_callB call_lenS (by rfl) T.n_len PySem.boot_len (pa_cons (pv 0) pa_nil)) (pe_callB call_lenS (by rfl) T.n_len PySem.boot_len (pa_cons (pv 1) pa_nil)) (nomark _)) pss_never pss_nil)
        (pss_one (ps_ret (pe_cmpR (op_eqD hr.units) (pe_lc (own := [("_law_k", 2)]) (g := gName 2) (by rfl) sc_l_alike.nd (pi_range1 (by rfl) T.n_range (pa_cons (pe_callB call_lenS (by rfl) T.n_len PySem.boot_len (pa_cons (pv 1) pa_nil)) pa_nil)) (blkOk_by (own := [("_law_k", 2)]) (N := N_l_alike) (sc := defScope s_l_alike) (by decide +kernel))
          (fun _ _ _ _ _ => pg_name (i := 2) sc_l_alike.nd rfl (Or.inl rfl)) (fun _ _ _ _ _ => pts_one (pt_not (pt_val (pe_call G hr (by rfl) T.l_alike.g T.l_alike.F.kp (b_l_alike T) .nil pass0 (pa_cons (pe_ix (r := rIxT K) ix_tup (pv 0) (pv 2) (fun _ _ => rfl)) (pa_cons (pe_ix (r := rIxT K) ix_tup (pv 1) (pv 2) (fun _ _ => rfl)) pa_nil)))))) (fun _ _ _ _ _ => pv 2)) (pe_lst pa_nil) (nomark _)))))) pss_nil)
      (pss_cons ps_never pss_never), ?_⟩
    refine q_when (b := true) (et_B (ev_isiTL (x := .ref b) (ev_var rfl) (fun _ e => tyx_tup (ex_t e hb)) kit_tupTL)) (fun _ H1 e1 => ?_) (fun h => nomatch h)
    refine q_when (b := false) (et_or (a := false) (b := false) (et_not (a := true) (et_B (ev_isiTL (x := .ref a) (ev_var rfl) (fun _ e => tyx_tup (ex_t (e1.trans e) ha)) kit_tupTL))) fun _ => et_is (et_test (ev_op (ev_isiT (r := false) (ev_var rfl) (ex_t e1 ha) (by decide +kernel)) (ev_isiT (r := false) (ev_var rfl) (ex_t e1 hb) (by decide +kernel)) (rv_ne rfl))) rfl) (fun h => nomatch h) fun _ H2 e2 => ?_
    have e12 := e1.trans e2
    refine q_when (b := false) (et_is (et_test (ev_op (ev_lenT (ev_var rfl) (ex_t e12 ha)) (ev_lenT (ev_var rfl) (ex_t e12 hb)) (rv_ne rfl))) (by rw [decide_eq_true rfl]; rfl)) (fun h => nomatch h) fun _ H3 e3 => ?_
    have e13 := e12.trans e3
    refine end_V (v := .bl true) (ev_is (ev_eqNil (ns := []) ?_) rfl) rfl (RetV.mono q e13)
    have r := el_lcR1 (σ := [some (.ref a), some (.ref b), none]) (H := H3) (t := tNot (tB (tCall spAlikeI [] E0 (tCons (tOp (rIxT K) (tVar 0) (tVar 2)) (tCons (tOp (rIxT K) (tVar 1) (tVar 2)) tNil))))) (te := tVar 2) (ta := tCons (tCB (rLenS K) (tCons (tVar 1) tNil)) tNil) (j := 2) (vs := [2]) (n := ((iv xs).length : Int)) (fun _ => false) (fun i => .int (i : Int)) (ea_cons (ev_lenT (ev_var rfl) (ex_t e13 hb)) ea_nil) (by rw [List.length_map]; omega) (fun _ => rfl)
      (fun i H4 e4 hi => et_not (a := true) (et_B (ev_call (ea_cons (ev_ixAt (ev_var rfl) (ex_t (e13.trans e4) ha) (ev_var rfl) (by rw [List.length_map] at hi; omega)) (ea_cons (ev_ixAt (ev_var rfl) (ex_t (e13.trans e4) hb) (ev_var rfl) (by rw [List.length_map] at hi; omega)) ea_nil)) fun H5 e5 Q q E => ⟨_, rfl, q⟩))) (fun i H4 e4 hi hf => nomatch hf)
    rw [given_none] at r
    exact r
/-! ### owed -/
def spOwed (K : PySem.W.Frag) : Sp := fun vs H Q _ => ∃ (f p : Int) (c : Addr) (cs : List Int), vs = [.int f, .ref c, .int p] ∧ 2 ≤ f ∧ f ≤ 9 ∧ SqT K H c (iv cs) ∧ 0 ≤ p ∧ p < cs.length ∧ cs.length ≤ 6 ∧ RetU (iv (owedN f cs.sum cs p.toNat)) H Q
theorem ok_owed : FnOk P w K mg base CX0 1 T.l_owed.f T.l_owed.fd P_l_owed (spOwed K) := by
  refine T.l_owed.F.ok sc_l_owed (fun vs H Q E h => ?_) (fun cdv A outer s H vs Q E hr h => ?_)
  · obtain ⟨f, p, c, cs, rfl, _⟩ := h
    rfl
  · obtain ⟨f, p, c, cs, rfl, f2, f9, hc, p0, pl, l6, q⟩ := h
    refine ⟨_, pss_cons (ps_set (i := 3) sc_l_owed.nd rfl (.inr rfl) (pe_lc (own := [("_law_one", 5)]) (g := gName 5) (by rfl) sc_l_owed.nd (pi_tup (pv 1)) (blkOk_by (own := [("_law_one", 5)]) (N := N_l_owed) (sc := defScope s_l_owed) (by decide +kernel))
          (fun _ _ _ _ _ => pg_name (i := 5) sc_l_owed.nd rfl (Or.inl rfl)) (fun _ _ _ _ _ => pts_nil) (fun _ _ _ _ _ => pe_op op_mul (pe_op op_sub (pv 0) pe_int) (pv 5))))
      (pss_cons (ps_setLc (i := 4) (own := [("_law_k", 6)]) (g := gName 6) (by rfl) sc_l_owed.nd rfl rfl (sw_true rfl rfl rfl (by decide +kernel)) (pi_range1 (by rfl) T.n_range (pa_cons (pe_callB call_lenS (by rfl) T.n_len PySem.boot_len (pa_cons (pv 1) pa_nil)) pa_nil)) (blkOk_by (own := [("_law_k", 6)]) (N := N_l_owed) (sc := defScope s_l_owed) (by decide +kernel))
          (fun _ _ _ _ _ => pg_name (i := 6) sc_l_owed.nd rfl (Or.inl rfl)) (fun _ _ _ _ _ => pts_nil) (fun _ _ _ _ _ => pe_op op_add (pe_ix (r := rIxT K) ix_tup (pv 1) (pv 6) (fun _ _ => rfl)) (pe_ix (r := rIxL K) ix_list (pv 3) (pv 6) (fun _ _ => rfl))))
      (pss_cons (ps_asg (pe_op op_sub (pe_ix ix_tup (pv 1) (pv 2) (fun _ _ => rfl)) (pe_op op_sub (pe_callB (cr_sum rfl) (by rfl) T.n_sum PyProof.Rows.boot_sum (pa_cons (pv 3) pa_nil)) (pe_ix ix_list (pv 3) (pv 2) (fun _ _ => rfl)))) (pg_sub (pv 4) (pv 2) set_list))
      (pss_one (ps_ret (pe_callTy call_tupOf (by rfl) T.n_tuple PyProof.Rows.boot_tuple (pa_cons (pv 4) pa_nil)))))), ?_⟩
    have ep : p = ((p.toNat : Nat) : Int) := (Int.toNat_of_nonneg p0).symm
    have hlt : p.toNat < cs.length := by omega
    refine q_asgL (el_mpT ((f - 1) * ·) (ev_var rfl) hc (by omega) (fun _ => rfl) fun k hk H2 e2 => ev_op (ev_op (ev_var rfl) ev_c (rv_I0 (g := fun i j => V.int (i - j)))) (ev_var rfl) (rv_I (g := fun i j => V.int (i * j)) (C := CMul) (.inl ⟨by omega, by omega⟩))) fun p3 H1 hp3 e1 h3 => ?_
    refine q_asgL (xs := iv (cs.map (f * ·))) ?_ fun p4 H2 hp4 e2 h4 => ?_
    · have r := el_lcR1 (σ := [some (.int f), some (.ref c), some (.int p), some (.ref p3), none, none, none]) (H := H1) (t := tYes) (te := tOp (rI0 fun i j => .int (i + j)) (tOp (rIxT K) (tVar 1) (tVar 6)) (tOp (rIxL K) (tVar 3) (tVar 6))) (ta := tCons (tCB (rLenS K) (tCons (tVar 1) tNil)) tNil) (j := 6) (vs := [6]) (n := ((iv cs).length : Int)) (fun i => (fun _ : Int => true) (cs.getD i 0)) (fun i => .int ((f * ·) (cs.getD i 0))) (ea_cons (ev_lenT (ev_var rfl) (ex_t e1 hc)) ea_nil) (by rw [List.length_map]; omega) (fun _ => rfl)
        (fun i H4 e4 hi => et_yes) (fun i H4 e4 hi hf => ?_)
      · rw [List.length_map, Int.toNat_natCast] at r
        have e9 := given_all cs (fun _ => true) (f * ·)
        rw [DE.filter_all] at e9
        rw [← e9]
        exact r
      · rw [List.length_map] at hi
        have hi' : i < cs.length := by omega
        refine ev_is (ev_op (ev_ixAt (ev_var rfl) (ex_t (e1.trans e4) hc) (ev_var rfl) hi') (ev_ixAtL (ev_var rfl) (ex_l e4 (sq_of h3)) (ev_var rfl) (by rw [List.length_map]; exact hi')) (rv_I0 (g := fun i j => V.int (i + j)))) ?_
        have eg : (cs.map ((f - 1) * ·)).getD i 0 = (f - 1) * cs.getD i 0 := by
          rw [List.getD_eq_getElem?_getD, List.getD_eq_getElem?_getD, List.getElem?_map, List.getElem?_eq_getElem hi']
          rfl
        rw [eg]
        show V.int (cs.getD i 0 + (f - 1) * cs.getD i 0) = V.int (f * cs.getD i 0)
        rw [Int.sub_mul]
        congr 1
        omega
    · have e12 := e1.trans e2
      have h32 := e2 _ _ h3
      have hcp : cs[p.toNat]? = some (cs.getD p.toNat 0) := by
        rw [List.getD_eq_getElem?_getD, List.getElem?_eq_getElem hlt]
        rfl
      have eg : (cs.map ((f - 1) * ·)).getD p.toNat 0 = (f - 1) * cs.getD p.toNat 0 := by
        rw [List.getD_eq_getElem?_getD, List.getD_eq_getElem?_getD, List.getElem?_map, List.getElem?_eq_getElem hlt]
        rfl
      refine Evl.q_setL (l := p4) (xs := iv (cs.map (f * ·))) (j := p.toNat) (v := .int (f * cs.getD p.toNat 0 - (f - 1) * cs.sum)) h4 (ev_is (ev_op (ev_ixAt (i := p.toNat) (ev_var rfl) (ex_t e12 hc) (ev_is (ev_var rfl) (congrArg V.int ep)) hlt) (ev_op (ev_sumL (ev_var rfl) (sq_of h32)) (ev_ixAtL (i := p.toNat) (ev_var rfl) (sq_of h32) (ev_is (ev_var rfl) (congrArg V.int ep)) (by rw [List.length_map]; exact hlt)) (rv_I0 (g := fun i j => V.int (i - j)))) (rv_I0 (g := fun i j => V.int (i - j)))) ?_) (ev_var rfl) (ev_is (ev_var rfl) (congrArg V.int ep)) (by simp; exact hlt) fun H3 e3 => ?_
      · rw [eg, sum_map_mul, Int.sub_mul f 1 (cs.getD p.toNat 0)]
        congr 1
        omega
      · rw [iv_set, owedN_set f cs.sum cs p.toNat _ hcp]
        exact end_U (eu_tupL (a := p4) (ev_var rfl) (sq_of upd_same)) rfl (RetU.mono q (Ex.mut (e12.trans e3) (fresh_back e1 hp4)))
/-! ### along -/
def spAlong (K : PySem.W.Frag) : Sp := fun vs H Q _ => ∃ (f : Int) (c wd : Addr) (cs ws : List Int), vs = [.int f, .ref c, .ref wd] ∧ 2 ≤ f ∧ f ≤ 9 ∧ SqT K H c (iv cs) ∧ cs.length ≤ 6 ∧ SqT K H wd (iv ws) ∧ WordOk cs.length ws ∧ ws.length ≤ 40 ∧
  ∀ p xs c' H2, Ex H H2 → H2 p = some (.lst (xs ++ [.ref c'])) → SqT K H2 c' (iv (after f cs ws)) → Q (.ref p) H2
theorem ok_along : FnOk P w K mg base CX0 2 T.l_along.f T.l_along.fd P_l_along (spAlong K) := by
  have G := ok_owed (P := P) (w := w) (base := base) T
  refine T.l_along.F.ok sc_l_along (fun vs H Q E h => ?_) (fun cdv A outer s H vs Q E hr h => ?_)
  · obtain ⟨f, c, wd, cs, ws, rfl, _⟩ := h
    rfl
  · obtain ⟨f, c, wd, cs, ws, rfl, f2, f9, hc, l6, hw, hok, hl, q⟩ := h
    refine ⟨_, pss_cons (ps_set (i := 3) sc_l_along.nd rfl (.inl rfl) (pe_lst (pa_cons (pv 1) pa_nil)))
      (pss_cons (ps_for PassesOwn.never rfl (pi_tup (pv 2)) (pg_name (i := 4) sc_l_along.nd rfl (.inl rfl))
        (pss_one (ps_expr (pe_bm PySem.F.plainAttrs_list PySem.F.slot_list_append PySem.F.type_list_append mt_append (pv 3) (pa_cons (pe_call G hr (by rfl) T.l_owed.g T.l_owed.F.kp (b_l_owed T) .nil pass0 (pa_cons (pv 0) (pa_cons (pe_ix ix_list (pv 3) (pe_un un_neg pe_int) (fun _ _ => rfl)) (pa_cons (pv 4) pa_nil)))) pa_nil)))))
      (pss_one (ps_ret (pv 3)))), ?_⟩
    refine q_asgL (el_lst (ea_cons (ev_var rfl) ea_nil) (by simp)) fun p0 H1 hp0 e1 h1 => ?_
    refine q_forT (ev_var rfl) (ex_t e1 hw) (fun i σ' H' => ∃ p y xs c', σ' = [some (.int f), some (.ref c), some (.ref wd), some (.ref p), y] ∧ Ex H H' ∧ H p = none ∧ H' p = some (.lst (xs ++ [.ref c'])) ∧ xs.length = i ∧ SqT K H' c' (iv (after f cs (ws.take i))))
      (fun H2 e2 => ⟨p0, none, [], c, rfl, e1.trans e2, hp0, e2 _ _ h1, rfl, by rw [List.take_zero, after_nil]; exact ex_t (e1.trans e2) hc⟩) (fun i σ' H' _ p => ?_) (fun i x σ' H' hx p => ?_) (fun σ' H' p => ?_)
    · obtain ⟨p, y, xs, c', rfl, e, _⟩ := p
      exact ex_t e hw
    · obtain ⟨p, y, xs, c', rfl, e, hp, hl', lx, hc'⟩ := p
      obtain ⟨pl, hpl, rfl⟩ := iv_get hx
      have hb := hok pl (List.mem_of_getElem? hpl)
      have hlw : i < ws.length := (List.getElem?_eq_some_iff.mp hpl).1
      have ok' : WordOk cs.length (ws.take i) := fun p hp => hok p (List.mem_of_mem_take hp)
      refine s_appU (ys := iv (after f cs (ws.take (i + 1)))) hl' (ev_var rfl) ?_ (by rw [List.length_append, lx]; show i + 1 < 100000; omega) fun pn H2 hpn e2 h2 => ?_
      · refine eu_call (ea_cons (ev_var rfl) (ea_cons (ev_op (ev_var rfl) (ev_un ev_c ru_neg) (rv_ixL (sq_of hl') (atI_last _ _))) (ea_cons (ev_var rfl) ea_nil))) fun H3 e3 Q q E => ⟨f, pl, c', after f cs (ws.take i), rfl, f2, f9, ex_t e3 hc', hb.1, by rw [after_length]; exact hb.2, by rw [after_length]; exact l6, ?_⟩
        rw [after_sum f cs _ ok', ← after_snoc, ← take_snoc hpl]
        exact q
      · have hne : pn ≠ p := ne_of h2 (e2 _ _ hl') (by intro z; cases z)
        refine ⟨p, some (.int pl), xs ++ [.ref c'], pn, rfl, Ex.mut (e.trans e2) hp, hp, upd_same, by rw [List.length_append, lx]; rfl, .inl (.inl ?_)⟩
        rw [upd_ne hne]
        exact h2
    · obtain ⟨p, y, xs, c', rfl, e, hp, hl', lx, hc'⟩ := p
      rw [List.length_map, List.take_length] at hc'
      exact s_ret (ev_var rfl) fun H2 e2 => q p xs c' H2 (e.trans e2) (e2 _ _ hl') (ex_t e2 hc')
end
end DW
/-! Walks: the law's draws: taken, pick, word, signed. -/
namespace DW
open PySem PySem.Spec PyProof.Rows L2 Evl DR DE DM

/-! ### the row of draws -/
def Keep (r : Addr) (H H' : Hp) : Prop := ∀ b o, b ≠ r → H b = some o → H' b = some o
theorem Keep.refl (r : Addr) (H : Hp) : Keep r H H := fun _ _ _ h => h
theorem Keep.trans {r : Addr} {H H1 H2 : Hp} (a : Keep r H H1) (b : Keep r H1 H2) : Keep r H H2 := fun x o n h => b x o n (a x o n h)
theorem Keep.ex {r : Addr} {H H1 : Hp} (e : Ex H H1) : Keep r H H1 := fun x o _ h => e x o h
theorem Keep.at_r {r : Addr} {H H1 : Hp} {o : HO} (a : Keep r H H1) : Keep r H (upd H1 r o) := fun x u n h => by
  rw [upd_ne n]
  exact a x u n h
/-- what stood at q was unknown to H: it may be written -/
theorem Keep.mut {r q : Addr} {H H1 : Hp} {o : HO} (a : Keep r H H1) (h : H q = none) : Keep r H (upd H1 q o) := fun x u n hx => by
  rw [upd_ne (ne_of_none hx h)]
  exact a x u n hx
theorem Keep.tup {K : PySem.W.Frag} {r a : Addr} {H H1 : Hp} {xs : List V} {o : List V} (k : Keep r H H1) (hr : H r = some (.lst o)) (h : SqT K H a xs) : SqT K H1 a xs := by
  rcases h with (h | ⟨ob, h⟩) | h
  · exact .inl (.inl (k a _ (ne_of h hr (by intro z; cases z)) h))
  · exact .inl (.inr ⟨ob, k a _ (ne_of h hr (by intro z; cases z)) h⟩)
  · exact .inr h
def RowV (H : Hp) (r s : Addr) : Prop := ∃ i b c : Int, H r = some (.lst [.ref s, .int i, .int b, .int c]) ∧ 0 ≤ i ∧ 0 ≤ b ∧ b < 2147483647
theorem RowV.ex {H H' : Hp} {r s : Addr} (h : RowV H r s) (e : Ex H H') : RowV H' r s := by
  obtain ⟨i, b, c, h1, h2⟩ := h
  exact ⟨i, b, c, e _ _ h1, h2⟩
theorem RowV.ne {H : Hp} {r s q : Addr} {o : HO} (h : RowV H r s) (hq : q ≠ r) : RowV (upd H q o) r s := by
  obtain ⟨i, b, c, h1, h2⟩ := h
  exact ⟨i, b, c, by rw [upd_ne (Ne.symm hq)]; exact h1, h2⟩
def ScrAt (K : PySem.W.Frag) (H : Hp) (r s : Addr) (ns : List Int) : Prop := SqL K H s (iv ns) ∧ (s ≠ r ∨ ∀ H', SqL K H' s (iv ns))
theorem ScrAt.mono {K : PySem.W.Frag} {H H' : Hp} {r s : Addr} {ns : List Int} (h : ScrAt K H r s ns) (k : Keep r H H') : ScrAt K H' r s ns := by
  obtain ⟨h1, h2⟩ := h
  rcases h2 with h2 | h2
  · refine ⟨?_, .inl h2⟩
    rcases h1 with (h1 | ⟨o, h1⟩) | h1
    · exact .inl (.inl (k _ _ h2 h1))
    · exact .inl (.inr ⟨o, k _ _ h2 h1⟩)
    · exact .inr h1
  · exact ⟨h2 _, .inr h2⟩
structure RowAt (K : PySem.W.Frag) (H : Hp) (r s : Addr) (ns : List Int) : Prop where
  row : RowV H r s
  scr : ScrAt K H r s ns
  len : ns.length ≤ 63
theorem RowAt.mono {K : PySem.W.Frag} {H H' : Hp} {r s : Addr} {ns : List Int} (h : RowAt K H r s ns) (k : Keep r H H') (v : RowV H' r s) : RowAt K H' r s ns := ⟨v, h.scr.mono k, h.len⟩
theorem RowAt.ex {K : PySem.W.Frag} {H H' : Hp} {r s : Addr} {ns : List Int} (h : RowAt K H r s ns) (e : Ex H H') : RowAt K H' r s ns := h.mono (Keep.ex e) (h.row.ex e)

def rInt1 : List V → Hp → VK → Prop := fun xs H Q => (∃ i, xs = [.int i] ∧ Q (.int i) H) ∨ ∃ k, xs = [.bl k] ∧ Q (.int (if k then 1 else 0)) H
theorem call_intI {X : Cx} : CallR X (.type "int") rInt1 := call_int1
section
variable {K : PySem.W.Frag} {σ : L2.St} {H H' : Hp} {ta tb te tl : TE} {t : TT} {z v : V} {ns : List Int} {a b : Addr} {D : Ends} {tu tz : TS} {g : TG}
theorem ev_int1 {i : Int} (ha : Ev ta σ H (.int i)) : Ev (tCB rInt1 (tCons ta tNil)) σ H (.int i) := fun H1 e Q q => ha H1 e _ fun H2 e2 => .inl ⟨i, rfl, q H2 e2⟩
end

section
variable {P : Program} {w : World} {K : PySem.W.Frag} {mg : Str → Option Value} {base : Heap} (T : Txt K mg)
/-! ### taken -/
def spTaken (K : PySem.W.Frag) : Sp := fun vs H Q _ => ∃ (r s : Addr) (m : Int) (ns : List Int), vs = [.ref r, .int m] ∧ RowAt K H r s ns ∧ 0 < m ∧ m ≤ 1000 ∧ ∀ (k : Int) H', 0 ≤ k → k < m → RowV H' r s → Keep r H H' → Q (.int k) H'
theorem ok_taken : FnOk P w K mg base CX0 1 T.l_taken.f T.l_taken.fd P_l_taken (spTaken K) := by
  refine T.l_taken.F.ok sc_l_taken (fun vs H Q E h => ?_) (fun cdv A outer sh H vs Q E hr h => ?_)
  · obtain ⟨r, s, m, ns, rfl, _⟩ := h
    rfl
  · obtain ⟨r, s, m, ns, rfl, hR, m0, m1, q⟩ := h
    refine ⟨_, pss_cons (ps_if (pt_cmpR op_gt (pe_ix ix_list (pv 0) pe_int (fun _ _ => rfl)) pe_int (nomark _))
        (pss_cons (ps_set (i := 2) sc_l_taken.nd rfl (.inl rfl) (pe_op op_mod (pe_callTy call_intI (by rfl) T.n_int PyProof.Rows.boot_int (pa_cons (pe_ix ix_list (pv 0) pe_int (fun _ _ => rfl)) pa_nil)) (pv 1)))
        (pss_cons (ps_asg (pe_op op_fdiv (pe_ix ix_list (pv 0) pe_int (fun _ _ => rfl)) (pv 1)) (pg_sub (pv 0) pe_int set_list))
        (pss_one (ps_ret (pv 2))))) pss_nil)
      (pss_cons (ps_asg (pe_op op_add (pe_ix ix_list (pv 0) pe_int (fun _ _ => rfl)) pe_int) (pg_sub (pv 0) pe_int set_list))
      (pss_cons (ps_if (pt_cmpR op_gt (pe_ix ix_list (pv 0) pe_int (fun _ _ => rfl)) (pe_callB call_lenS (by rfl) T.n_len PySem.boot_len (pa_cons (pe_ix ix_list (pv 0) pe_int (fun _ _ => rfl)) pa_nil)) (nomark _))
        (pss_cons (ps_asg (pe_op op_mod (pe_callTy call_intI (by rfl) T.n_int PyProof.Rows.boot_int (pa_cons (pe_op op_add (pe_op op_mul (pe_ix ix_list (pv 0) pe_int (fun _ _ => rfl)) pe_int) pe_int) pa_nil)) pe_int) (pg_sub (pv 0) pe_int set_list))
        (pss_one (ps_ret (pe_op op_mod (pe_callTy call_intI (by rfl) T.n_int PyProof.Rows.boot_int (pa_cons (pe_op op_fdiv (pe_ix ix_list (pv 0) pe_int (fun _ _ => rfl)) pe_int) pa_nil)) (pv 1))))) pss_nil)
      (pss_cons (ps_set (i := 3) sc_l_taken.nd rfl (.inl rfl) (pe_ix ix_list (pe_ix ix_list (pv 0) pe_int (fun _ _ => rfl)) (pe_op op_sub (pe_ix ix_list (pv 0) pe_int (fun _ _ => rfl)) pe_int) (fun _ _ => rfl)))
      (pss_cons (ps_asg (pe_op op_mod (pe_callTy call_intI (by rfl) T.n_int PyProof.Rows.boot_int (pa_cons (pe_op op_add (pe_op op_add (pe_op op_mul (pe_ix ix_list (pv 0) pe_int (fun _ _ => rfl)) pe_int) (pv 3)) pe_int) pa_nil)) pe_int) (pg_sub (pv 0) pe_int set_list))
      (pss_cons (ps_if (pt_cmpR op_ge (pv 3) (pe_op op_pow pe_int pe_int) (nomark _)) (pss_one (ps_asg (pe_op op_fdiv (pv 3) (pv 1)) (pg_sub (pv 0) pe_int set_list))) pss_nil)
      (pss_one (ps_ret (pe_op op_mod (pe_callTy call_intI (by rfl) T.n_int PyProof.Rows.boot_int (pa_cons (pv 3) pa_nil)) (pv 1))))))))), ?_⟩
    obtain ⟨⟨i, b, c, hrow, i0, b0, b1⟩, hscr, hlen⟩ := hR
    have ix : ∀ {σ : L2.St} {H' : Hp} {k : Int} {xs : List V} {v : V}, σ[0]? = some (some (.ref r)) → H' r = some (.lst xs) → atI xs k = some v → Ev (tOp (rIxL K) (tVar 0) (tC (.int k))) σ H' v := fun h0 h1 h2 => ev_op (ev_var h0) ev_c (rv_ixL (sq_of h1) h2)
    have modm : ∀ x : Int, 0 ≤ x % m ∧ x % m < m := fun x => ⟨Int.emod_nonneg _ (by omega), Int.emod_lt_of_pos _ m0⟩
    have modb : ∀ x : Int, 0 ≤ x % 2147483647 ∧ x % 2147483647 < 2147483647 := fun x => ⟨Int.emod_nonneg _ (by omega), Int.emod_lt_of_pos _ (by omega)⟩
    refine q_when (et_test (ev_op (ix (v := .int c) rfl hrow rfl) ev_c (rv_I0 (g := fun i j => V.bl (decide (j < i)))))) (fun hb H1 e1 => ?_) fun hb H1 e1 => ?_
    · have h1 := e1 _ _ hrow
      refine q_asg (ev_op (ev_int1 (ix (v := .int c) rfl h1 rfl)) (ev_var rfl) (rv_I (g := fun i j => V.int (i % j)) (C := fun _ j => 0 < j) m0)) fun H2 e2 => ?_
      have h2 := e2 _ _ h1
      refine q_setL (j := 3) h2 (ev_op (ix (v := .int c) rfl h2 rfl) (ev_var rfl) (rv_I (g := fun i j => V.int (i / j)) (C := CDiv) ⟨m0, by omega⟩)) (ev_var rfl) ev_c (by simp) fun H3 e3 => ?_
      exact s_ret (ev_var rfl) fun H4 e4 => q _ H4 (modm c).1 (modm c).2 (RowV.ex ⟨i, b, _, upd_same, i0, b0, b1⟩ e4) ((Keep.ex ((e1.trans e2).trans e3)).at_r.trans (Keep.ex e4))
    · have h1 := e1 _ _ hrow
      refine q_setL (j := 1) h1 (ev_op (ix (v := .int i) rfl h1 rfl) ev_c (rv_I0 (g := fun i j => V.int (i + j)))) (ev_var rfl) ev_c (by simp) fun H2 e2 => ?_
      have k2 : Keep r H (upd H2 r (.lst ([V.ref s, V.int i, V.int b, V.int c].set 1 (.int (i + 1))))) := (Keep.ex (e1.trans e2)).at_r
      have h2 : (upd H2 r (.lst ([V.ref s, V.int i, V.int b, V.int c].set 1 (.int (i + 1))))) r = some (.lst [.ref s, .int (i + 1), .int b, .int c]) := upd_same
      revert k2 h2
      generalize upd H2 r (.lst ([V.ref s, V.int i, V.int b, V.int c].set 1 (.int (i + 1)))) = H3
      intro k3 h3
      have s3 := (hscr.mono k3).1
      refine q_when (et_test (ev_op (ix (v := .int (i + 1)) rfl h3 rfl) (ev_len (ix (v := .ref s) rfl h3 rfl) s3) (rv_I0 (g := fun i j => V.bl (decide (j < i)))))) (fun hb H4 e4 => ?_) fun hb H4 e4 => ?_
      · have h4 := e4 _ _ h3
        refine q_setL (j := 2) h4 (ev_op (ev_int1 (ev_op (ev_op (ix (v := .int b) rfl h4 rfl) ev_c (rv_I (g := fun i j => V.int (i * j)) (C := CMul) (.inl ⟨by omega, by omega⟩))) ev_c (rv_I0 (g := fun i j => V.int (i + j))))) ev_c (rv_I (g := fun i j => V.int (i % j)) (C := fun _ j => 0 < j) (by decide))) (ev_var rfl) ev_c (by simp) fun H5 e5 => ?_
        have k5 : Keep r H (upd H5 r (.lst ([V.ref s, V.int (i + 1), V.int b, V.int c].set 2 (.int ((b * 48271 + 11) % 2147483647))))) := (k3.trans (Keep.ex (e4.trans e5))).at_r
        have h5 : (upd H5 r (.lst ([V.ref s, V.int (i + 1), V.int b, V.int c].set 2 (.int ((b * 48271 + 11) % 2147483647))))) r = some (.lst [.ref s, .int (i + 1), .int ((b * 48271 + 11) % 2147483647), .int c]) := upd_same
        revert k5 h5
        generalize upd H5 r (.lst ([V.ref s, V.int (i + 1), V.int b, V.int c].set 2 (.int ((b * 48271 + 11) % 2147483647)))) = H6
        intro k6 h6
        exact s_ret (ev_op (ev_int1 (ev_op (ix (v := .int ((b * 48271 + 11) % 2147483647)) rfl h6 rfl) ev_c (rv_I (g := fun i j => V.int (i / j)) (C := CDiv) ⟨by decide, by decide⟩))) (ev_var rfl) (rv_I (g := fun i j => V.int (i % j)) (C := fun _ j => 0 < j) m0)) fun H7 e7 => q _ H7 (modm _).1 (modm _).2 (RowV.ex ⟨_, _, _, h6, by omega, (modb _).1, (modb _).2⟩ e7) (k6.trans (Keep.ex e7))
      · have h4 := e4 _ _ h3
        have s4 := ex_l e4 s3
        have hlt : i.toNat < ns.length := by
          have := of_decide_eq_false hb
          rw [List.length_map] at this
          omega
        obtain ⟨cell, hcell⟩ : ∃ cell, ns[i.toNat]? = some cell := ⟨_, List.getElem?_eq_getElem hlt⟩
        have ei : i + 1 - 1 = ((i.toNat : Nat) : Int) := by omega
        refine q_asg (v := .int cell) (ev_op (ix (v := .ref s) rfl h4 rfl) (ev_op (ix (v := .int (i + 1)) rfl h4 rfl) ev_c (rv_I0 (g := fun i j => V.int (i - j)))) (rv_ixL s4 (at_of ei (iv_of hcell)))) fun H5 e5 => ?_
        have h5 := e5 _ _ h4
        refine q_setL (j := 2) h5 (ev_op (ev_int1 (ev_op (ev_op (ev_op (ix (v := .int b) rfl h5 rfl) ev_c (rv_I (g := fun i j => V.int (i * j)) (C := CMul) (.inl ⟨by omega, by omega⟩))) (ev_var rfl) (rv_I0 (g := fun i j => V.int (i + j)))) ev_c (rv_I0 (g := fun i j => V.int (i + j))))) ev_c (rv_I (g := fun i j => V.int (i % j)) (C := fun _ j => 0 < j) (by decide))) (ev_var rfl) ev_c (by simp) fun H6 e6 => ?_
        have k6 : Keep r H (upd H6 r (.lst ([V.ref s, V.int (i + 1), V.int b, V.int c].set 2 (.int ((b * 48271 + cell + 11) % 2147483647))))) := (k3.trans (Keep.ex ((e4.trans e5).trans e6))).at_r
        have h6 : (upd H6 r (.lst ([V.ref s, V.int (i + 1), V.int b, V.int c].set 2 (.int ((b * 48271 + cell + 11) % 2147483647))))) r = some (.lst [.ref s, .int (i + 1), .int ((b * 48271 + cell + 11) % 2147483647), .int c]) := upd_same
        revert k6 h6
        generalize upd H6 r (.lst ([V.ref s, V.int (i + 1), V.int b, V.int c].set 2 (.int ((b * 48271 + cell + 11) % 2147483647)))) = H7
        intro k7 h7
        have last : ∀ H8 c', Keep r H H8 → H8 r = some (.lst [.ref s, .int (i + 1), .int ((b * 48271 + cell + 11) % 2147483647), .int c']) →
            tRet (tOp (rI (fun _ j => 0 < j) fun i j => .int (i % j)) (tCB rInt1 (tCons (tVar 3) tNil)) (tVar 1)) { nx := fun _ H' => Q .non H', rt := Q } [some (.ref r), some (.int m), none, some (.int cell)] H8 := fun H8 c' k8 h8 =>
          s_ret (ev_op (ev_int1 (ev_var rfl)) (ev_var rfl) (rv_I (g := fun i j => V.int (i % j)) (C := fun _ j => 0 < j) m0)) fun H9 e9 => q _ H9 (modm _).1 (modm _).2 (RowV.ex ⟨_, _, _, h8, by omega, (modb _).1, (modb _).2⟩ e9) (k8.trans (Keep.ex e9))
        refine q_when (et_test (ev_op (ev_var rfl) (ev_op ev_c ev_c (rv_I (g := fun i j => V.int (i ^ j.toNat)) (C := CPow) ⟨by decide, by decide, by decide⟩)) (rv_I0 (g := fun i j => V.bl (decide (j ≤ i)))))) (fun hb H8 e8 => ?_) fun hb H8 e8 => ?_
        · have h8 := e8 _ _ h7
          refine s_setL (j := 3) h8 (ev_op (ev_var rfl) (ev_var rfl) (rv_I (g := fun i j => V.int (i / j)) (C := CDiv) ⟨m0, by omega⟩)) (ev_var rfl) ev_c (by simp) fun H9 e9 => ?_
          exact last _ _ ((k7.trans (Keep.ex (e8.trans e9))).at_r) upd_same
        · exact last H8 c (k7.trans (Keep.ex e8)) (e8 _ _ h7)
end
end DW
/-! Walks: the law's pick, word, signed. -/
namespace DW
open PySem PySem.Spec PyProof.Rows L2 Evl DR DE DM

section
variable {K : PySem.W.Frag} {σ : L2.St} {H H' : Hp} {ta tb te tl : TE} {t : TT} {z v : V} {ns : List Int} {a b r s : Addr} {D : Ends} {tu tz : TS} {g : TG}
/-- a call of taken -/
theorem go_taken {m : Int} {E : XK} {Q : VK} (hR : RowAt K H r s ns) (ha : Ev ta σ H (.ref r)) (hb : Ev tb σ H (.int m)) (m0 : 0 < m) (m1 : m ≤ 1000)
    (k : ∀ (v : Int) H', 0 ≤ v → v < m → RowV H' r s → Keep r H H' → Q (.int v) H') : tCall (spTaken K) [] E (tCons ta (tCons tb tNil)) σ H Q :=
  ha H (Ex.refl H) _ fun H1 e1 => hb H1 e1 _ fun H2 e2 => ⟨r, s, m, ns, rfl, hR.ex (e1.trans e2), m0, m1, fun v H' v0 v1 hv kk => k v H' v0 v1 hv ((Keep.ex (e1.trans e2)).trans kk)⟩
end

section
variable {P : Program} {w : World} {K : PySem.W.Frag} {mg : Str → Option Value} {base : Heap} (T : Txt K mg)
/-! ### pick -/
def spPick (K : PySem.W.Frag) : Sp := fun vs H Q _ => ∃ (r s th : Addr) (ns xs : List Int), vs = [.ref r, .ref th] ∧ RowAt K H r s ns ∧ H th = some (.lst (iv xs)) ∧ th ≠ r ∧ 1 ≤ xs.length ∧ xs.length ≤ 1000 ∧ ∀ (k : Int) H', k ∈ xs → RowV H' r s → Keep r H H' → Q (.int k) H'
theorem ok_pick : FnOk P w K mg base CX0 2 T.l_pick.f T.l_pick.fd P_l_pick (spPick K) := by
  have G := ok_taken (P := P) (w := w) (base := base) T
  refine T.l_pick.F.ok sc_l_pick (fun vs H Q E h => ?_) (fun cdv A outer sh H vs Q E hr h => ?_)
  · obtain ⟨r, s, th, ns, xs, rfl, _⟩ := h
    rfl
  · obtain ⟨r, s, th, ns, xs, rfl, hR, hth, hne, l1, l2, q⟩ := h
    refine ⟨_, pss_one (ps_ret (pe_ix ix_list (pv 1) (pe_call G hr (by rfl) T.l_taken.g T.l_taken.F.kp (b_l_taken T) .nil pass0 (pa_cons (pv 0) (pa_cons (pe_callB call_lenS (by rfl) T.n_len PySem.boot_len (pa_cons (pv 1) pa_nil)) pa_nil))) (fun _ _ => rfl))), ?_⟩
    refine ⟨.ref th, rfl, go_taken hR (ev_var rfl) (ev_len (ev_var rfl) (sq_of hth)) (by rw [List.length_map]; omega) (by rw [List.length_map]; omega) fun v H' v0 v1 hv kk => ?_⟩
    rw [List.length_map] at v1
    have hlt : Int.toNat v < xs.length := by omega
    have ev : v = ((v.toNat : Nat) : Int) := (Int.toNat_of_nonneg v0).symm
    exact ⟨th, iv xs, v, .int xs[v.toNat], rfl, rfl, sq_of (kk _ _ hne hth), at_of ev (iv_of (List.getElem?_eq_getElem hlt)), q _ H' (List.getElem_mem hlt) hv kk⟩
/-! ### signed -/
def spSigned (K : PySem.W.Frag) : Sp := fun vs H Q _ => ∃ (r s : Addr) (m : Int) (ns : List Int), vs = [.ref r, .int m] ∧ RowAt K H r s ns ∧ 0 ≤ m ∧ m ≤ 100 ∧ ∀ (k : Int) H', -m ≤ k → k ≤ m → RowV H' r s → Keep r H H' → Q (.int k) H'
theorem ok_signed : FnOk P w K mg base CX0 2 T.l_signed.f T.l_signed.fd P_l_signed (spSigned K) := by
  have G := ok_taken (P := P) (w := w) (base := base) T
  refine T.l_signed.F.ok sc_l_signed (fun vs H Q E h => ?_) (fun cdv A outer sh H vs Q E hr h => ?_)
  · obtain ⟨r, s, m, ns, rfl, _⟩ := h
    rfl
  · obtain ⟨r, s, m, ns, rfl, hR, m0, m1, q⟩ := h
    refine ⟨_, pss_one (ps_ret (pe_op op_sub (pe_call G hr (by rfl) T.l_taken.g T.l_taken.F.kp (b_l_taken T) .nil pass0 (pa_cons (pv 0) (pa_cons (pe_op op_add (pe_op op_mul pe_int (pv 1)) pe_int) pa_nil))) (pv 1))), ?_⟩
    refine go_taken (m := 2 * m + 1) hR (ev_var rfl) (ev_op (ev_op ev_c (ev_var rfl) (rv_I (g := fun i j => V.int (i * j)) (C := CMul) (.inl ⟨by decide, by decide⟩))) ev_c (rv_I0 (g := fun i j => V.int (i + j)))) (by omega) (by omega) fun v H' v0 v1 hv kk => ?_
    exact ⟨.int m, rfl, v, m, rfl, rfl, q (v - m) H' (by omega) (by omega) hv kk⟩
/-! ### word -/
def spWord (K : PySem.W.Frag) : Sp := fun vs H Q _ => ∃ (r s : Addr) (n m : Int) (ns : List Int), vs = [.ref r, .int n, .int m] ∧ RowAt K H r s ns ∧ 0 < n ∧ n ≤ 100 ∧ 0 ≤ m ∧ m ≤ 30 ∧
  ∀ (p : Addr) (ws : List Int) H', RowV H' r s → Keep r H H' → H' p = some (.tup (iv ws)) → WordOk n.toNat ws → (ws.length : Int) ≤ m → Q (.ref p) H'
theorem ok_word : FnOk P w K mg base CX0 2 T.l_word.f T.l_word.fd P_l_word (spWord K) := by
  have G := ok_taken (P := P) (w := w) (base := base) T
  refine T.l_word.F.ok sc_l_word (fun vs H Q E h => ?_) (fun cdv A outer sh H vs Q E hr h => ?_)
  · obtain ⟨r, s, n, m, ns, rfl, _⟩ := h
    rfl
  · obtain ⟨r, s, n, m, ns, rfl, hR, n0, n1, m0, m1, q⟩ := h
    refine ⟨_, pss_one (ps_ret (pe_callTy call_tupOf (by rfl) T.n_tuple PyProof.Rows.boot_tuple (pa_cons (pe_lc (own := [("_law_turn", 3)]) (g := gName 3) (by rfl) sc_l_word.nd
        (pi_range1 (by rfl) T.n_range (pa_cons (pe_call G hr (by rfl) T.l_taken.g T.l_taken.F.kp (b_l_taken T) .nil pass0 (pa_cons (pv 0) (pa_cons (pe_op op_add (pv 2) pe_int) pa_nil))) pa_nil))
        (blkOk_by (own := [("_law_turn", 3)]) (N := N_l_word) (sc := defScope s_l_word) (by decide +kernel)) (fun _ _ _ _ _ => pg_name (i := 3) sc_l_word.nd rfl (Or.inl rfl)) (fun _ _ _ _ _ => pts_nil)
        (fun _ _ _ _ _ => pe_call G hr (by rfl) T.l_taken.g T.l_taken.F.kp (b_l_taken T) .nil pass0 (pa_cons (pv 0) (pa_cons (pv 1) pa_nil)))) pa_nil))), ?_⟩
    refine go_taken (m := m + 1) hR (ev_var rfl) (ev_op (ev_var rfl) ev_c (rv_I0 (g := fun i j => V.int (i + j)))) (by omega) (by omega) fun v H1 v0 v1 hv1 k1 => ?_
    refine ⟨v, rfl, by omega, by omega, fun Dl hD => ?_⟩
    have hDH : ∀ x : Addr, H1 x = none → x ≠ r := fun x hx z => by
      obtain ⟨_, _, _, h, _⟩ := hv1
      rw [z, h] at hx
      cases hx
    have hDr := hDH Dl hD
    refine lc_range (lo := 0) (n := v.toNat) (fun i H' => RowV H' r s ∧ Keep r H1 H' ∧ ∃ ws : List Int, ws.length = i ∧ WordOk n.toNat ws ∧ H' Dl = some (.lst (iv ws))) ⟨hv1.ne hDr, (Keep.ex (Ex.new hD)), [], rfl, fun p hp => by simp at hp, upd_same⟩ (fun i H' hi p => ?_) (fun H' p => ?_)
    · obtain ⟨pv', pk, ws, hl, hw, hd⟩ := p
      refine ⟨rfl, ?_⟩
      show tCall (spTaken K) [] E0 (tCons (tVar 0) (tCons (tVar 1) tNil)) _ H' _
      refine go_taken (ns := ns) ((hR.mono k1 hv1).mono pk pv') (ev_var rfl) (ev_var rfl) n0 (by omega) fun x H2 x0 x1 hv2 k2 => ?_
      refine ⟨iv ws, k2 _ _ hDr hd, by rw [List.length_map, hl]; exact sz_lt (by omega), hv2.ne hDr, (pk.trans k2).mut hD, ws ++ [x], by rw [List.length_append, hl]; rfl, fun p hp => ?_, ?_⟩
      · obtain hp | hp := List.mem_append.mp hp
        · exact hw p hp
        · have : p = x := by simpa using hp
          omega
      · rw [upd_same]
        unfold iv
        rw [List.map_append]
        rfl
    · obtain ⟨pv', pk, ws, hl, hw, hd⟩ := p
      refine ⟨Dl, iv ws, rfl, .inl ⟨sq_of hd, fun l hln => ?_⟩⟩
      refine q l ws _ (pv'.ne fun z => ?_) ((k1.trans pk).trans (Keep.ex (Ex.new hln))) upd_same hw (by omega)
      obtain ⟨_, _, _, h, _⟩ := pv'
      rw [z, h] at hln
      cases hln
end
end DW
/-! Walks: the law's table. -/
namespace DW
open PySem PySem.Spec PyProof.Rows L2 Evl DR DE DM

theorem RowV.neOf {H : Hp} {r s q : Addr} (h : RowV H r s) (hq : H q = none) : q ≠ r := fun z => by
  obtain ⟨_, _, _, e, _⟩ := h
  rw [z, e] at hq
  cases hq
theorem Keep.fresh {r s q : Addr} {H H' : Hp} (k : Keep r H H') (h : RowV H' r s) (hq : H' q = none) : H q = none := by
  have hne := h.neOf hq
  cases e : H q with
  | none => rfl
  | some o =>
    rw [k q o hne e] at hq
    cases hq

section
variable {K : PySem.W.Frag} {σ : L2.St} {H H' : Hp} {ta tb te tl : TE} {t : TT} {z v : V} {ns : List Int} {a b r s : Addr} {D : Ends} {tu tz : TS} {g : TG} {j1 j2 : Nat} {vs : List Nat}
/-- [e for k, x in enumerate(xs) if p], xs a list of ints -/
theorem el_lcEn {xs : List Int} (f : Nat → Bool) (v : Nat → V) (h : Ev ta σ H (.ref a)) (hx : SqL K H a (iv xs)) (hz : xs.length ≤ 40000) (hw : ∀ x y, wipe (((wipe σ vs).set j1 (some x)).set j2 (some y)) vs = wipe σ vs)
    (ht : ∀ (i : Nat) (x : Int) H1, Ex H H1 → xs[i]? = some x → EvT t (((wipe σ vs).set j1 (some (.int (i : Nat)))).set j2 (some (.int x))) H1 (f i))
    (he : ∀ (i : Nat) (x : Int) H1, Ex H H1 → xs[i]? = some x → f i = true → Ev te (((wipe σ vs).set j1 (some (.int (i : Nat)))).set j2 (some (.int x))) H1 (v i)) :
    EvL (tLc (iEnum K (tCons ta tNil)) (gTup K 2 (gCons (gName j1) (gCons (gName j2) gNil))) t te vs) σ H (given xs.length f v) := fun H0 e Q q => h H0 e _ fun H1 e1 => by
  have qa : SqL K H1 a (iv xs) := ex_l (e.trans e1) hx
  refine ⟨a, iv xs, rfl, qa, fun Dl hD => ?_⟩
  refine ⟨fun i m H' => m = xs.length - i ∧ i ≤ xs.length ∧ Cw H1 f v Dl i H', ⟨xs.length, rfl, Nat.zero_le _, hD, Ex.new hD, upd_same⟩, ?_⟩
  rintro i m H' ⟨rfl, hi, p⟩
  have q1 : SqL K H' a (iv xs) := ex_l p.2.1 qa
  by_cases hlt : i < xs.length
  · have hx' : xs[i]? = some xs[i] := List.getElem?_eq_getElem hlt
    refine .inr ⟨⟨iv xs, _, q1, iv_of hx'⟩, Cw H1 f v Dl (i + 1), fun H'' p' => ⟨xs.length - (i + 1), by omega, rfl, hlt, p'⟩, fun vv H'' y => ?_⟩
    obtain ⟨T, x', rfl, hT, rfl, f1⟩ := y
    have ex' : x' = .int xs[i] := Option.some.inj ((f1 _ q1).symm.trans (iv_of hx'))
    subst ex'
    have p' : Cw H1 f v Dl i (upd H' T (.tup [.int (i : Nat), .int xs[i]])) := ⟨p.1, p.2.1.trans (Ex.new hT), Ex.new hT _ _ p.2.2⟩
    refine ⟨T, [.int (i : Nat), .int xs[i]], rfl, .inl (.inl upd_same), rfl, .int (i : Nat), [.int xs[i]], rfl, .int xs[i], [], rfl, rfl, hw _ _, ?_⟩
    exact cw_turn p' (by omega) (ht i _ H1 (e.trans e1) hx') fun hf => he i _ H1 (e.trans e1) hx' hf
  · have e2 : i = xs.length := by omega
    subst e2
    exact .inl ⟨⟨iv xs, q1, by simp⟩, q Dl H' (fresh_back e1 p.1) (e1.trans p.2.1) p.2.2⟩
theorem given_iv (n : Nat) (f : Nat → Bool) (g : Nat → Int) : given n f (fun i => .int (g i)) = iv (((List.range n).filter f).map g) := by
  unfold given iv
  rw [List.map_map]
  rfl
/-- return (factor, tuple) -/
theorem end_tab {f : Int} {xs : List Int} (h1 : Ev ta σ H (.int f)) (h2 : EvU te σ H (iv xs)) (k : ∀ t c H', Ex H H' → H' t = some (.tup [.int f, .ref c]) → H' c = some (.tup (iv xs)) → D.rt (.ref t) H') : tRet (tTup (tCons ta (tCons te tNil))) D σ H :=
  h1 H (Ex.refl H) _ fun H1 e1 => h2 H1 e1 _ fun c H2 _ e2 hc => ⟨by show 2 ≤ sizeLine; decide, fun t ht => k t c _ ((e1.trans e2).trans (Ex.new ht)) upd_same (Ex.new ht _ _ hc)⟩
theorem ixN_int {n : Nat} {j : Int} (h0 : 0 ≤ j) (h : j < n) : ixN n j = some j.toNat := by
  have e := Evl.ixN_nat (n := n) (j := j.toNat) (by omega)
  simp only [Int.toNat_of_nonneg h0] at e
  exact e
/-- (1,) * k -/
theorem eu_ones {n : Int} (h : Ev tb σ H (.int n)) (h1 : 1 ≤ n) (h2 : n ≤ 1000) : EvU (tOp (fun x y H Q => rRepT K x y H Q ∨ rRepT1 K x y H Q) (tTup (tCons (tC (.int 1)) tNil)) tb) σ H (iv (List.replicate n.toNat 1)) := fun H0 e Q q =>
  ⟨by show 1 ≤ sizeLine; decide, fun p hp => h _ (e.trans (Ex.new hp)) _ fun H1 e1 => by
    have hpe : H1 p = some (.tup [.int 1]) := e1 p _ upd_same
    by_cases h3 : n = 1
    · subst h3
      exact .inr ⟨p, [.int 1], rfl, rfl, st_of hpe, q p H1 hp ((Ex.new hp).trans e1) hpe⟩
    · refine .inl ⟨p, n, [.int 1], rfl, rfl, st_of hpe, by simp, by omega, h2, by simp, fun p2 hp2 => ?_⟩
      have ef : (List.replicate n.toNat [V.int 1]).flatten = iv (List.replicate n.toNat 1) := by
        unfold iv
        rw [List.map_replicate]
        generalize n.toNat = m
        induction m with
        | zero => rfl
        | succ m ih => simp [List.replicate_succ, ih]
      rw [ef]
      exact q p2 _ (fresh_back ((Ex.new hp).trans e1) hp2) (((Ex.new hp).trans e1).trans (Ex.new hp2)) upd_same⟩
end

section
variable {P : Program} {w : World} {K : PySem.W.Frag} {mg : Str → Option Value} {base : Heap} (T : Txt K mg)
def spTable (K : PySem.W.Frag) : Sp := fun vs H Q _ => ∃ (r s : Addr) (top : Int) (ns : List Int), vs = [.ref r, .int 5, .int top] ∧ RowAt K H r s ns ∧ 0 < top ∧ top ≤ 30 ∧
  ∀ (t c : Addr) (f : Int) (cs : List Int) H', RowV H' r s → Keep r H H' → H' t = some (.tup [.int f, .ref c]) → H' c = some (.tup (iv cs)) → TabOk f cs → cs.length ≤ 5 → Q (.ref t) H'
theorem ok_table : FnOk P w K mg base CX0 3 T.l_table.f T.l_table.fd P_l_table (spTable K) := by
  have Gp := ok_pick (P := P) (w := w) (base := base) T
  have Gt := ok_taken (P := P) (w := w) (base := base) T
  refine T.l_table.F.ok sc_l_table (fun vs H Q E h => ?_) (fun cdv A outer sh H vs Q E hr h => ?_)
  · obtain ⟨r, s, top, ns, rfl, _⟩ := h
    rfl
  · obtain ⟨r, s, top, ns, rfl, hR, t0, t30, q⟩ := h
    have hr1 := hr.mono (show 1 ≤ 2 by decide)
    refine ⟨_, pss_cons (ps_asg (pe_tup (pa_cons (pe_call Gp hr (by rfl) T.l_pick.g T.l_pick.F.kp (b_l_pick T) .nil pass0 (pa_cons (pv 0) (pa_cons (pe_lst (pa_cons pe_int (pa_cons pe_int (pa_cons pe_int (pa_cons pe_int (pa_cons pe_int (pa_cons pe_int (pa_cons pe_int pa_nil)))))))) pa_nil)))
          (pa_cons (pe_op op_add pe_int (pe_call Gt hr1 (by rfl) T.l_taken.g T.l_taken.F.kp (b_l_taken T) .nil pass0 (pa_cons (pv 0) (pa_cons (pv 1) pa_nil)))) pa_nil)))
        (pg_tup rfl (pgs_cons (pg_name (i := 3) sc_l_table.nd rfl (.inr rfl)) (pgs_cons (pg_name (i := 4) sc_l_table.nd rfl (.inl rfl)) pgs_nil))))
      (pss_cons (ps_set (i := 5) sc_l_table.nd rfl (.inl rfl) (pe_call Gt hr1 (by rfl) T.l_taken.g T.l_taken.F.kp (b_l_taken T) .nil pass0 (pa_cons (pv 0) (pa_cons pe_int pa_nil))))
      (pss_cons (ps_if (pt_cmpR op_lt (pv 5) pe_int (nomark _))
        (pss_cons (ps_par (i := 6) (j := 7) rfl sc_l_table.nd rfl rfl (by decide) rfl rfl (pa_cons (pe_op op_add pe_int (pe_call Gt hr1 (by rfl) T.l_taken.g T.l_taken.F.kp (b_l_taken T) .nil pass0 (pa_cons (pv 0) (pa_cons pe_int pa_nil)))) (pa_cons (pe_op op_rep (pe_lst (pa_cons pe_int pa_nil)) (pv 4)) pa_nil)) (by rfl))
        (pss_cons (ps_for PassesOwn.never rfl (pi_range1 (by rfl) T.n_range (pa_cons (pv 6) pa_nil)) (pg_name (i := 8) sc_l_table.nd rfl (.inl rfl))
          (pss_cons (ps_setLc (i := 7) (own := [("_law_one", 14)]) (g := gName 14) (by rfl) sc_l_table.nd rfl rfl (sw_true rfl rfl rfl (by decide +kernel)) (pi_list (pv 7)) (blkOk_by (own := [("_law_one", 14)]) (N := N_l_table) (sc := defScope s_l_table) (by decide +kernel))
            (fun _ _ _ _ _ => pg_name (i := 14) sc_l_table.nd rfl (Or.inl rfl)) (fun _ _ _ _ _ => pts_nil) (fun _ _ _ _ _ => pe_op op_mul (pv 3) (pv 14)))
          (pss_one (ps_augS (pv 7) (pe_call Gt hr1 (by rfl) T.l_taken.g T.l_taken.F.kp (b_l_taken T) .nil pass0 (pa_cons (pv 0) (pa_cons (pv 4) pa_nil))) get_list (pe_op op_sub (pv 3) pe_int) ip_add set_list))))
        (pss_cons (ps_set (i := 9) sc_l_table.nd rfl (.inr rfl) (pe_op op_add pe_int (pe_call Gt hr1 (by rfl) T.l_taken.g T.l_taken.F.kp (b_l_taken T) .nil pass0 (pa_cons (pv 0) (pa_cons pe_int pa_nil)))))
        (pss_one (ps_ret (pe_tup (pa_cons (pv 3) (pa_cons (pe_callTy call_tupOf (by rfl) T.n_tuple PyProof.Rows.boot_tuple (pa_cons (pe_lc (own := [("_law_one", 14)]) (g := gName 14) (by rfl) sc_l_table.nd (pi_list (pv 7)) (blkOk_by (own := [("_law_one", 14)]) (N := N_l_table) (sc := defScope s_l_table) (by decide +kernel))
            (fun _ _ _ _ _ => pg_name (i := 14) sc_l_table.nd rfl (Or.inl rfl)) (fun _ _ _ _ _ => pts_nil) (fun _ _ _ _ _ => pe_op op_mul (pv 14) (pv 9))) pa_nil)) pa_nil)))))))) pss_nil)
      (pss_cons (ps_if (pt_cmpR op_eq (pv 5) pe_int (nomark _))
        (pss_cons (ps_set (i := 7) sc_l_table.nd rfl (.inl rfl) (pe_op op_rep (pe_lst (pa_cons pe_int pa_nil)) (pv 4)))
        (pss_cons (ps_asg (pe_op op_add pe_int (pe_call Gt hr1 (by rfl) T.l_taken.g T.l_taken.F.kp (b_l_taken T) .nil pass0 (pa_cons (pv 0) (pa_cons pe_int pa_nil)))) (pg_sub (pv 7) (pe_call Gt hr1 (by rfl) T.l_taken.g T.l_taken.F.kp (b_l_taken T) .nil pass0 (pa_cons (pv 0) (pa_cons (pv 4) pa_nil))) set_list))
        (pss_cons (ps_for PassesOwn.never rfl (pi_range1 (by rfl) T.n_range (pa_cons (pe_call Gt hr1 (by rfl) T.l_taken.g T.l_taken.F.kp (b_l_taken T) .nil pass0 (pa_cons (pv 0) (pa_cons pe_int pa_nil))) pa_nil)) (pg_name (i := 8) sc_l_table.nd rfl (.inl rfl))
          (pss_cons (ps_set (i := 10) sc_l_table.nd rfl (.inr rfl) (pe_call Gt hr1 (by rfl) T.l_taken.g T.l_taken.F.kp (b_l_taken T) .nil pass0 (pa_cons (pv 0) (pa_cons (pv 4) pa_nil))))
          (pss_cons (ps_set (i := 11) sc_l_table.nd rfl (.inl rfl) (pe_callB (cr_sum rfl) (by rfl) T.n_sum PyProof.Rows.boot_sum (pa_cons (pv 7) pa_nil)))
          (pss_cons (ps_setLc (i := 12) (own := [("_law_k", 15), ("_law_one", 14)]) (g := gTup K 2 (gCons (gName 15) (gCons (gName 14) gNil))) (by rfl) sc_l_table.nd rfl rfl (sw_true rfl rfl rfl (by decide +kernel)) (pi_enum (by rfl) T.n_enumerate (pa_cons (pv 7) pa_nil)) (blkOk_by (own := [("_law_k", 15), ("_law_one", 14)]) (N := N_l_table) (sc := defScope s_l_table) (by decide +kernel))
            (fun _ _ _ _ _ => pg_tup rfl (pgs_cons (pg_name (i := 15) sc_l_table.nd rfl (Or.inl rfl)) (pgs_cons (pg_name (i := 14) sc_l_table.nd rfl (Or.inl rfl)) pgs_nil))) (fun _ _ _ _ _ => pts_one (pt_cmpR op_ne (pv 15) (pv 10) (nomark _))) (fun _ _ _ _ _ => pv 14))
          (pss_one (ps_if (pt_cmpR (op_eqD hr.units) (pe_lc (own := [("_law_one", 14)]) (g := gName 14) (by rfl) sc_l_table.nd (pi_list (pv 12)) (blkOk_by (own := [("_law_one", 14)]) (N := N_l_table) (sc := defScope s_l_table) (by decide +kernel))
              (fun _ _ _ _ _ => pg_name (i := 14) sc_l_table.nd rfl (Or.inl rfl)) (fun _ _ _ _ _ => pts_one (pt_cmpR op_ne (pe_op op_mod (pe_callTy call_intI (by rfl) T.n_int PyProof.Rows.boot_int (pa_cons (pv 14) pa_nil)) (pv 3)) pe_int (nomark _))) (fun _ _ _ _ _ => pv 14)) (pe_lst pa_nil) (nomark _))
            (pss_cons (ps_set (i := 13) sc_l_table.nd rfl (.inl rfl) (pe_op op_add (pe_ix ix_list (pv 7) (pv 10) (fun _ _ => rfl)) (pe_op op_mul (pe_op op_sub (pv 3) pe_int) (pv 11))))
            (pss_cons (ps_setLc (i := 7) (own := [("_law_one", 14)]) (g := gName 14) (by rfl) sc_l_table.nd rfl rfl (sw_true rfl rfl rfl (by decide +kernel)) (pi_list (pv 7)) (blkOk_by (own := [("_law_one", 14)]) (N := N_l_table) (sc := defScope s_l_table) (by decide +kernel))
              (fun _ _ _ _ _ => pg_name (i := 14) sc_l_table.nd rfl (Or.inl rfl)) (fun _ _ _ _ _ => pts_nil) (fun _ _ _ _ _ => pe_op op_fdiv (pv 14) (pv 3)))
            (pss_one (ps_asg (pe_op op_fdiv (pv 13) (pv 3)) (pg_sub (pv 7) (pv 10) set_list)))))
            (pss_one (ps_setLc (i := 7) (own := [("_law_one", 14)]) (g := gName 14) (by rfl) sc_l_table.nd rfl rfl (sw_true rfl rfl rfl (by decide +kernel)) (pi_list (pv 7)) (blkOk_by (own := [("_law_one", 14)]) (N := N_l_table) (sc := defScope s_l_table) (by decide +kernel))
              (fun _ _ _ _ _ => pg_name (i := 14) sc_l_table.nd rfl (Or.inl rfl)) (fun _ _ _ _ _ => pts_nil) (fun _ _ _ _ _ => pe_op op_mul (pv 3) (pv 14))))))))))
        (pss_one (ps_ret (pe_tup (pa_cons (pv 3) (pa_cons (pe_callTy call_tupOf (by rfl) T.n_tuple PyProof.Rows.boot_tuple (pa_cons (pv 7) pa_nil)) pa_nil)))))))) pss_nil)
      (pss_cons (ps_setLc (i := 7) (own := [("_law_k", 15)]) (g := gName 15) (by rfl) sc_l_table.nd rfl rfl (sw_true rfl rfl rfl (by decide +kernel)) (pi_range1 (by rfl) T.n_range (pa_cons (pv 4) pa_nil)) (blkOk_by (own := [("_law_k", 15)]) (N := N_l_table) (sc := defScope s_l_table) (by decide +kernel))
          (fun _ _ _ _ _ => pg_name (i := 15) sc_l_table.nd rfl (Or.inl rfl)) (fun _ _ _ _ _ => pts_nil) (fun _ _ _ _ _ => pe_call Gt hr1 (by rfl) T.l_taken.g T.l_taken.F.kp (b_l_taken T) .nil pass0 (pa_cons (pv 0) (pa_cons (pv 2) pa_nil))))
      (pss_one (ps_ret (pe_tup (pa_cons (pv 3) (pa_cons (pe_ifExp (pt_cmpR op_gt (pe_callB (cr_sum rfl) (by rfl) T.n_sum PyProof.Rows.boot_sum (pa_cons (pv 7) pa_nil)) pe_int (nomark _)) (pe_callTy call_tupOf (by rfl) T.n_tuple PyProof.Rows.boot_tuple (pa_cons (pv 7) pa_nil))
          (pe_op (OpR.or op_repT op_repT1) (pe_tup (pa_cons pe_int pa_nil)) (pv 4))) pa_nil))))))))), ?_⟩
    -- factor, players
    refine ⟨_, rfl, by decide, fun pl hpl => ?_⟩
    have hplr := hR.row.neOf hpl
    refine ⟨r, s, pl, ns, [2, 2, 2, 3, 3, 4, 9], rfl, hR.ex (Ex.new hpl), upd_same, hplr, by decide, by decide, fun f H1 hf hv1 k1' => ?_⟩
    have k1 : Keep r H H1 := (Keep.ex (Ex.new hpl)).trans k1'
    have f29 : 2 ≤ f ∧ f ≤ 9 := by
      simp only [List.mem_cons, List.not_mem_nil, or_false] at hf
      omega
    obtain ⟨f2, f9⟩ := f29
    refine go_taken (m := 5) (hR.mono k1 hv1) (ev_var rfl) (ev_var rfl) (by decide) (by decide) fun n' H2 n0 n4 hv2 k2' => ?_
    have k2 := k1.trans k2'
    obtain ⟨n, hn⟩ : ∃ n : Nat, 1 + n' = (n : Int) := ⟨(1 + n').toNat, by omega⟩
    have en : (fun i j : Int => V.int (i + j)) 1 n' = V.int (n : Int) := congrArg V.int hn
    refine ⟨1, n', rfl, rfl, ?_⟩
    rw [en]
    refine ⟨by show 2 ≤ sizeLine; decide, fun pt hpt => ⟨pt, _, rfl, .inl (.inl upd_same), rfl, _, _, rfl, _, _, rfl, rfl, ?_⟩⟩
    have n1 : 1 ≤ n := by omega
    have n5 : n ≤ 5 := by omega
    have hv3 : RowV (upd H2 pt (.tup [.int f, .int (n : Int)])) r s := hv2.ne (hv2.neOf hpt)
    have k3 : Keep r H (upd H2 pt (.tup [.int f, .int (n : Int)])) := k2.trans (Keep.ex (Ex.new hpt))
    revert hv3 k3
    generalize upd H2 pt (.tup [.int f, .int (n : Int)]) = H3
    intro hv3 k3
    clear hpt hv2 k2' k2 hv1 k1' k1
    -- way
    refine go_taken (m := 5) (hR.mono k3 hv3) (ev_var rfl) ev_c (by decide) (by decide) fun wy H4 w0 w4 hv4 k4' => ?_
    have k4 := k3.trans k4'
    clear hv3 k3 k4'
    refine q_when (et_test (ev_op (ev_var rfl) ev_c (rv_I0 (g := fun i j => V.bl (decide (i < j)))))) (fun hb H5 e5 => ?_) fun hb H5 e5 => ?_
    · -- a word's digits
      have hv5 := hv4.ex e5
      have k5 := k4.trans (Keep.ex e5)
      clear hv4 k4
      refine go_taken (m := 5) (hR.mono k5 hv5) (ev_var rfl) ev_c (by decide) (by decide) fun sz H6 z0 z4 hv6 k6' => ⟨1, sz, rfl, rfl, ?_⟩
      have k6 := k5.trans k6'
      refine el_rep1 (k := (n : Int)) (w := 0) ev_c (ev_var rfl) (by omega) (by omega) H6 (Ex.refl _) _ fun p0 H7 hp0 e7 h7 => ⟨_, _, rfl, ?_⟩
      rw [Int.toNat_natCast] at h7
      have hv7 := hv6.ex e7
      have k7 := k6.trans (Keep.ex e7)
      have hp0H := k6.fresh hv6 hp0
      refine q_forR1 (n := 1 + sz) (ea_cons (ev_var rfl) ea_nil) ⟨by omega, by omega⟩ (fun i σ' H' => ∃ (p : Addr) (y8 : Option V) (xs : List Int), σ' = [some (.ref r), some (.int 5), some (.int top), some (.int f), some (.int (n : Int)), some (.int wy), some (.int (1 + sz)), some (.ref p), y8, none, none, none, none, none, none, none] ∧
          RowV H' r s ∧ Keep r H H' ∧ H p = none ∧ H' p = some (.lst (iv xs)) ∧ xs.length = n ∧ (∀ x ∈ xs, 0 ≤ x ∧ x ≤ 9 ^ i - 1) ∧ (i = 0 ∨ 0 < xs.sum))
        (fun H8 e8 => ⟨p0, none, List.replicate n 0, rfl, hv7.ex e8, k7.trans (Keep.ex e8), hp0H, e8 _ _ h7, List.length_replicate, fun x hx => by rw [(List.mem_replicate.mp hx).2]; decide, .inl rfl⟩) (fun i σ' H' hi p => ?_) (fun σ' H' p => ?_)
      · obtain ⟨p, y8, xs, rfl, hv, kk, hp, hx, lx, bx, sx⟩ := p
        refine q_asgL (el_mpL (f * ·) (ev_var rfl) (sq_of hx) (by omega) (fun _ => rfl) fun k hk H3 e3 => ev_op (ev_var rfl) (ev_var rfl) (rv_I (g := fun i j => V.int (i * j)) (C := CMul) (.inl ⟨by omega, by omega⟩))) fun p2 H8 hp2 e8 h8 => ?_
        have hp2H := kk.fresh hv hp2
        have hp2r := hv.neOf hp2
        refine ⟨_, rfl, go_taken (m := (n : Int)) (ns := ns) (hR.mono (kk.trans (Keep.ex e8)) (hv.ex e8)) (ev_var rfl) (ev_var rfl) (by omega) (by omega) fun j H9 j0 j1 hv9 k9 => ?_⟩
        have h9 := k9 _ _ hp2r h8
        have hlt : j.toNat < xs.length := by omega
        have hlt' : j.toNat < (xs.map (f * ·)).length := by rw [List.length_map]; exact hlt
        have hj := List.getElem?_eq_getElem hlt'
        refine ⟨p2, iv (xs.map (f * ·)), j, _, rfl, rfl, sq_of h9, j0, iv_of hj, _, rfl, f, 1, rfl, rfl, _, _, rfl, rfl, p2, _, j, j.toNat, rfl, rfl, h9, ixN_int j0 (by rw [List.length_map, List.length_map]; omega), ?_⟩
        rw [iv_set, stepN_set f xs j.toNat _ hj]
        obtain ⟨s1, s2⟩ := step9 f2 f9 bx hlt
        exact ⟨p2, _, stepN f xs j.toNat, rfl, hv9.ne hp2r, ((kk.trans (Keep.ex e8)).trans k9).mut hp2H, hp2H, upd_same, by rw [stepN_length]; exact lx, s1, .inr s2⟩
      · obtain ⟨p, y8, xs, rfl, hv, kk, hp, hx, lx, bx, sx⟩ := p
        have hpr := hR.row.neOf hp
        refine go_taken (m := 3) (hR.mono kk hv) (ev_var rfl) ev_c (by decide) (by decide) fun mn H8 m0 m2 hv8 k8 => ⟨1, mn, rfl, rfl, ?_⟩
        have h8 := k8 _ _ hpr hx
        have bx5 : ∀ x ∈ xs, 0 ≤ x ∧ x ≤ 59048 := fun x hm => by
          have h1 := bx x hm
          have h2 := pow9_le (show (1 + sz).toNat ≤ 5 by omega)
          have h3 : (9 : Int) ^ 5 = 59049 := by decide
          omega
        refine end_tab (f := f) (xs := xs.map (· * (1 + mn))) (ev_var rfl) (eu_tupN (el_mpL (· * (1 + mn)) (ev_var rfl) (sq_of h8) (by omega) (fun _ => rfl) fun k hk H3 e3 => ev_op (ev_var rfl) (ev_var rfl) (rv_I (g := fun i j => V.int (i * j)) (C := CMul) (.inr ⟨by omega, by omega⟩)))) fun t c H9 e9 ht hc => ?_
        refine q t c f _ H9 (hv8.ex e9) ((kk.trans k8).trans (Keep.ex e9)) ht hc ⟨f2, f9, by rw [List.length_map]; omega, by rw [List.length_map]; omega, fun z hz => ?_, ?_⟩ (by rw [List.length_map]; omega)
        · obtain ⟨x, hm, rfl⟩ := List.mem_map.mp hz
          have h1 := bx5 x hm
          have h2 : 0 ≤ x * (1 + mn) := Int.mul_nonneg h1.1 (by omega)
          have h3 : x * (1 + mn) ≤ x * 3 := Int.mul_le_mul_of_nonneg_left (by omega) h1.1
          exact ⟨h2, by show x * (1 + mn) ≤ 1000000; omega⟩
        · rw [sum_map_mulr]
          have hs : 0 < xs.sum := by
            rcases sx with h | h
            · omega
            · exact h
          exact Int.mul_pos hs (by omega)
    · have hv5 := hv4.ex e5
      have k5 := k4.trans (Keep.ex e5)
      clear hv4 k4
      refine q_when (et_test (ev_op (ev_var rfl) ev_c (rv_eq rfl))) (fun hb2 H6 e6 => ?_) fun hb2 H6 e6 => ?_
      · -- rounds back and on
        have hv6 := hv5.ex e6
        have k6 := k5.trans (Keep.ex e6)
        refine q_asgL (el_rep1 (k := (n : Int)) (w := 0) ev_c (ev_var rfl) (by omega) (by omega)) fun p0 H7 hp0 e7 h7 => ?_
        rw [Int.toNat_natCast] at h7
        have hv7 := hv6.ex e7
        have k7 := k6.trans (Keep.ex e7)
        have hp0H := k6.fresh hv6 hp0
        have hp0r := hv6.neOf hp0
        refine go_taken (m := 9) (hR.mono k7 hv7) (ev_var rfl) ev_c (by decide) (by decide) fun x0 H8 x00 x08 hv8 k8' => ⟨1, x0, rfl, rfl, ?_⟩
        have k8 := k7.trans k8'
        refine ⟨_, rfl, go_taken (m := (n : Int)) (hR.mono k8 hv8) (ev_var rfl) (ev_var rfl) (by omega) (by omega) fun j H9 j0 j1 hv9 k9' => ?_⟩
        have k9 := k8.trans k9'
        have h9 := k9' _ _ hp0r (k8' _ _ hp0r h7)
        refine ⟨p0, _, j, j.toNat, rfl, rfl, h9, ixN_int j0 (by rw [List.length_map, List.length_replicate]; omega), ?_⟩
        rw [iv_set]
        have hv10 : RowV (upd H9 p0 (.lst (iv ((List.replicate n 0).set j.toNat (1 + x0))))) r s := hv9.ne hp0r
        have k10 : Keep r H (upd H9 p0 (.lst (iv ((List.replicate n 0).set j.toNat (1 + x0))))) := k9.mut hp0H
        refine go_taken (m := 5) (hR.mono k10 hv10) (ev_var rfl) ev_c (by decide) (by decide) fun tn H11 t0' t4 hv11 k11' => ?_
        have k11 := k10.trans k11'
        have h11 := k11' _ _ hp0r upd_same
        refine ⟨tn, rfl, by omega, by omega, ?_⟩
        refine for_range (lo := 0) (n := tn.toNat) (fun i σ' H' => ∃ (p : Addr) (y8 y10 y11 y12 y13 : Option V) (xs : List Int), σ' = [some (.ref r), some (.int 5), some (.int top), some (.int f), some (.int (n : Int)), some (.int wy), none, some (.ref p), y8, none, y10, y11, y12, y13, none, none] ∧
            RowV H' r s ∧ Keep r H H' ∧ H p = none ∧ H' p = some (.lst (iv xs)) ∧ xs.length = n ∧ (∀ x ∈ xs, 0 ≤ x ∧ x ≤ 9 ^ (i + 1)) ∧ ∃ x ∈ xs, 0 < x)
          ⟨p0, none, none, none, none, none, _, rfl, hv11, k11, hp0H, h11, by rw [List.length_set, List.length_replicate], fun x hx => ?_, 1 + x0, ?_, by omega⟩ (fun i σ' H' hi p => ?_) (fun σ' H' p => ?_)
        · rcases List.mem_or_eq_of_mem_set hx with hx | rfl
          · rw [(List.mem_replicate.mp hx).2]
            decide
          · have : (9 : Int) ^ (0 + 1) = 9 := by decide
            omega
        · exact List.mem_of_getElem? (i := j.toNat) (List.getElem?_set_self (by rw [List.length_replicate]; omega))
        · obtain ⟨p, y8, y10, y11, y12, y13, xs, rfl, hv, kk, hp, hx, lx, bx, px⟩ := p
          have hpr := hR.row.neOf hp
          refine go_taken (m := (n : Int)) (ns := ns) (hR.mono kk hv) (ev_var rfl) (ev_var rfl) (by omega) (by omega) fun py H12 py0 py1 hv12 k12' => ?_
          have k12 := kk.trans k12'
          have h12 := k12' _ _ hpr hx
          have hlt : py.toNat < xs.length := by omega
          have epy : py = ((py.toNat : Nat) : Int) := (Int.toNat_of_nonneg py0).symm
          refine q_asg (ev_sumL (ns := xs) (ev_var rfl) (sq_of h12)) fun H13 e13 => ?_
          have h13 := e13 _ _ h12
          refine q_asgL (el_lcEn (xs := xs) (fun (i : Nat) => !decide ((i : Int) = py)) (fun i => .int (xs.getD i 0)) (ev_var rfl) (sq_of h13) (by omega) (fun _ _ => rfl) (fun i x H3 e3 hi => et_is (et_test (ev_op (ev_var rfl) (ev_var rfl) (rv_ne (x := .int (i : Nat)) (y := .int py) rfl))) (by rw [dec_int])) (fun i x H3 e3 hi hf => ev_is (ev_var (v := .int x) rfl) (by rw [List.getD_eq_getElem?_getD, hi]; rfl))) fun po H14 hpo e14 h14 => ?_
          rw [given_iv] at h14
          have h14x := e14 _ _ h13
          have hosl : (((List.range xs.length).filter fun (i : Nat) => !decide ((i : Int) = py)).map fun i => xs.getD i 0).length ≤ 5 := by
            rw [List.length_map]
            have := List.length_filter_le (fun i : Nat => !decide ((i : Int) = py)) (List.range xs.length)
            rw [List.length_range] at this
            omega
          have hvA := (hv12.ex e13).ex e14
          have kA := k12.trans (Keep.ex (e13.trans e14))
          refine s_if (et_eqNil (ns := ((((List.range xs.length).filter fun (i : Nat) => !decide ((i : Int) = py)).map fun i => xs.getD i 0).filter fun x => !decide (x % f = 0))) (el_flL (fun x => !decide (x % f = 0)) (ev_var rfl) (sq_of h14) (by omega) (fun _ => rfl) (fun x hx H3 e3 => et_is (et_test (ev_op (ev_op (ev_int1 (ev_var rfl)) (ev_var rfl) (rv_I (g := fun i j => V.int (i % j)) (C := fun _ j => 0 < j) (by omega))) ev_c (rv_ne rfl))) (by rw [dec_int])) (fun _ => rfl))) (fun hd H15 e15 => ?_) fun hd H15 e15 => ?_
          · have h15 := e15 _ _ h14x
            have hd' := of_decide_eq_true hd
            rw [List.filter_eq_nil_iff] at hd'
            have hxj : xs[py.toNat]? = some (xs.getD py.toNat 0) := by
              rw [List.getD_eq_getElem?_getD, List.getElem?_eq_getElem hlt]
              rfl
            have hdiv : ∀ (i : Nat) x, i ≠ py.toNat → xs[i]? = some x → x % f = 0 := fun i x hne hi => by
              have hil : i < xs.length := (List.getElem?_eq_some_iff.mp hi).1
              have hm : x ∈ (((List.range xs.length).filter fun (i : Nat) => !decide ((i : Int) = py)).map fun i => xs.getD i 0) := by
                refine List.mem_map.mpr ⟨i, List.mem_filter.mpr ⟨List.mem_range.mpr hil, ?_⟩, by rw [List.getD_eq_getElem?_getD, hi]; rfl⟩
                rw [decide_eq_false (show ¬ _ by omega)]
                rfl
              have := hd' x hm
              simpa using this
            refine q_asg (v := .int (xs.getD py.toNat 0 + (f - 1) * xs.sum)) (ev_op (ev_ixAtL (ev_var rfl) (sq_of h15) (ev_is (ev_var rfl) (congrArg V.int epy)) hlt) (ev_op (ev_op (ev_var rfl) ev_c (rv_I0 (g := fun i j => V.int (i - j)))) (ev_var rfl) (rv_I (g := fun i j => V.int (i * j)) (C := CMul) (.inl ⟨by omega, by omega⟩))) (rv_I0 (g := fun i j => V.int (i + j)))) fun H16 e16 => ?_
            refine q_asgL (el_mpL (· / f) (ev_var rfl) (sq_of (e16 _ _ h15)) (by omega) (fun _ => rfl) fun k hk H3 e3 => ev_op (ev_var rfl) (ev_var rfl) (rv_I (g := fun i j => V.int (i / j)) (C := CDiv) ⟨by omega, by omega⟩)) fun p7 H17 hp7 e17 h17 => ?_
            have hvB := (hvA.ex e15).ex e16
            have kB := kA.trans (Keep.ex (e15.trans e16))
            have hp7H := kB.fresh hvB hp7
            have hp7r := hvB.neOf hp7
            refine s_setL (j := py.toNat) h17 (ev_op (ev_var rfl) (ev_var rfl) (rv_I (g := fun i j => V.int (i / j)) (C := CDiv) ⟨by omega, by omega⟩)) (ev_var rfl) (ev_is (ev_var rfl) (congrArg V.int epy)) (by rw [List.length_map, List.length_map]; exact hlt) fun H18 e18 => ?_
            rw [iv_set]
            obtain ⟨d1, d2⟩ := tabDiv f2 bx px (by omega) hxj hdiv
            exact ⟨p7, _, _, _, _, _, _, rfl, ((hvB.ex e17).ex e18).ne hp7r, (kB.trans (Keep.ex (e17.trans e18))).mut hp7H, hp7H, upd_same, by rw [List.length_set, List.length_map]; exact lx, fun z hz => by
              have := d1 z hz
              rw [Int.pow_succ]
              omega, d2⟩
          · have h15 := e15 _ _ h14x
            refine s_asgL (el_mpL (f * ·) (ev_var rfl) (sq_of h15) (by omega) (fun _ => rfl) fun k hk H3 e3 => ev_op (ev_var rfl) (ev_var rfl) (rv_I (g := fun i j => V.int (i * j)) (C := CMul) (.inl ⟨by omega, by omega⟩))) fun p7 H17 hp7 e17 h17 => ?_
            have hvB := hvA.ex e15
            have kB := kA.trans (Keep.ex e15)
            have hp7H := kB.fresh hvB hp7
            obtain ⟨d1, d2⟩ := tabMul f2 f9 bx px
            exact ⟨p7, _, _, _, _, _, _, rfl, hvB.ex e17, kB.trans (Keep.ex e17), hp7H, h17, by rw [List.length_map]; exact lx, fun z hz => by
              have := d1 z hz
              rw [Int.pow_succ]
              omega, d2⟩
        · obtain ⟨p, y8, y10, y11, y12, y13, xs, rfl, hv, kk, hp, hx, lx, bx, px⟩ := p
          refine end_tab (f := f) (xs := xs) (ev_var rfl) (eu_tupL (a := p) (ev_var rfl) (sq_of hx)) fun t c H9 e9 ht hc => ?_
          refine q t c f xs H9 (hv.ex e9) (kk.trans (Keep.ex e9)) ht hc ⟨f2, f9, by omega, by omega, fun z hz => ?_, ?_⟩ (by omega)
          · have h1 := bx z hz
            have h2 := pow9_le (show tn.toNat + 1 ≤ 5 by omega)
            have h3 : (9 : Int) ^ 5 = 59049 := by decide
            omega
          · obtain ⟨x, hm, h0⟩ := px
            exact sum_pos (fun y hy => (bx y hy).1) hm h0
      · -- drawn coins
        have hv6 := hv5.ex e6
        have k6 := k5.trans (Keep.ex e6)
        refine ⟨_, rfl, (n : Int), rfl, by omega, by omega, fun Dl hD => ?_⟩
        have hDH := k6.fresh hv6 hD
        have hDr := hv6.neOf hD
        refine lc_range (lo := 0) (n := (n : Int).toNat) (fun i H' => RowV H' r s ∧ Keep r H H' ∧ ∃ xs : List Int, xs.length = i ∧ (∀ x ∈ xs, 0 ≤ x ∧ x < top) ∧ H' Dl = some (.lst (iv xs))) ⟨hv6.ne hDr, k6.trans (Keep.ex (Ex.new hD)), [], rfl, fun p hp => by simp at hp, upd_same⟩ (fun i H' hi p => ?_) (fun H' p => ?_)
        · obtain ⟨pv', pk, xs, hl, hw, hd⟩ := p
          refine ⟨rfl, ?_⟩
          show tCall (spTaken K) [] E0 (tCons (tVar 0) (tCons (tVar 2) tNil)) _ H' _
          refine go_taken (ns := ns) (hR.mono pk pv') (ev_var rfl) (ev_var rfl) t0 (by omega) fun x H7 x0 x1 hv7 k7 => ?_
          refine ⟨iv xs, k7 _ _ hDr hd, by rw [List.length_map, hl]; exact sz_lt (by omega), hv7.ne hDr, (pk.trans k7).mut hDH, xs ++ [x], by rw [List.length_append, hl]; rfl, fun p hp => ?_, ?_⟩
          · obtain hp | hp := List.mem_append.mp hp
            · exact hw p hp
            · have : p = x := by simpa using hp
              omega
          · rw [upd_same]
            unfold iv
            rw [List.map_append]
            rfl
        · obtain ⟨pv', pk, xs, hl, hw, hd⟩ := p
          rw [Int.toNat_natCast] at hl
          by_cases hs : 0 < xs.sum
          · refine end_tab (f := f) (xs := xs) (ev_var rfl) (fun H8 e8 Q8 q8 => ?_) fun t c H9 e9 ht hc => ?_
            · refine et_test (ev_op (ev_sumL (ns := xs) (a := Dl) (ev_var rfl) (sq_of (e8 _ _ hd))) ev_c (rv_I0 (g := fun i j => V.bl (decide (j < i))))) H8 (Ex.refl _) _ fun H9 e9 => ?_
              rw [decide_eq_true hs]
              exact iteT (eu_tupL (a := Dl) (ev_var rfl) (sq_of (e9 _ _ (e8 _ _ hd))) H9 (Ex.refl _) _ fun p H10 hp e10 h10 => q8 p H10 (fresh_back e9 hp) (e9.trans e10) h10)
            · exact q t c f xs H9 (pv'.ex e9) (pk.trans (Keep.ex e9)) ht hc ⟨f2, f9, by omega, by omega, fun z hz => by have := hw z hz; omega, hs⟩ (by omega)
          · refine end_tab (f := f) (xs := List.replicate (n : Int).toNat 1) (ev_var rfl) (fun H8 e8 Q8 q8 => ?_) fun t c H9 e9 ht hc => ?_
            · refine et_test (ev_op (ev_sumL (ns := xs) (a := Dl) (ev_var rfl) (sq_of (e8 _ _ hd))) ev_c (rv_I0 (g := fun i j => V.bl (decide (j < i))))) H8 (Ex.refl _) _ fun H9 e9 => ?_
              rw [decide_eq_false hs]
              exact iteF (eu_ones (n := (n : Int)) (ev_var rfl) (by omega) (by omega) H9 (Ex.refl _) _ fun p H10 hp e10 h10 => q8 p H10 (fresh_back e9 hp) (e9.trans e10) h10)
            · rw [Int.toNat_natCast] at hc
              exact q t c f (List.replicate n 1) H9 (pv'.ex e9) (pk.trans (Keep.ex e9)) ht hc ⟨f2, f9, by rw [List.length_replicate]; omega, by rw [List.length_replicate]; omega, fun z hz => by rw [(List.mem_replicate.mp hz).2]; decide, by rw [sum_replicate1]; omega⟩ (by rw [List.length_replicate]; omega)
end
end DW
/-! The law. -/
namespace DW
open PySem PySem.Spec PyProof.Rows L2 Evl DR DE DM

theorem reto_some {o : Option (List Int)} {w : List Int} {H : Hp} {Q : VK} (e : o = some w) (q : RetU (iv w) H Q) : RetO o H Q :=
  ⟨fun h => (by rw [e] at h; cases h), fun w' hw => (by rw [e] at hw; cases hw; exact q)⟩
theorem reto_none {o : Option (List Int)} {H : Hp} {Q : VK} (e : o = none) (q : RetV .non H Q) : RetO o H Q :=
  ⟨fun _ => q, fun w' hw => (by rw [e] at hw; cases hw)⟩
theorem given_addN (v : Int) (xs : List Int) (j : Nat) : given xs.length (fun _ => true) (fun i => .int (xs.getD i 0 + if i = j then v else 0)) = iv (addN v xs j) := by
  rw [given_iv]
  congr 1
  apply List.ext_getElem?
  intro i
  rw [List.getElem?_map, List.filter_eq_self.mpr fun _ _ => rfl]
  by_cases hi : i < xs.length
  · have hx : xs[i]? = some xs[i] := List.getElem?_eq_getElem hi
    rw [addN_get v xs j i _ hx, List.getElem?_range hi]
    have e : xs.getD i 0 = xs[i] := by rw [List.getD_eq_getElem?_getD, hx]; rfl
    show some (xs.getD i 0 + if i = j then v else 0) = _
    rw [e]
    by_cases hij : i = j
    · simp [hij]
    · simp [hij]
  · rw [List.getElem?_eq_none (show (List.range xs.length).length ≤ i by rw [List.length_range]; omega), List.getElem?_eq_none (show (addN v xs j).length ≤ i by rw [addN_length]; omega)]
    rfl

section
variable {K : PySem.W.Frag} {σ : L2.St} {H H' : Hp} {ta tb te tl : TE} {t : TT} {x y z v : V} {ns : List Int} {a b r s : Addr} {D : Ends} {tu tz : TS} {g : TG} {xs ys : List V} {E : XK} {sp : Sp}
theorem asg_go {i : Nat} {tz : TS} {D : Ends} {rt : VK} {bk ct : L2.St → Hp → Prop} (h : tz D (σ.set i (some x)) H) : gName i x σ H (Ends.mk (tz D) rt bk ct).nx := h
/-- the first operand a new tuple -/
theorem ev_opU1 {rr : R2} (ha : EvU ta σ H xs) (hb : ∀ H1, Ex H H1 → Ev tb σ H1 y) (hr : ∀ p H1, H1 p = some (.tup xs) → Ex H H1 → RV rr (.ref p) y H1 z) : Ev (tOp rr ta tb) σ H z := fun H1 e Q q =>
  ha H1 e _ fun p Ha _ ea at_ => hb Ha (e.trans ea) Ha (Ex.refl Ha) _ fun Hb eb => hr p Hb (eb p _ at_) ((e.trans ea).trans eb) Hb (Ex.refl Hb) Q fun Hc ec => q Hc ((ea.trans eb).trans ec)
/-- a call of two arguments, the first a new tuple: a value back -/
theorem ev_call1U (ha : EvU ta σ H xs) (hb : ∀ H1, Ex H H1 → Ev tb σ H1 y) (hs : ∀ p H1, H1 p = some (.tup xs) → Ex H H1 → ∀ Q : VK, RetV z H1 Q → sp [.ref p, y] H1 Q E) : Ev (tCall sp [] E (tCons ta (tCons tb tNil))) σ H z := fun H1 e Q q =>
  ha H1 e _ fun p H2 _ e2 hp => hb H2 (e.trans e2) H2 (Ex.refl H2) _ fun H3 e3 => hs p H3 (e3 p _ hp) ((e.trans e2).trans e3) Q fun H4 e4 => q H4 ((e2.trans e3).trans e4)
/-- .., the second a new tuple: a new tuple back -/
theorem eu_call2U (ha : Ev ta σ H x) (hb : EvU tb σ H ys) (hs : ∀ p H1, H1 p = some (.tup ys) → Ex H H1 → ∀ Q : VK, RetU xs H1 Q → sp [x, .ref p] H1 Q E) : EvU (tCall sp [] E (tCons ta (tCons tb tNil))) σ H xs := fun H1 e Q q =>
  ha H1 e _ fun H2 e2 => hb H2 (e.trans e2) _ fun p H3 _ e3 hp => hs p H3 hp ((e.trans e2).trans e3) Q fun p4 H4 hp4 e4 h4 => q p4 H4 (fresh_back (e2.trans e3) hp4) ((e2.trans e3).trans e4) h4
end

section
variable {P : Program} {w : World} {K : PySem.W.Frag} {mg : Str → Option Value} {base : Heap} (T : Txt K mg)
def spLaw (K : PySem.W.Frag) : Sp := fun vs H Q _ => ∃ (a : Addr) (ns : List Int), vs = [.ref a] ∧ SqL K H a (ns.map V.int) ∧ ns.length ≤ 63 ∧ ∀ H', Q (.bl true) H'
/-- what stands behind the draws -/
structure Drawn (K : PySem.W.Frag) (H : Hp) (r t c wd la : Addr) (f : Int) (cs ws : List Int) : Prop where
  row : ∃ o, H r = some (.lst o)
  tab : TabAt K H t f cs
  coins : SqT K H c (iv cs)
  word : SqT K H wd (iv ws)
  last : SqT K H la (iv (after f cs ws))
theorem Drawn.ex {H H' : Hp} {r t c wd la : Addr} {f : Int} {cs ws : List Int} (d : Drawn K H r t c wd la f cs ws) (e : Ex H H') : Drawn K H' r t c wd la f cs ws :=
  ⟨by obtain ⟨o, h⟩ := d.row; exact ⟨o, e _ _ h⟩, d.tab.mono e, ex_t e d.coins, ex_t e d.word, ex_t e d.last⟩
theorem Drawn.keep {H H' : Hp} {r s t c wd la : Addr} {f : Int} {cs ws : List Int} (d : Drawn K H r t c wd la f cs ws) (k : Keep r H H') (v : RowV H' r s) : Drawn K H' r t c wd la f cs ws := by
  obtain ⟨o, h⟩ := d.row
  obtain ⟨tc, h1, h2⟩ := d.tab
  obtain ⟨i, b, c', hv, _⟩ := v
  exact ⟨⟨_, hv⟩, ⟨tc, k.tup h h1, k.tup h h2⟩, k.tup h d.coins, k.tup h d.word, k.tup h d.last⟩
theorem ok_law (T : Txt K mg) {f0 : Addr} {fd0 : FuncData} (F0 : Fun K "law" "law" s_law f0 fd0) : FnOk P w K mg base CX0 6 f0 fd0 P_law (spLaw K) := by
  have Gtab := ok_table (P := P) (w := w) (base := base) T
  have Gpick := ok_pick (P := P) (w := w) (base := base) T
  have Gword := ok_word (P := P) (w := w) (base := base) T
  have Gafter := ok_after_word (P := P) (w := w) (base := base) T
  have Gstart := ok_start_for (P := P) (w := w) (base := base) T
  have Gbetw := ok_word_between (P := P) (w := w) (base := base) T
  have Gfew := ok_fewest_rounds (P := P) (w := w) (base := base) T
  have Galike := ok_alikeT (P := P) (w := w) (base := base) T
  have Gsigned := ok_signed (P := P) (w := w) (base := base) T
  have Galong := ok_along (P := P) (w := w) (base := base) T
  refine F0.ok sc_law (fun vs H Q E h => ?_) (fun cdv A outer sh H vs Q E hr h => ?_)
  · obtain ⟨a, ns, rfl, _⟩ := h
    rfl
  · obtain ⟨s, ns, rfl, hS, hns, q⟩ := h
    have h2 := hr.mono (show 2 ≤ 5 by decide)
    have h3 := hr.mono (show 3 ≤ 5 by decide)
    have h4 := hr.mono (show 4 ≤ 5 by decide)
    refine ⟨_, pss_cons (ps_set (i := 1) sc_law.nd rfl (.inr rfl) (pe_lst (pa_cons (pv 0) (pa_cons pe_int (pa_cons pe_int (pa_cons pe_int pa_nil))))))
      (pss_cons (ps_set (i := 2) sc_law.nd rfl (.inl rfl) (pe_call Gtab h3 (by rfl) T.l_table.g T.l_table.F.kp (b_l_table T) .nil pass0 (pa_cons (pv 1) (pa_cons pe_int (pa_cons (pe_call Gpick h2 (by rfl) T.l_pick.g T.l_pick.F.kp (b_l_pick T) .nil pass0 (pa_cons (pv 1) (pa_cons (pe_lst (pa_cons pe_int (pa_cons pe_int pa_nil))) pa_nil))) pa_nil)))))
      (pss_cons (ps_asg (pv 2) (pg_tup rfl (pgs_cons (pg_name (i := 3) sc_law.nd rfl (.inr rfl)) (pgs_cons (pg_name (i := 4) sc_law.nd rfl (.inl rfl)) pgs_nil))))
      (pss_cons (ps_set (i := 5) sc_law.nd rfl (.inl rfl) (pe_callB call_lenS (by rfl) T.n_len PySem.boot_len (pa_cons (pv 4) pa_nil)))
      (pss_cons (ps_set (i := 6) sc_law.nd rfl (.inl rfl) (pe_call Gword h2 (by rfl) T.l_word.g T.l_word.F.kp (b_l_word T) .nil pass0 (pa_cons (pv 1) (pa_cons (pv 5) (pa_cons (pe_call Gpick h2 (by rfl) T.l_pick.g T.l_pick.F.kp (b_l_pick T) .nil pass0 (pa_cons (pv 1) (pa_cons (pe_lst (pa_cons pe_int (pa_cons pe_int pa_nil))) pa_nil))) pa_nil)))))
      (pss_cons (ps_set (i := 7) sc_law.nd rfl (.inl rfl) (pe_call Gafter h4 (by rfl) T.after_word.g T.after_word.F.kp (b_after_word T) .nil pass0 (pa_cons (pv 2) (pa_cons (pv 6) pa_nil))))
      (pss_cons (ps_if (pt_not (pt_val (pe_call Galike h2 (by rfl) T.l_alike.g T.l_alike.F.kp (b_l_alike T) .nil pass0 (pa_cons (pe_call Gstart h4 (by rfl) T.start_for.g T.start_for.F.kp (b_start_for T) .nil pass0 (pa_cons (pv 3) (pa_cons (pv 7) (pa_cons (pv 6) pa_nil)))) (pa_cons (pv 4) pa_nil))))) pss_never pss_nil)
      (pss_cons (ps_if (pt_not (pt_val (pe_call Galike h2 (by rfl) T.l_alike.g T.l_alike.F.kp (b_l_alike T) .nil pass0 (pa_cons (pe_call Gbetw h4 (by rfl) T.word_between.g T.word_between.F.kp (b_word_between T) .nil pass0 (pa_cons (pv 2) (pa_cons (pv 7) (pa_cons (pe_callB call_lenS (by rfl) T.n_len PySem.boot_len (pa_cons (pv 6) pa_nil)) pa_nil)))) (pa_cons (pv 6) pa_nil))))) pss_never pss_nil)
      (pss_cons (ps_set (i := 8) sc_law.nd rfl (.inl rfl) (pe_call Gfew h4 (by rfl) T.fewest_rounds.g T.fewest_rounds.F.kp (b_fewest_rounds T) .nil pass0 (pa_cons (pv 2) (pa_cons (pv 7) pa_nil))))
      (pss_cons (ps_if (pw_or (pt_cmpR op_isN (pv 8) pe_non (nomark _)) (pw_or (pt_cmpR op_gt (pv 8) (pe_callB call_lenS (by rfl) T.n_len PySem.boot_len (pa_cons (pv 6) pa_nil)) (nomark _))
          (pw_or1 (pt_cmpR (op_neD hr.units) (pe_call Gafter h4 (by rfl) T.after_word.g T.after_word.F.kp (b_after_word T) .nil pass0 (pa_cons (pv 2) (pa_cons (pe_call Gbetw h4 (by rfl) T.word_between.g T.word_between.F.kp (b_word_between T) .nil pass0 (pa_cons (pv 2) (pa_cons (pv 7) (pa_cons (pv 8) pa_nil)))) pa_nil))) (pv 7) (nomark _))))).pt pss_never pss_nil)
      (pss_cons (ps_for PassesOwn.never rfl (pi_range1 (by rfl) T.n_range (pa_cons (pv 8) pa_nil)) (pg_name (i := 9) sc_law.nd rfl (.inl rfl))
          (pss_one (ps_if (pt_cmpR op_notN (pe_call Gbetw h4 (by rfl) T.word_between.g T.word_between.F.kp (b_word_between T) .nil pass0 (pa_cons (pv 2) (pa_cons (pv 7) (pa_cons (pv 9) pa_nil)))) pe_non (nomark _)) pss_never pss_nil)))
      (pss_cons (ps_setLc (i := 10) (own := [("_law_one", 17)]) (g := gName 17) (by rfl) sc_law.nd rfl rfl (sw_true rfl rfl rfl (by decide +kernel)) (pi_tup (pv 7)) (blkOk_by (own := [("_law_one", 17)]) (N := N_law) (sc := defScope s_law) (by decide +kernel))
          (fun _ _ _ _ _ => pg_name (i := 17) sc_law.nd rfl (Or.inl rfl)) (fun _ _ _ _ _ => pts_nil) (fun _ _ _ _ _ => pe_op op_add (pv 17) (pe_call Gsigned h2 (by rfl) T.l_signed.g T.l_signed.F.kp (b_l_signed T) .nil pass0 (pa_cons (pv 1) (pa_cons pe_int pa_nil)))))
      (pss_cut (ps_set (i := 10) sc_law.nd rfl (.inl rfl) (pe_ifExp (pt_cmpR op_gt (pe_callB (cr_sum rfl) (by rfl) T.n_sum PyProof.Rows.boot_sum (pa_cons (pv 10) pa_nil)) pe_int (nomark _)) (pe_callTy call_tupOf (by rfl) T.n_tuple PyProof.Rows.boot_tuple (pa_cons (pv 10) pa_nil)) (pv 7)))
      (pss_cons (ps_set (i := 11) sc_law.nd rfl (.inl rfl) (pe_call Gstart h4 (by rfl) T.start_for.g T.start_for.F.kp (b_start_for T) .nil pass0 (pa_cons (pv 3) (pa_cons (pv 10) (pa_cons (pv 6) pa_nil)))))
      (pss_cut (ps_if (pt_cmpR op_notN (pv 11) pe_non (nomark _))
          (pss_one (ps_if (pt_cmpR (op_neD hr.units) (pe_ix ix_list (pe_call Galong h2 (by rfl) T.l_along.g T.l_along.F.kp (b_l_along T) .nil pass0 (pa_cons (pv 3) (pa_cons (pv 11) (pa_cons (pv 6) pa_nil)))) (pe_un un_neg pe_int) (fun _ _ => rfl)) (pv 10) (nomark _)) pss_never pss_nil))
          (pss_cons (ps_asg (pe_tup (pa_cons pe_int (pa_cons (pe_callB (cr_sumT rfl) (by rfl) T.n_sum PyProof.Rows.boot_sum (pa_cons (pv 10) pa_nil)) (pa_cons (pe_callTy call_listS (by rfl) T.n_list PyProof.Rows.boot_list (pa_cons (pv 10) pa_nil)) pa_nil))))
              (pg_tup rfl (pgs_cons (pg_name (i := 12) sc_law.nd rfl (.inr rfl)) (pgs_cons (pg_name (i := 13) sc_law.nd rfl (.inr rfl)) (pgs_cons (pg_name (i := 14) sc_law.nd rfl (.inl rfl)) pgs_nil)))))
          (pss_cons (ps_for PassesOwn.never rfl (pi_tup (pe_revT (pv 6))) (pg_name (i := 15) sc_law.nd rfl (.inr rfl))
            (pss_cons (ps_setLc (i := 14) (own := [("_law_k", 18), ("_law_one", 17)]) (g := gTup K 2 (gCons (gName 18) (gCons (gName 17) gNil))) (by rfl) sc_law.nd rfl rfl (sw_true rfl rfl rfl (by decide +kernel)) (pi_enum (by rfl) T.n_enumerate (pa_cons (pv 14) pa_nil)) (blkOk_by (own := [("_law_k", 18), ("_law_one", 17)]) (N := N_law) (sc := defScope s_law) (by decide +kernel))
              (fun _ _ _ _ _ => pg_tup rfl (pgs_cons (pg_name (i := 18) sc_law.nd rfl (Or.inl rfl)) (pgs_cons (pg_name (i := 17) sc_law.nd rfl (Or.inl rfl)) pgs_nil))) (fun _ _ _ _ _ => pts_nil)
              (fun _ _ _ _ _ => pe_op op_add (pv 17) (pe_ifExp (pt_cmpR op_eq (pv 18) (pv 15) (nomark _)) (pe_op op_mul (pe_op op_mul (pe_op op_sub (pv 3) pe_int) (pv 13)) (pv 12)) pe_int)))
            (pss_one (ps_set (i := 12) sc_law.nd rfl (.inr rfl) (pe_op op_mul (pv 12) (pv 3))))))
          (pss_one (ps_if (pt_cmpR (op_eqD hr.units) (pe_lc (own := [("_law_one", 17)]) (g := gName 17) (by rfl) sc_law.nd (pi_list (pv 14)) (blkOk_by (own := [("_law_one", 17)]) (N := N_law) (sc := defScope s_law) (by decide +kernel))
              (fun _ _ _ _ _ => pg_name (i := 17) sc_law.nd rfl (Or.inl rfl)) (fun _ _ _ _ _ => pts_one (pt_cmpR op_ne (pe_op op_mod (pe_callTy call_intI (by rfl) T.n_int PyProof.Rows.boot_int (pa_cons (pv 17) pa_nil)) (pv 12)) pe_int (nomark _))) (fun _ _ _ _ _ => pv 17)) (pe_lst pa_nil) (nomark _)) pss_never pss_nil)))))
      (pss_cons (ps_set (i := 16) sc_law.nd rfl (.inl rfl) (pe_call Gbetw h4 (by rfl) T.word_between.g T.word_between.F.kp (b_word_between T) .nil pass0 (pa_cons (pv 2) (pa_cons (pv 10) (pa_cons (pe_callB call_lenS (by rfl) T.n_len PySem.boot_len (pa_cons (pv 6) pa_nil)) pa_nil)))))
      (pss_one (ps_ret (pe_or (pe_cmpR op_isN (pv 16) pe_non (nomark _)) (pe_one (pe_and (pe_cmpR (op_eqD hr.units) (pe_call Gafter h4 (by rfl) T.after_word.g T.after_word.F.kp (b_after_word T) .nil pass0 (pa_cons (pv 2) (pa_cons (pv 16) pa_nil))) (pv 10) (nomark _))
        (pe_one (pe_cmpR op_eq (pe_callB call_lenS (by rfl) T.n_len PySem.boot_len (pa_cons (pv 16) pa_nil)) (pe_callB call_lenS (by rfl) T.n_len PySem.boot_len (pa_cons (pv 6) pa_nil)) (nomark _))))))))))))))))))))))), ?_⟩
    -- row = [script, 0, 9805, 0]
    refine ⟨_, rfl, by show 4 ≤ sizeLine; decide, fun r hrn => ?_⟩
    have hscr : ScrAt K (upd H r (.lst [.ref s, .int 0, .int 9805, .int 0])) r s ns := by
      refine ⟨ex_l (Ex.new hrn) hS, ?_⟩
      rcases hS with (h | ⟨o, h⟩) | h
      · exact .inl (ne_of_none h hrn)
      · exact .inl (ne_of_none h hrn)
      · exact .inr fun _ => .inr h
    have hR : RowAt K (upd H r (.lst [.ref s, .int 0, .int 9805, .int 0])) r s ns := ⟨⟨0, 9805, 0, upd_same, by decide, by decide, by decide⟩, hscr, hns⟩
    clear hscr hS
    generalize upd H r (.lst [.ref s, .int 0, .int 9805, .int 0]) = H0 at hR
    -- the table
    refine ⟨_, rfl, _, rfl, by show 2 ≤ sizeLine; decide, fun pl hpl => ?_⟩
    have hplr := hR.row.neOf hpl
    refine ⟨r, s, pl, ns, [4, 30], rfl, hR.ex (Ex.new hpl), upd_same, hplr, by decide, by decide, fun top H1 htop hv1 k1' => ?_⟩
    have k1 := (Keep.ex (r := r) (Ex.new (o := .lst [.int 4, .int 30]) hpl)).trans k1'
    have htop' : 0 < top ∧ top ≤ 30 := by
      simp only [List.mem_cons, List.not_mem_nil, or_false] at htop
      omega
    refine ⟨r, s, top, ns, rfl, hR.mono k1 hv1, htop'.1, htop'.2, fun t c f cs H2 hv2 k2' ht hc hok l5 => ?_⟩
    have hR2 : RowAt K H2 r s ns := hR.mono (k1.trans k2') hv2
    clear k1 k1' k2' hv1 hv2 hR hplr hpl
    obtain ⟨f2, f9, l1, l6, hcs, hsum⟩ := id hok
    have hs6 := sum_le (b := 1000000) fun x hx => (hcs x hx).2
    -- factor, coins = table
    refine ⟨_, rfl, t, [.int f, .ref c], rfl, st_of ht, rfl, _, _, rfl, _, _, rfl, rfl, ?_⟩
    refine q_asg (v := .int (cs.length : Int)) (ev_is (ev_lenT (ev_var rfl) (st_of hc)) (by rw [List.length_map])) fun H3 e3 => ?_
    have hR3 := hR2.ex e3
    have hT3 : TabAt K H3 t f cs := ⟨c, st_of (e3 _ _ ht), st_of (e3 _ _ hc)⟩
    have hc3 : SqT K H3 c (iv cs) := st_of (e3 _ _ hc)
    -- the word
    refine ⟨_, rfl, _, rfl, _, rfl, by show 2 ≤ sizeLine; decide, fun pl hpl => ?_⟩
    have hplr := hR3.row.neOf hpl
    refine ⟨r, s, pl, ns, [3, 10], rfl, hR3.ex (Ex.new hpl), upd_same, hplr, by decide, by decide, fun mo H4 hmo hv4 k4' => ?_⟩
    have k4 := (Keep.ex (r := r) (Ex.new (o := .lst [.int 3, .int 10]) hpl)).trans k4'
    have hmo' : 0 ≤ mo ∧ mo ≤ 10 := by
      simp only [List.mem_cons, List.not_mem_nil, or_false] at hmo
      omega
    refine ⟨r, s, (cs.length : Int), mo, ns, rfl, hR3.mono k4 hv4, by omega, by omega, hmo'.1, by omega, fun wd ws H5 hv5 k5' hwd hwok hwl => ?_⟩
    rw [Int.toNat_natCast] at hwok
    have k5 := k4.trans k5'
    have hR5 : RowAt K H5 r s ns := hR3.mono k5 hv5
    obtain ⟨_, _, _, hrow3, _⟩ := hR3.row
    have hT5 : TabAt K H5 t f cs := by
      obtain ⟨tc, a1, a2⟩ := hT3
      exact ⟨tc, k5.tup hrow3 a1, k5.tup hrow3 a2⟩
    have hc5 : SqT K H5 c (iv cs) := k5.tup hrow3 hc3
    have hw10 : ws.length ≤ 10 := by omega
    clear k4 k4' k5 k5' hv4 hv5 hR3 hT3 hc3 hplr hpl hrow3
    -- last
    have hal := after_length f cs ws
    have has := after_sum f cs ws hwok
    refine q_asgU (xs := iv (after f cs ws)) (eu_call (ea_cons (ev_var rfl) (ea_cons (ev_var rfl) ea_nil)) fun H6 e6 Q q E => ⟨t, wd, f, cs, ws, rfl, hT5.mono e6, hok, ex_t e6 (st_of hwd), hwok, by omega, q⟩) fun la H6 _ e6 hla => ?_
    have hR6 := hR5.ex e6
    have d6 : Drawn K H6 r t c wd la f cs ws := ⟨by obtain ⟨_, _, _, h, _⟩ := hR6.row; exact ⟨_, h⟩, hT5.mono e6, ex_t e6 hc5, ex_t e6 (st_of hwd), st_of hla⟩
    clear hR5 hT5 hc5 hla
    have hbt := between_after f2 cs ws hsum hwok
    -- start_for leads back
    refine q_when (b := false) (et_not (a := true) (et_B (ev_call1U (xs := iv cs) (y := .ref c) (eu_call (ea_cons (ev_var rfl) (ea_cons (ev_var rfl) (ea_cons (ev_var rfl) ea_nil))) fun H7 e7 Q q E => ⟨f, la, wd, after f cs ws, ws, rfl, f2, f9, (d6.ex e7).last, by omega, by omega, by omega, by omega, (d6.ex e7).word, by rw [hal]; exact hwok, by omega, reto_some (start_after f (by omega) cs ws hwok) q⟩) (fun H7 e7 => ev_var rfl)
      fun p H7 hp e7 Q q => ⟨p, c, cs, rfl, st_of hp, (d6.ex e7).coins, by omega, q⟩))) (fun h => nomatch h) fun _ H7 e7 => ?_
    -- word_between
    refine q_when (b := false) (et_not (a := true) (et_B (ev_call1U (xs := iv ws) (y := .ref wd) (eu_call (ea_cons (ev_var rfl) (ea_cons (ev_var rfl) (ea_cons (ev_lenT (ev_var rfl) (d6.ex e7).word) ea_nil))) fun H8 e8 Q q E => ⟨t, la, f, (ws.length : Int), cs, after f cs ws, by rw [List.length_map]; rfl, (d6.ex (e7.trans e8)).tab, hok, (d6.ex (e7.trans e8)).last, hal.symm, by omega, by omega, by omega, reto_some (by rw [Int.toNat_natCast]; exact hbt) q⟩) (fun H8 e8 => ev_var rfl)
      fun p H8 hp e8 Q q => ⟨p, wd, ws, rfl, st_of hp, (d6.ex (e7.trans e8)).word, by omega, q⟩))) (fun h => nomatch h) fun _ H8 e8 => ?_
    have d8 := d6.ex (e7.trans e8)
    have hR8 := (hR6.ex e7).ex e8
    clear hR6 d6
    -- fewest_rounds
    refine ⟨_, rfl, _, rfl, t, la, f, cs, after f cs ws, rfl, d8.tab, hok, d8.last, hal.symm, by omega, fun k hk hne hno H9 e9 => ?_, fun hall => ?_⟩
    rotate_left
    · have := hall ws.length (by omega)
      rw [hbt] at this
      cases this
    have hkw : k ≤ ws.length := by
      by_cases h : k ≤ ws.length
      · exact h
      · have := hno ws.length (by omega)
        rw [hbt] at this
        cases this
    obtain ⟨w', hw'⟩ : ∃ w', between f cs (after f cs ws) k = some w' := by
      cases h : between f cs (after f cs ws) k with
      | none => exact absurd h hne
      | some w' => exact ⟨w', rfl⟩
    obtain ⟨wl', wok', wa'⟩ := after_between f2 hal.symm hw'
    have d9 := d8.ex e9
    refine asg_go ?_
    refine q_when (b := false) (et_or (a := false) (b := false) (et_test (ev_op (x := .int (k : Int)) (ev_var rfl) ev_c fun H3 e3 Q q => ⟨rfl, q H3 (Ex.refl H3)⟩)) fun _ => et_or (a := false) (b := false) (et_is (et_test (ev_op (x := .int (k : Int)) (ev_var rfl) (ev_lenT (ev_var rfl) d9.word) (rv_I0 (g := fun i j => V.bl (decide (j < i)))))) ?_) fun _ =>
      et_is (et_test (ev_opU1 (xs := iv (after f cs w')) (y := .ref la) (z := .bl (!decide (after f cs w' = after f cs ws))) (eu_call2U (x := .ref t) (ys := iv w') (ev_var rfl) (eu_call (ea_cons (ev_var rfl) (ea_cons (ev_var rfl) (ea_cons (ev_var rfl) ea_nil))) fun H10 e10 Q q E => ⟨t, la, f, (k : Int), cs, after f cs ws, rfl, (d9.ex e10).tab, hok, (d9.ex e10).last, hal.symm, by omega, by omega, by omega, reto_some (by rw [Int.toNat_natCast]; exact hw') q⟩)
        fun p H10 hp e10 Q q => ⟨t, p, f, cs, w', rfl, (d9.ex e10).tab, hok, st_of hp, wok', by omega, q⟩) (fun H10 e10 => ev_var rfl) fun p H10 hp e10 => rv_neT (st_of hp) (d9.ex e10).last)) (by rw [wa', decide_eq_true rfl]; rfl)) (fun h => nomatch h) fun _ H10 e10 => ?_
    · rw [List.length_map]
      exact decide_eq_false (show ¬ _ by omega)
    have d10 := d9.ex e10
    have hR10 := (hR8.ex e9).ex e10
    clear d9 d8 hR8
    -- no fewer rounds
    refine q_forR1 (n := (k : Int)) (ea_cons (ev_var rfl) ea_nil) ⟨by omega, by omega⟩ (fun i σ' H' => (∃ y, σ' = [some (.ref s), some (.ref r), some (.ref t), some (.int f), some (.ref c), some (.int (cs.length : Int)), some (.ref wd), some (.ref la), some (.int (k : Int)), y, none, none, none, none, none, none, none, none, none]) ∧ Ex H10 H')
      (fun H11 e11 => ⟨⟨none, rfl⟩, e11⟩) (fun i σ' H' hi p => ?_) (fun σ' H' p => ?_)
    · obtain ⟨⟨y, rfl⟩, e⟩ := p
      refine ⟨_, rfl, _, rfl, _, rfl, t, la, f, (i : Int), cs, after f cs ws, rfl, (d10.ex e).tab, hok, (d10.ex e).last, hal.symm, by omega, by omega, by omega, reto_none (by rw [Int.toNat_natCast]; exact hno i (by omega)) fun H12 e12 => ⟨rfl, _, rfl, iteF ⟨⟨_, rfl⟩, e.trans e12⟩⟩⟩
    obtain ⟨⟨y9, rfl⟩, e11⟩ := p
    have d11 := d10.ex e11
    have hR11 := hR10.ex e11
    clear d10 hR10 e11 e10 e9 e8 e7
    -- near
    refine ⟨_, rfl, la, rfl, ⟨_, d11.last⟩, fun Dl hD => ?_⟩
    have hDr := hR11.row.neOf hD
    refine lc_tup (xs := iv (after f cs ws)) (fun i H'' => RowV H'' r s ∧ Keep r H' H'' ∧ ∃ zs : List Int, zs.length = i ∧ ((after f cs ws).take i).sum - 3 * i ≤ zs.sum ∧ zs.sum ≤ ((after f cs ws).take i).sum + 3 * i ∧ H'' Dl = some (.lst (iv zs)))
      ⟨hR11.row.ne hDr, Keep.ex (Ex.new hD), [], rfl, by simp, by simp, upd_same⟩ (fun i H'' hi p => (d11.keep p.2.1 p.1).last) (fun i x H'' hx p => ?_) (fun H'' p => ?_)
    · obtain ⟨pv', pk, zs, hl, hz1, hz2, hd⟩ := p
      obtain ⟨o, ho, rfl⟩ := iv_get hx
      have hil : i < (after f cs ws).length := (List.getElem?_eq_some_iff.mp ho).1
      refine ⟨rfl, ?_⟩
      show tOp (rI0 fun i j => .int (i + j)) (tVar 17) (tCall (spSigned K) [] E0 (tCons (tVar 1) (tCons (tC (.int 3)) tNil))) _ H'' _
      refine ⟨_, rfl, _, rfl, r, s, 3, ns, rfl, hR11.mono pk pv', by decide, by decide, fun g H13 g0 g1 hv13 k13 => ⟨o, g, rfl, rfl, iv zs, k13 _ _ hDr hd, by rw [List.length_map, hl]; exact sz_lt (by omega), hv13.ne hDr, (pk.trans k13).mut hD, zs ++ [o + g], by rw [List.length_append, hl]; rfl, ?_, ?_, ?_⟩⟩
      · rw [L2.sum_take ho, List.sum_append, List.sum_singleton]
        omega
      · rw [L2.sum_take ho, List.sum_append, List.sum_singleton]
        omega
      · rw [upd_same]
        unfold iv
        rw [List.map_append]
        rfl
    obtain ⟨hv12, k12, zs, hzl, hz1, hz2, hd⟩ := p
    rw [List.length_map] at hzl hz1 hz2
    rw [List.take_length, has] at hz1 hz2
    rw [hal] at hzl hz1 hz2
    have d12 := d11.keep k12 hv12
    clear d11 hR11 k12 hv12
    -- near = tuple(near) if sum(near) > 0 else last
    refine ⟨fun σ' H13 => ∃ (na : Addr) (nr : List Int), σ' = [some (.ref s), some (.ref r), some (.ref t), some (.int f), some (.ref c), some (.int (cs.length : Int)), some (.ref wd), some (.ref la), some (.int (k : Int)), y9, some (.ref na), none, none, none, none, none, none, none, none] ∧
      Drawn K H13 r t c wd la f cs ws ∧ SqT K H13 na (iv nr) ∧ nr.length = cs.length ∧ 1 ≤ nr.sum ∧ nr.sum ≤ 10000000, ?_, ?_⟩
    · refine et_test (ev_op (ev_sumL (ns := zs) (a := Dl) (ev_var rfl) (sq_of hd)) ev_c (rv_I0 (g := fun i j => V.bl (decide (j < i))))) _ (Ex.refl _) _ fun H13 e13 => ?_
      by_cases hz : 0 < zs.sum
      · rw [decide_eq_true hz]
        refine iteT ?_
        exact eu_tupL (xs := iv zs) (a := Dl) (ev_var rfl) (sq_of (e13 _ _ hd)) H13 (Ex.refl _) _ fun na H14 _ e14 h14 => ⟨na, zs, rfl, d12.ex (e13.trans e14), st_of h14, hzl, by omega, by omega⟩
      · rw [decide_eq_false hz]
        refine iteF ?_
        exact ⟨.ref la, rfl, la, after f cs ws, rfl, d12.ex e13, (d12.ex e13).last, hal, by omega, by omega⟩
    · clear d12 hd hz1 hz2 hzl hD hDr
      rintro σ' H13 ⟨na, nr, rfl, d13, hna, hnl, hn1, hn2⟩
      have hwokn : WordOk nr.length ws := by rw [hnl]; exact hwok
      -- the last rows: other
      have fin : ∀ (fo y12 y13 y14 y15 : Option V) (H15 : Hp) (D : Ends), D.rt = Q → Drawn K H15 r t c wd la f cs ws → SqT K H15 na (iv nr) →
          tSeq (tAsg (tCall (spWordBetween K) [] E0 (tCons (tVar 2) (tCons (tVar 10) (tCons (tCB (rLenS K) (tCons (tVar 6) tNil)) tNil)))) (gName 16))
            (tRet (tOrV (tOp (fun x y H Q => y = V.non ∧ Q (V.bl (decide (x = V.non))) H) (tVar 16) (tC .non)) (tAndV (tOp (rEqD K) (tCall (spAfterWord K) [] E0 (tCons (tVar 2) (tCons (tVar 16) tNil))) (tVar 10)) (tOp rEq (tCB (rLenS K) (tCons (tVar 16) tNil)) (tCB (rLenS K) (tCons (tVar 6) tNil))))))
            D [some (.ref s), some (.ref r), some (.ref t), some (.int f), some (.ref c), some (.int (cs.length : Int)), some (.ref wd), some (.ref la), some (.int (k : Int)), y9, some (.ref na), fo, y12, y13, y14, y15, none, none, none] H15 := fun fo y12 y13 y14 y15 H15 D hD d15 hna15 => by
        refine ⟨_, rfl, _, rfl, _, rfl, wd, iv ws, rfl, .inr d15.word, t, na, f, (ws.length : Int), cs, nr, by rw [List.length_map]; rfl, d15.tab, hok, hna15, hnl.symm, hn1, by omega, by omega, fun hno H16 e16 => ?_, fun w2 hw2 p2 H16 _ e16 hp2 => ?_⟩
        · refine asg_go (tz := tRet _) ?_
          refine s_ret (v := .bl true) (ev_orV (a := true) (b := true) (ev_op (x := .non) (ev_var rfl) ev_c fun H3 e3 Q q => ⟨rfl, q H3 (Ex.refl H3)⟩) fun h => nomatch h) fun H17 e17 => ?_
          rw [hD]
          exact q H17
        · rw [Int.toNat_natCast] at hw2
          obtain ⟨wl2, wok2, wa2⟩ := after_between f2 hnl.symm hw2
          have d16 := d15.ex e16
          refine asg_go (tz := tRet _) ?_
          refine s_ret (v := .bl true) (ev_orV (a := false) (b := true) (ev_op (x := .ref p2) (ev_var rfl) ev_c fun H3 e3 Q q => ⟨rfl, q H3 (Ex.refl H3)⟩) fun _ => ev_andV (a := true) (b := true)
            (ev_is (ev_opU1 (xs := iv (after f cs w2)) (y := .ref na) (z := .bl (decide (after f cs w2 = nr))) (eu_call (ea_cons (ev_var rfl) (ea_cons (ev_var rfl) ea_nil)) fun H17 e17 Q q E => ⟨t, p2, f, cs, w2, rfl, (d16.ex e17).tab, hok, st_of (e17 _ _ hp2), wok2, by omega, q⟩) (fun H17 e17 => ev_var rfl) fun p H17 hp e17 => rv_eqT (st_of hp) (ex_t (e16.trans e17) hna15)) (by rw [decide_eq_true wa2]))
            fun _ => ev_is (ev_op (ev_lenT (ev_var rfl) (st_of hp2)) (ev_lenT (ev_var rfl) d16.word) (rv_eq rfl)) (by rw [List.length_map, List.length_map, wl2, decide_eq_true rfl])) fun H17 e17 => ?_
          rw [hD]
          exact q H17
      refine ⟨_, rfl, _, rfl, _, rfl, f, na, wd, nr, ws, rfl, f2, f9, hna, by omega, by omega, hn1, by omega, d13.word, hwokn, by omega, fun hno H14 e14 => ?_, fun st hst p H14 _ e14 hp => ?_⟩
      · -- None: then some coin is no integer
        have d14 := d13.ex e14
        have hna14 := ex_t e14 hna
        refine ⟨fun σ' H15 => (∃ y12 y13 y14 y15, σ' = [some (.ref s), some (.ref r), some (.ref t), some (.int f), some (.ref c), some (.int (cs.length : Int)), some (.ref wd), some (.ref la), some (.int (k : Int)), y9, some (.ref na), some .non, y12, y13, y14, y15, none, none, none]) ∧ Drawn K H15 r t c wd la f cs ws ∧ SqT K H15 na (iv nr), ?_, ?_⟩
        · refine s_if (b := false) (et_test (ev_op (x := .non) (ev_var rfl) ev_c fun H3 e3 Q q => ⟨rfl, q H3 (Ex.refl H3)⟩)) (fun h => nomatch h) fun _ H15 e15 => ?_
          have d15 := d14.ex e15
          have hna15 := ex_t e15 hna14
          refine ev_sumT (ns := nr) (ev_var rfl) hna15 H15 (Ex.refl _) _ fun H16 e16 => el_listT (xs := iv nr) (K := K) (ev_var rfl) (ex_t e16 hna15) H16 (Ex.refl _) _ fun lp H17 _ e17 hlp => ⟨by show 3 ≤ sizeLine; decide, fun pt hpt => ⟨pt, _, rfl, .inl (.inl upd_same), rfl, _, _, rfl, _, _, rfl, _, _, rfl, rfl, ?_⟩⟩
          have e1517 : Ex H15 (upd H17 pt (.tup [.int 1, .int nr.sum, .ref lp])) := (e16.trans e17).trans (Ex.new hpt)
          have hlp' := Ex.new (o := .tup [.int 1, .int nr.sum, .ref lp]) hpt _ _ hlp
          have d17 := d15.ex e1517
          have hna17 := ex_t e1517 hna15
          revert hlp' d17 hna17
          generalize upd H17 pt (.tup [.int 1, .int nr.sum, .ref lp]) = H18
          intro hl18 d18 hna18
          refine ⟨_, rfl, wd, iv ws, rfl, d18.word, fun rv hrv => ?_⟩
          refine ⟨rv, rfl, ⟨(iv ws).reverse, st_of upd_same⟩, ?_⟩
          have d19 := d18.ex (Ex.new (o := .tup (iv ws).reverse) hrv)
          have hna19 := ex_t (Ex.new (o := .tup (iv ws).reverse) hrv) hna18
          have hl19 := Ex.new (o := .tup (iv ws).reverse) hrv _ _ hl18
          have hrv19 : SqT K (upd H18 rv (.tup (iv ws).reverse)) rv (iv ws.reverse) := st_of (by rw [upd_same]; unfold iv; rw [List.map_reverse])
          revert d19 hna19 hl19 hrv19
          generalize upd H18 rv (.tup (iv ws).reverse) = H19
          intro d19 hna19 hl19 hrv19
          refine for_tup (xs := iv ws.reverse) (a := rv) (fun i σ' H' => ∃ (lq : Addr) (y15 : Option V), σ' = [some (.ref s), some (.ref r), some (.ref t), some (.int f), some (.ref c), some (.int (cs.length : Int)), some (.ref wd), some (.ref la), some (.int (k : Int)), y9, some (.ref na), some .non,
              some (.int (backRun f nr.sum (nr, 1) (ws.reverse.take i)).2), some (.int nr.sum), some (.ref lq), y15, none, none, none] ∧ Ex H19 H' ∧ H' lq = some (.lst (iv (backRun f nr.sum (nr, 1) (ws.reverse.take i)).1)) ∧ (backRun f nr.sum (nr, 1) (ws.reverse.take i)).1.length = cs.length)
            ⟨lp, none, rfl, Ex.refl _, hl19, hnl⟩ (fun i σ' H' _ p => ?_) (fun i x σ' H' hx p => ?_) (fun σ' H' p => ?_)
          · obtain ⟨lq, y15, rfl, e, _⟩ := p
            exact ex_t e hrv19
          · obtain ⟨lq, y15, rfl, e, hlq, hll⟩ := p
            obtain ⟨py, hpy, rfl⟩ := iv_get hx
            have hpm : py ∈ ws := List.mem_reverse.mp (List.mem_of_getElem? hpy)
            have hpb := hwok py hpm
            have est : backRun f nr.sum (nr, 1) (ws.reverse.take (i + 1)) = (addN ((f - 1) * nr.sum * (backRun f nr.sum (nr, 1) (ws.reverse.take i)).2) (backRun f nr.sum (nr, 1) (ws.reverse.take i)).1 py.toNat, (backRun f nr.sum (nr, 1) (ws.reverse.take i)).2 * f) := by
              rw [take_snoc hpy]
              unfold backRun
              rw [List.foldl_append]
              rfl
            rw [est]
            revert hlq hll
            generalize backRun f nr.sum (nr, 1) (ws.reverse.take i) = sti
            obtain ⟨le, wh⟩ := sti
            intro hlq hll
            have hll' : le.length = cs.length := hll
            have ms1 : 0 ≤ (f - 1) * nr.sum := Int.mul_nonneg (by omega) (by omega)
            have ms2 : (f - 1) * nr.sum ≤ 8 * nr.sum := Int.mul_le_mul_of_nonneg_right (by omega) (by omega)
            have ep : ((py.toNat : Nat) : Int) = py := Int.toNat_of_nonneg hpb.1
            refine q_asgL (el_lcEn (xs := le) (fun _ => true) (fun i => .int (le.getD i 0 + if i = py.toNat then (f - 1) * nr.sum * wh else 0)) (ev_var rfl) (sq_of hlq) (by omega) (fun _ _ => rfl) (fun i x H3 e3 hi => et_yes) (fun i x H3 e3 hi hf => ?_)) fun lq2 H20 _ e20 h20 => ?_
            · refine ev_is (ev_op (z := .int (x + if i = py.toNat then (f - 1) * nr.sum * wh else 0)) (ev_var (v := .int x) rfl) (ev_if (v := .int (if i = py.toNat then (f - 1) * nr.sum * wh else 0)) (b := decide ((i : Int) = py)) (et_is (et_test (ev_op (ev_var (v := .int (i : Nat)) rfl) (ev_var (v := .int py) rfl) (rv_eq rfl))) (by rw [dec_int])) (fun hb => ?_) fun hb => ?_) (rv_I0 (g := fun i j => V.int (i + j)))) (by rw [List.getD_eq_getElem?_getD, hi]; rfl)
              · have hb' := of_decide_eq_true hb
                rw [if_pos (by omega)]
                exact ev_op (ev_op (ev_op (ev_var rfl) ev_c (rv_I0 (g := fun i j => V.int (i - j)))) (ev_var rfl) (rv_I (g := fun i j => V.int (i * j)) (C := CMul) (.inl ⟨by omega, by omega⟩))) (ev_var rfl) (rv_I (g := fun i j => V.int (i * j)) (C := CMul) (.inl ⟨by omega, by omega⟩))
              · have hb' := of_decide_eq_false hb
                rw [if_neg (by omega)]
                exact ev_c
            · rw [given_addN] at h20
              refine s_asg (v := .int (wh * f)) (ev_op (ev_var rfl) (ev_var rfl) (rv_I (g := fun i j => V.int (i * j)) (C := CMul) (.inr ⟨by omega, by omega⟩))) fun H21 e21 => ?_
              exact ⟨lq2, some (.int py), rfl, (e.trans e20).trans e21, e21 _ _ h20, by rw [addN_length]; exact hll'⟩
          · obtain ⟨lq, y15, rfl, e, hlq, hll⟩ := p
            rw [List.length_map, List.take_length, backRun_sums] at hlq hll
            rw [List.length_map, List.take_length, backRun_sums]
            have g1 := pow_pos' (show 1 ≤ f by omega) ws.length
            have hsl : (sums f nr ws).length ≤ 6 := by
              rw [sums_length]
              omega
            refine s_when (b := false) (et_is (et_eqNil (ns := (sums f nr ws).filter fun x => !decide (x % f ^ ws.length = 0)) (el_flL (fun x => !decide (x % f ^ ws.length = 0)) (ev_var rfl) (sq_of hlq) (by omega) (fun _ => rfl) (fun x hx H3 e3 => et_is (et_test (ev_op (ev_op (ev_int1 (ev_var rfl)) (ev_var rfl) (rv_I (g := fun i j => V.int (i % j)) (C := fun _ j => 0 < j) (by omega))) ev_c (rv_ne rfl))) (by rw [dec_int])) (fun _ => rfl))) (decide_eq_false (start_none hno))) (fun h => nomatch h) fun _ H22 e22 => ?_
            exact ⟨⟨_, _, _, _, rfl⟩, d19.ex (e.trans e22), ex_t (e.trans e22) hna19⟩
        · rintro σ' H15 ⟨⟨y12, y13, y14, y15, rfl⟩, d15, hna15⟩
          exact fin _ _ _ _ _ H15 _ rfl d15 hna15
      · -- coins at first that lead there
        have d14 := d13.ex e14
        have hna14 := ex_t e14 hna
        have hsl := start_len hst
        obtain ⟨as1, as2⟩ := after_start (show 1 ≤ f by omega) hwokn hst
        refine ⟨fun σ' H15 => (∃ y12 y13 y14 y15, σ' = [some (.ref s), some (.ref r), some (.ref t), some (.int f), some (.ref c), some (.int (cs.length : Int)), some (.ref wd), some (.ref la), some (.int (k : Int)), y9, some (.ref na), some (.ref p), y12, y13, y14, y15, none, none, none]) ∧ Drawn K H15 r t c wd la f cs ws ∧ SqT K H15 na (iv nr), ?_, ?_⟩
        · refine s_if (b := true) (et_test (ev_op (x := .ref p) (ev_var rfl) ev_c fun H3 e3 Q q => ⟨rfl, q H3 (Ex.refl H3)⟩)) (fun _ H15 e15 => ?_) (fun h => nomatch h)
          have d15 := d14.ex e15
          have hna15 := ex_t e15 hna14
          refine ⟨_, rfl, _, rfl, _, rfl, f, p, wd, st, ws, rfl, f2, f9, st_of (e15 _ _ hp), by omega, d15.word, by rw [hsl]; exact hwokn, by omega, fun pa xs c' H16 e16 hpa hc' => ⟨1, rfl, pa, _, -1, .ref c', rfl, rfl, sq_of hpa, atI_last _ _, _, rfl, _, _, dp_tup hc', dp_tup (ex_t e16 hna15), tup_shaped _, tup_shaped _, _, rfl, ?_⟩⟩
          have eb : PyData.eqv (.tuple ((after f st ws).map PyData.int)) (.tuple (nr.map PyData.int)) = true := by
            rw [eqv_tup]
            exact decide_eq_true as1
          rw [eb]
          exact iteF ⟨⟨_, _, _, _, rfl⟩, d15.ex e16, ex_t e16 hna15⟩
        · rintro σ' H15 ⟨⟨y12, y13, y14, y15, rfl⟩, d15, hna15⟩
          exact fin _ _ _ _ _ H15 _ rfl d15 hna15
end
end DW
namespace DW
open PySem PySem.Spec PyProof.Rows L2 Evl DR DE DM
theorem all_mk {l : PySem.W.OpenLaw} {w : World} {K : PySem.W.Frag} {h : Heap} {mg : Str → Option Value} {fa f0 f1 f2 f3 f4 f5 f6 f7 f8 f9 f10 f11 f12 f13 f14 f15 f16 f17 f18 f19 f20 f21 f22 f23 f24 f25 : Addr} (X : K.In h) (G : h.Ns mainGlobals mg) (hfa : mg "law" = some (.ref fa))
    {od0 an0 od1 an1 od2 an2 od3 an3 od4 an4 od5 an5 od6 an6 od7 an7 od8 an8 od9 an9 od10 an10 od11 an11 od12 an12 od13 an13 od14 an14 od15 an15 od16 an16 od17 an17 od18 an18 od19 an19 od20 an20 od21 an21 od22 an22 od23 an23 od24 an24 od25 an25 : Option Addr} {sl0 sl1 sl2 sl3 sl4 sl5 sl6 sl7 sl8 sl9 sl10 sl11 sl12 sl13 sl14 sl15 sl16 sl17 sl18 sl19 sl20 sl21 sl22 sl23 sl24 sl25 : Array (Option Value)} {oc0 kV0 dc0 pm0 cd0 ct0 oc1 kV1 dc1 pm1 cd1 ct1 oc2 kV2 dc2 pm2 cd2 ct2 oc3 kV3 dc3 pm3 cd3 ct3 oc4 kV4 dc4 pm4 cd4 ct4 oc5 kV5 dc5 pm5 cd5 ct5 oc6 kV6 dc6 pm6 cd6 ct6 oc7 kV7 dc7 pm7 cd7 ct7 oc8 kV8 dc8 pm8 cd8 ct8 oc9 kV9 dc9 pm9 cd9 ct9 oc10 kV10 dc10 pm10 cd10 ct10 oc11 kV11 dc11 pm11 cd11 ct11 oc12 kV12 dc12 pm12 cd12 ct12 oc13 kV13 dc13 pm13 cd13 ct13 oc14 kV14 dc14 pm14 cd14 ct14 oc15 kV15 dc15 pm15 cd15 ct15 oc16 kV16 dc16 pm16 cd16 ct16 oc17 kV17 dc17 pm17 cd17 ct17 oc18 kV18 dc18 pm18 cd18 ct18 oc19 kV19 dc19 pm19 cd19 ct19 oc20 kV20 dc20 pm20 cd20 ct20 oc21 kV21 dc21 pm21 cd21 ct21 oc22 kV22 dc22 pm22 cd22 ct22 oc23 kV23 dc23 pm23 cd23 ct23 oc24 kV24 dc24 pm24 cd24 ct24 oc25 kV25 dc25 pm25 cd25 ct25 : Value} {t0 t1 t2 t3 t4 : Tok}
    (a0 : PySem.W.nsIn K mainGlobals "is_in" = some (some (.ref f0))) (l0 : K.lookup f0 = some ⟨oc0, od0, .func (PySem.W.fnOf "is_in" "is_in" (defArgs s_is_in) (defBody s_is_in) (defScope s_is_in) .none kV0 dc0 pm0 an0 cd0 ct0), sl0⟩) (c0 : PySem.W.codeIn K cd0 "is_in" = true) (k0 : PySem.W.keepIn K (.ref f0) = true)
    (a1 : PySem.W.nsIn K mainGlobals "is_factor" = some (some (.ref f1))) (l1 : K.lookup f1 = some ⟨oc1, od1, .func (PySem.W.fnOf "is_factor" "is_factor" (defArgs s_is_factor) (defBody s_is_factor) (defScope s_is_factor) .none kV1 dc1 pm1 an1 cd1 ct1), sl1⟩) (c1 : PySem.W.codeIn K cd1 "is_factor" = true) (k1 : PySem.W.keepIn K (.ref f1) = true)
    (a2 : PySem.W.nsIn K mainGlobals "need_table" = some (some (.ref f2))) (l2 : K.lookup f2 = some ⟨oc2, od2, .func (PySem.W.fnOf "need_table" "need_table" (defArgs s_need_table) (defBody s_need_table) (defScope s_need_table) .none kV2 dc2 pm2 an2 cd2 ct2), sl2⟩) (c2 : PySem.W.codeIn K cd2 "need_table" = true) (k2 : PySem.W.keepIn K (.ref f2) = true)
    (a3 : PySem.W.nsIn K mainGlobals "need_factor" = some (some (.ref f3))) (l3 : K.lookup f3 = some ⟨oc3, od3, .func (PySem.W.fnOf "need_factor" "need_factor" (defArgs s_need_factor) (defBody s_need_factor) (defScope s_need_factor) .none kV3 dc3 pm3 an3 cd3 ct3), sl3⟩) (c3 : PySem.W.codeIn K cd3 "need_factor" = true) (k3 : PySem.W.keepIn K (.ref f3) = true)
    (a4 : PySem.W.nsIn K mainGlobals "need_word" = some (some (.ref f4))) (l4 : K.lookup f4 = some ⟨oc4, od4, .func (PySem.W.fnOf "need_word" "need_word" (defArgs s_need_word) (defBody s_need_word) (defScope s_need_word) .none kV4 dc4 pm4 an4 cd4 ct4), sl4⟩) (c4 : PySem.W.codeIn K cd4 "need_word" = true) (k4 : PySem.W.keepIn K (.ref f4) = true)
    (a5 : PySem.W.nsIn K mainGlobals "need_rounds" = some (some (.ref f5))) (l5 : K.lookup f5 = some ⟨oc5, od5, .func (PySem.W.fnOf "need_rounds" "need_rounds" (defArgs s_need_rounds) (defBody s_need_rounds) (defScope s_need_rounds) .none kV5 dc5 pm5 an5 cd5 ct5), sl5⟩) (c5 : PySem.W.codeIn K cd5 "need_rounds" = true) (k5 : PySem.W.keepIn K (.ref f5) = true)
    (a6 : PySem.W.nsIn K mainGlobals "is_whole" = some (some (.ref f6))) (l6 : K.lookup f6 = some ⟨oc6, od6, .func (PySem.W.fnOf "is_whole" "is_whole" (defArgs s_is_whole) (defBody s_is_whole) (defScope s_is_whole) .none kV6 dc6 pm6 an6 cd6 ct6), sl6⟩) (c6 : PySem.W.codeIn K cd6 "is_whole" = true) (k6 : PySem.W.keepIn K (.ref f6) = true)
    (a7 : PySem.W.nsIn K mainGlobals "need_coins" = some (some (.ref f7))) (l7 : K.lookup f7 = some ⟨oc7, od7, .func (PySem.W.fnOf "need_coins" "need_coins" (defArgs s_need_coins) (defBody s_need_coins) (defScope s_need_coins) .none kV7 dc7 pm7 an7 cd7 ct7), sl7⟩) (c7 : PySem.W.codeIn K cd7 "need_coins" = true) (k7 : PySem.W.keepIn K (.ref f7) = true)
    (a8 : PySem.W.nsIn K mainGlobals "power" = some (some (.ref f8))) (l8 : K.lookup f8 = some ⟨oc8, od8, .func (PySem.W.fnOf "power" "power" (defArgs s_power) (defBody s_power) (defScope s_power) .none kV8 dc8 pm8 an8 cd8 ct8), sl8⟩) (c8 : PySem.W.codeIn K cd8 "power" = true) (k8 : PySem.W.keepIn K (.ref f8) = true)
    (a9 : PySem.W.nsIn K mainGlobals "numbers_in" = some (some (.ref f9))) (l9 : K.lookup f9 = some ⟨oc9, od9, .func (PySem.W.fnOf "numbers_in" "numbers_in" (defArgs s_numbers_in) (defBody s_numbers_in) (defScope s_numbers_in) .none kV9 dc9 pm9 an9 cd9 ct9), sl9⟩) (c9 : PySem.W.codeIn K cd9 "numbers_in" = true) (k9 : PySem.W.keepIn K (.ref f9) = true)
    (a10 : PySem.W.nsIn K mainGlobals "word_in" = some (some (.ref f10))) (l10 : K.lookup f10 = some ⟨oc10, od10, .func (PySem.W.fnOf "word_in" "word_in" (defArgs s_word_in) (defBody s_word_in) (defScope s_word_in) .none kV10 dc10 pm10 an10 cd10 ct10), sl10⟩) (c10 : PySem.W.codeIn K cd10 "word_in" = true) (k10 : PySem.W.keepIn K (.ref f10) = true)
    (a11 : PySem.W.nsIn K mainGlobals "after_in" = some (some (.ref f11))) (l11 : K.lookup f11 = some ⟨oc11, od11, .func (PySem.W.fnOf "after_in" "after_in" (defArgs s_after_in) (defBody s_after_in) (defScope s_after_in) .none kV11 dc11 pm11 an11 cd11 ct11), sl11⟩) (c11 : PySem.W.codeIn K cd11 "after_in" = true) (k11 : PySem.W.keepIn K (.ref f11) = true)
    (a12 : PySem.W.nsIn K mainGlobals "after_word" = some (some (.ref f12))) (l12 : K.lookup f12 = some ⟨oc12, od12, .func (PySem.W.fnOf "after_word" "after_word" (defArgs s_after_word) (defBody s_after_word) (defScope s_after_word) .none kV12 dc12 pm12 an12 cd12 ct12), sl12⟩) (c12 : PySem.W.codeIn K cd12 "after_word" = true) (k12 : PySem.W.keepIn K (.ref f12) = true)
    (a13 : PySem.W.nsIn K mainGlobals "start_for" = some (some (.ref f13))) (l13 : K.lookup f13 = some ⟨oc13, od13, .func (PySem.W.fnOf "start_for" "start_for" (defArgs s_start_for) (defBody s_start_for) (defScope s_start_for) .none kV13 dc13 pm13 an13 cd13 ct13), sl13⟩) (c13 : PySem.W.codeIn K cd13 "start_for" = true) (k13 : PySem.W.keepIn K (.ref f13) = true)
    (a14 : PySem.W.nsIn K mainGlobals "between_in" = some (some (.ref f14))) (l14 : K.lookup f14 = some ⟨oc14, od14, .func (PySem.W.fnOf "between_in" "between_in" (defArgs s_between_in) (defBody s_between_in) (defScope s_between_in) .none kV14 dc14 pm14 an14 cd14 ct14), sl14⟩) (c14 : PySem.W.codeIn K cd14 "between_in" = true) (k14 : PySem.W.keepIn K (.ref f14) = true)
    (a15 : PySem.W.nsIn K mainGlobals "word_between" = some (some (.ref f15))) (l15 : K.lookup f15 = some ⟨oc15, od15, .func (PySem.W.fnOf "word_between" "word_between" (defArgs s_word_between) (defBody s_word_between) (defScope s_word_between) .none kV15 dc15 pm15 an15 cd15 ct15), sl15⟩) (c15 : PySem.W.codeIn K cd15 "word_between" = true) (k15 : PySem.W.keepIn K (.ref f15) = true)
    (a16 : PySem.W.nsIn K mainGlobals "fewest_rounds" = some (some (.ref f16))) (l16 : K.lookup f16 = some ⟨oc16, od16, .func (PySem.W.fnOf "fewest_rounds" "fewest_rounds" (defArgs s_fewest_rounds) (defBody s_fewest_rounds) (defScope s_fewest_rounds) .none kV16 dc16 pm16 an16 cd16 ct16), sl16⟩) (c16 : PySem.W.codeIn K cd16 "fewest_rounds" = true) (k16 : PySem.W.keepIn K (.ref f16) = true)
    (a17 : PySem.W.nsIn K mainGlobals "_law_taken" = some (some (.ref f17))) (l17 : K.lookup f17 = some ⟨oc17, od17, .func (PySem.W.fnOf "_law_taken" "_law_taken" (defArgs s_l_taken) (defBody s_l_taken) (defScope s_l_taken) .none kV17 dc17 pm17 an17 cd17 ct17), sl17⟩) (c17 : PySem.W.codeIn K cd17 "_law_taken" = true) (k17 : PySem.W.keepIn K (.ref f17) = true)
    (a18 : PySem.W.nsIn K mainGlobals "_law_pick" = some (some (.ref f18))) (l18 : K.lookup f18 = some ⟨oc18, od18, .func (PySem.W.fnOf "_law_pick" "_law_pick" (defArgs s_l_pick) (defBody s_l_pick) (defScope s_l_pick) .none kV18 dc18 pm18 an18 cd18 ct18), sl18⟩) (c18 : PySem.W.codeIn K cd18 "_law_pick" = true) (k18 : PySem.W.keepIn K (.ref f18) = true)
    (a19 : PySem.W.nsIn K mainGlobals "_law_table" = some (some (.ref f19))) (l19 : K.lookup f19 = some ⟨oc19, od19, .func (PySem.W.fnOf "_law_table" "_law_table" (defArgs s_l_table) (defBody s_l_table) (defScope s_l_table) .none kV19 dc19 pm19 an19 cd19 ct19), sl19⟩) (c19 : PySem.W.codeIn K cd19 "_law_table" = true) (k19 : PySem.W.keepIn K (.ref f19) = true)
    (a20 : PySem.W.nsIn K mainGlobals "_law_word" = some (some (.ref f20))) (l20 : K.lookup f20 = some ⟨oc20, od20, .func (PySem.W.fnOf "_law_word" "_law_word" (defArgs s_l_word) (defBody s_l_word) (defScope s_l_word) .none kV20 dc20 pm20 an20 cd20 ct20), sl20⟩) (c20 : PySem.W.codeIn K cd20 "_law_word" = true) (k20 : PySem.W.keepIn K (.ref f20) = true)
    (a21 : PySem.W.nsIn K mainGlobals "_law_alike" = some (some (.ref f21))) (l21 : K.lookup f21 = some ⟨oc21, od21, .func (PySem.W.fnOf "_law_alike" "_law_alike" (defArgs s_l_alike) (defBody s_l_alike) (defScope s_l_alike) .none kV21 dc21 pm21 an21 cd21 ct21), sl21⟩) (c21 : PySem.W.codeIn K cd21 "_law_alike" = true) (k21 : PySem.W.keepIn K (.ref f21) = true)
    (a22 : PySem.W.nsIn K mainGlobals "_law_signed" = some (some (.ref f22))) (l22 : K.lookup f22 = some ⟨oc22, od22, .func (PySem.W.fnOf "_law_signed" "_law_signed" (defArgs s_l_signed) (defBody s_l_signed) (defScope s_l_signed) .none kV22 dc22 pm22 an22 cd22 ct22), sl22⟩) (c22 : PySem.W.codeIn K cd22 "_law_signed" = true) (k22 : PySem.W.keepIn K (.ref f22) = true)
    (a23 : PySem.W.nsIn K mainGlobals "_law_owed" = some (some (.ref f23))) (l23 : K.lookup f23 = some ⟨oc23, od23, .func (PySem.W.fnOf "_law_owed" "_law_owed" (defArgs s_l_owed) (defBody s_l_owed) (defScope s_l_owed) .none kV23 dc23 pm23 an23 cd23 ct23), sl23⟩) (c23 : PySem.W.codeIn K cd23 "_law_owed" = true) (k23 : PySem.W.keepIn K (.ref f23) = true)
    (a24 : PySem.W.nsIn K mainGlobals "_law_along" = some (some (.ref f24))) (l24 : K.lookup f24 = some ⟨oc24, od24, .func (PySem.W.fnOf "_law_along" "_law_along" (defArgs s_l_along) (defBody s_l_along) (defScope s_l_along) .none kV24 dc24 pm24 an24 cd24 ct24), sl24⟩) (c24 : PySem.W.codeIn K cd24 "_law_along" = true) (k24 : PySem.W.keepIn K (.ref f24) = true)
    (a25 : PySem.W.nsIn K mainGlobals "law" = some (some (.ref f25))) (l25 : K.lookup f25 = some ⟨oc25, od25, .func (PySem.W.fnOf "law" "law" (defArgs s_law) (defBody s_law) (defScope s_law) .none kV25 dc25 pm25 an25 cd25 ct25), sl25⟩) (c25 : PySem.W.codeIn K cd25 "law" = true) (k25 : PySem.W.keepIn K (.ref f25) = true)
    (z0 : PySem.W.nsIn K mainGlobals "isinstance" = some none)
    (z1 : PySem.W.nsIn K mainGlobals "int" = some none)
    (z2 : PySem.W.nsIn K mainGlobals "bool" = some none)
    (z3 : PySem.W.nsIn K mainGlobals "tuple" = some none)
    (z4 : PySem.W.nsIn K mainGlobals "len" = some none)
    (z5 : PySem.W.nsIn K mainGlobals "enumerate" = some none)
    (z6 : PySem.W.nsIn K mainGlobals "sum" = some none)
    (z7 : PySem.W.nsIn K mainGlobals "range" = some none)
    (z8 : PySem.W.nsIn K mainGlobals "list" = some none)
    (z9 : PySem.W.nsIn K mainGlobals "sorted" = some none)
    (z10 : PySem.W.nsIn K mainGlobals "zip" = some none)
    (z11 : PySem.W.nsIn K mainGlobals "str" = some none)
    (v0 : PySem.W.nsIn K mainGlobals "MOST_PLAYERS" = some (some (.int 6 t0)))
    (v1 : PySem.W.nsIn K mainGlobals "MOST_COINS" = some (some (.int 1000000 t1)))
    (v2 : PySem.W.nsIn K mainGlobals "LEAST_FACTOR" = some (some (.int 2 t2)))
    (v3 : PySem.W.nsIn K mainGlobals "MOST_FACTOR" = some (some (.int 9 t3)))
    (v4 : PySem.W.nsIn K mainGlobals "MOST_ROUNDS" = some (some (.int 40 t4)))
    : ∃ fd : FuncData, (∀ (s : Shared) (v : Value), BindsTo s fd ⟨[v], []⟩ [("_law_script", v)]) ∧ ∀ base : Heap, K.In base → base.Ns mainGlobals mg → FnOk l.prog w K mg base CX0 6 fa fd P_law (spLaw K) := by
  have e := hfa.symm.trans (PySem.W.mg_of X G a25)
  cases e
  have T : Txt K mg := { is_in := ⟨_, _, PySem.W.mg_of X G a0, fun_mk (st := s_is_in) l0 c0 k0⟩, is_factor := ⟨_, _, PySem.W.mg_of X G a1, fun_mk (st := s_is_factor) l1 c1 k1⟩, need_table := ⟨_, _, PySem.W.mg_of X G a2, fun_mk (st := s_need_table) l2 c2 k2⟩, need_factor := ⟨_, _, PySem.W.mg_of X G a3, fun_mk (st := s_need_factor) l3 c3 k3⟩, need_word := ⟨_, _, PySem.W.mg_of X G a4, fun_mk (st := s_need_word) l4 c4 k4⟩, need_rounds := ⟨_, _, PySem.W.mg_of X G a5, fun_mk (st := s_need_rounds) l5 c5 k5⟩, is_whole := ⟨_, _, PySem.W.mg_of X G a6, fun_mk (st := s_is_whole) l6 c6 k6⟩, need_coins := ⟨_, _, PySem.W.mg_of X G a7, fun_mk (st := s_need_coins) l7 c7 k7⟩, power := ⟨_, _, PySem.W.mg_of X G a8, fun_mk (st := s_power) l8 c8 k8⟩, numbers_in := ⟨_, _, PySem.W.mg_of X G a9, fun_mk (st := s_numbers_in) l9 c9 k9⟩, word_in := ⟨_, _, PySem.W.mg_of X G a10, fun_mk (st := s_word_in) l10 c10 k10⟩, after_in := ⟨_, _, PySem.W.mg_of X G a11, fun_mk (st := s_after_in) l11 c11 k11⟩, after_word := ⟨_, _, PySem.W.mg_of X G a12, fun_mk (st := s_after_word) l12 c12 k12⟩, start_for := ⟨_, _, PySem.W.mg_of X G a13, fun_mk (st := s_start_for) l13 c13 k13⟩, between_in := ⟨_, _, PySem.W.mg_of X G a14, fun_mk (st := s_between_in) l14 c14 k14⟩, word_between := ⟨_, _, PySem.W.mg_of X G a15, fun_mk (st := s_word_between) l15 c15 k15⟩, fewest_rounds := ⟨_, _, PySem.W.mg_of X G a16, fun_mk (st := s_fewest_rounds) l16 c16 k16⟩, l_taken := ⟨_, _, PySem.W.mg_of X G a17, fun_mk (st := s_l_taken) l17 c17 k17⟩, l_pick := ⟨_, _, PySem.W.mg_of X G a18, fun_mk (st := s_l_pick) l18 c18 k18⟩, l_table := ⟨_, _, PySem.W.mg_of X G a19, fun_mk (st := s_l_table) l19 c19 k19⟩, l_word := ⟨_, _, PySem.W.mg_of X G a20, fun_mk (st := s_l_word) l20 c20 k20⟩, l_alike := ⟨_, _, PySem.W.mg_of X G a21, fun_mk (st := s_l_alike) l21 c21 k21⟩, l_signed := ⟨_, _, PySem.W.mg_of X G a22, fun_mk (st := s_l_signed) l22 c22 k22⟩, l_owed := ⟨_, _, PySem.W.mg_of X G a23, fun_mk (st := s_l_owed) l23 c23 k23⟩, l_along := ⟨_, _, PySem.W.mg_of X G a24, fun_mk (st := s_l_along) l24 c24 k24⟩, law := ⟨_, _, PySem.W.mg_of X G a25, fun_mk (st := s_law) l25 c25 k25⟩, n_isinstance := PySem.W.mg_none_of X G z0, n_int := PySem.W.mg_none_of X G z1, n_bool := PySem.W.mg_none_of X G z2, n_tuple := PySem.W.mg_none_of X G z3, n_len := PySem.W.mg_none_of X G z4, n_enumerate := PySem.W.mg_none_of X G z5, n_sum := PySem.W.mg_none_of X G z6, n_range := PySem.W.mg_none_of X G z7, n_list := PySem.W.mg_none_of X G z8, n_sorted := PySem.W.mg_none_of X G z9, n_zip := PySem.W.mg_none_of X G z10, n_str := PySem.W.mg_none_of X G z11, c_MOST_PLAYERS := ⟨_, PySem.W.mg_of X G v0⟩, c_MOST_COINS := ⟨_, PySem.W.mg_of X G v1⟩, c_LEAST_FACTOR := ⟨_, PySem.W.mg_of X G v2⟩, c_MOST_FACTOR := ⟨_, PySem.W.mg_of X G v3⟩, c_MOST_ROUNDS := ⟨_, PySem.W.mg_of X G v4⟩ }
  exact ⟨PySem.W.fnOf "law" "law" (defArgs s_law) (defBody s_law) (defScope s_law) .none kV25 dc25 pm25 an25 cd25 ct25, fun s v => .of_eq rfl, fun base _ _ => ok_law T (fun_mk (st := s_law) l25 c25 k25)⟩
end DW
open PySem PySem.W PyProof.Rows
set_option maxHeartbeats 0 in
theorem PySem.Challenge.cw_doublepay_k05_whole_starts_and_ends_holds : PySem.Challenge.rw_doublepay_k05_whole_starts_and_ends.Holds := by
  w_on; o_law; k_head; (case hw => w_witness2)
  k_fill
  refine L2.walk_of (l := PySem.Challenge.rw_doublepay_k05_whole_starts_and_ends) (n := 63) (k := 6) (x := "_law_script") (CX := fun _ => L2.CX0) (sp := fun w => DW.spLaw _) rfl (by decide) rfl ⟨rfl, by decide, by decide⟩ (fun w h Y => PySem.W.kIn_of Y) ?F (fun _ _ a ns hl _ hS => ⟨a, ns, rfl, hS, hl, fun _ => rfl⟩) (fun _ _ _ _ _ h => h)
  case F =>
    intro w mg fa h KX G hmg
    refine' DW.all_mk KX G hmg ?a0 ?l0 ?c0 ?k0 ?a1 ?l1 ?c1 ?k1 ?a2 ?l2 ?c2 ?k2 ?a3 ?l3 ?c3 ?k3 ?a4 ?l4 ?c4 ?k4 ?a5 ?l5 ?c5 ?k5 ?a6 ?l6 ?c6 ?k6 ?a7 ?l7 ?c7 ?k7 ?a8 ?l8 ?c8 ?k8 ?a9 ?l9 ?c9 ?k9 ?a10 ?l10 ?c10 ?k10 ?a11 ?l11 ?c11 ?k11 ?a12 ?l12 ?c12 ?k12 ?a13 ?l13 ?c13 ?k13 ?a14 ?l14 ?c14 ?k14 ?a15 ?l15 ?c15 ?k15 ?a16 ?l16 ?c16 ?k16 ?a17 ?l17 ?c17 ?k17 ?a18 ?l18 ?c18 ?k18 ?a19 ?l19 ?c19 ?k19 ?a20 ?l20 ?c20 ?k20 ?a21 ?l21 ?c21 ?k21 ?a22 ?l22 ?c22 ?k22 ?a23 ?l23 ?c23 ?k23 ?a24 ?l24 ?c24 ?k24 ?a25 ?l25 ?c25 ?k25 ?z0 ?z1 ?z2 ?z3 ?z4 ?z5 ?z6 ?z7 ?z8 ?z9 ?z10 ?z11 ?v0 ?v1 ?v2 ?v3 ?v4
    (case a0 => k_is); (case l0 => k_is); (case c0 => k_is); (case k0 => k_is)
    (case a1 => k_is); (case l1 => k_is); (case c1 => k_is); (case k1 => k_is)
    (case a2 => k_is); (case l2 => k_is); (case c2 => k_is); (case k2 => k_is)
    (case a3 => k_is); (case l3 => k_is); (case c3 => k_is); (case k3 => k_is)
    (case a4 => k_is); (case l4 => k_is); (case c4 => k_is); (case k4 => k_is)
    (case a5 => k_is); (case l5 => k_is); (case c5 => k_is); (case k5 => k_is)
    (case a6 => k_is); (case l6 => k_is); (case c6 => k_is); (case k6 => k_is)
    (case a7 => k_is); (case l7 => k_is); (case c7 => k_is); (case k7 => k_is)
    (case a8 => k_is); (case l8 => k_is); (case c8 => k_is); (case k8 => k_is)
    (case a9 => k_is); (case l9 => k_is); (case c9 => k_is); (case k9 => k_is)
    (case a10 => k_is); (case l10 => k_is); (case c10 => k_is); (case k10 => k_is)
    (case a11 => k_is); (case l11 => k_is); (case c11 => k_is); (case k11 => k_is)
    (case a12 => k_is); (case l12 => k_is); (case c12 => k_is); (case k12 => k_is)
    (case a13 => k_is); (case l13 => k_is); (case c13 => k_is); (case k13 => k_is)
    (case a14 => k_is); (case l14 => k_is); (case c14 => k_is); (case k14 => k_is)
    (case a15 => k_is); (case l15 => k_is); (case c15 => k_is); (case k15 => k_is)
    (case a16 => k_is); (case l16 => k_is); (case c16 => k_is); (case k16 => k_is)
    (case a17 => k_is); (case l17 => k_is); (case c17 => k_is); (case k17 => k_is)
    (case a18 => k_is); (case l18 => k_is); (case c18 => k_is); (case k18 => k_is)
    (case a19 => k_is); (case l19 => k_is); (case c19 => k_is); (case k19 => k_is)
    (case a20 => k_is); (case l20 => k_is); (case c20 => k_is); (case k20 => k_is)
    (case a21 => k_is); (case l21 => k_is); (case c21 => k_is); (case k21 => k_is)
    (case a22 => k_is); (case l22 => k_is); (case c22 => k_is); (case k22 => k_is)
    (case a23 => k_is); (case l23 => k_is); (case c23 => k_is); (case k23 => k_is)
    (case a24 => k_is); (case l24 => k_is); (case c24 => k_is); (case k24 => k_is)
    (case a25 => k_is); (case l25 => k_is); (case c25 => k_is); (case k25 => k_is)
    (case z0 => k_is)
    (case z1 => k_is)
    (case z2 => k_is)
    (case z3 => k_is)
    (case z4 => k_is)
    (case z5 => k_is)
    (case z6 => k_is)
    (case z7 => k_is)
    (case z8 => k_is)
    (case z9 => k_is)
    (case z10 => k_is)
    (case z11 => k_is)
    (case v0 => k_is)
    (case v1 => k_is)
    (case v2 => k_is)
    (case v3 => k_is)
    (case v4 => k_is)
