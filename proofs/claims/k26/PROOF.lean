import PyProof.Rows.All
import Wide.All
import OpenK.AllK
import Wide.FinOn
import KE.KMathGC
import KE.KTupSum
import KE.GoesEnumKw
import KE.KRevSl
import PyProof.Rows.StrStep
import HandS.ForExc
import HandS.Comp
import HandS.Iter
import HandS.Gcd
import HandS.Zip
import HandS.Wide
import HandS.IsInst
import HandS.TupAny
import HandS.Deep
import HandS.Style
import HandS.Text
import HandS.Walk
import HandS.ExcInit
import HandS.ExcField
import HandS.Codes
import PySem.Challenge.RW_sincemarks_k26_whole_sorted_least_best
set_option Elab.async false
set_option linter.all false
set_option maxRecDepth 100000
set_option maxHeartbeats 4000000
namespace K26
/-! ### binomials -/
def ch : Nat → Nat → Nat
  | _, 0 => 1
  | 0, _ + 1 => 0
  | n + 1, k + 1 => ch n k + ch n (k + 1)
theorem ch_zero (n : Nat) : ch n 0 = 1 := by cases n <;> rfl
theorem ch_zs (k : Nat) : ch 0 (k + 1) = 0 := rfl
theorem ch_ss (n k : Nat) : ch (n + 1) (k + 1) = ch n k + ch n (k + 1) := rfl
theorem ch_gt : ∀ (n k : Nat), n < k → ch n k = 0
  | 0, 0, h => by omega
  | 0, k + 1, _ => rfl
  | n + 1, 0, h => by omega
  | n + 1, k + 1, h => by
    rw [ch_ss, ch_gt n k (by omega), ch_gt n (k + 1) (by omega)]
theorem ch_self (n : Nat) : ch n n = 1 := by
  induction n with
  | zero => rfl
  | succ n ih => rw [ch_ss, ih, ch_gt n (n + 1) (by omega)]
theorem ch_pos : ∀ (n k : Nat), k ≤ n → 1 ≤ ch n k
  | n, 0, _ => by rw [ch_zero]; exact Nat.le_refl 1
  | 0, k + 1, h => by omega
  | n + 1, k + 1, h => by
    rw [ch_ss]
    have := ch_pos n k (by omega)
    omega
theorem ch_right : ∀ (n k : Nat), k ≤ n → ch n (k + 1) * (k + 1) = ch n k * (n - k)
  | 0, k, h => by
    have : k = 0 := by omega
    subst this
    rfl
  | n + 1, 0, h => by
    have ih := ch_right n 0 (by omega)
    rw [ch_ss, ch_zero, ch_zero]
    rw [ch_zero] at ih
    omega
  | n + 1, k + 1, h => by
    rw [ch_ss, ch_ss n k]
    have i1 := ch_right n k (by omega)
    by_cases hk : k + 1 ≤ n
    · have i2 := ch_right n (k + 1) hk
      have e1 : n + 1 - (k + 1) = n - k := by omega
      have e2 : n - k = (n - (k + 1)) + 1 := by omega
      rw [e1]
      rw [Nat.add_mul, i2]
      have e3 : ch n (k + 1) * (k + 1 + 1) = ch n (k + 1) * (k + 1) + ch n (k + 1) := by rw [Nat.mul_succ]
      rw [e3, i1, Nat.add_mul]
      have e4 : ch n (k + 1) * (n - k) = ch n (k + 1) * (n - (k + 1)) + ch n (k + 1) := by
        conv => lhs; rw [e2, Nat.mul_succ]
      rw [e4]
      omega
    · have hn : n = k := by omega
      subst hn
      rw [ch_gt n (n + 1) (by omega), ch_gt n (n + 1 + 1) (by omega)]
      have e1 : n + 1 - (n + 1) = 0 := by omega
      rw [e1]
      omega
theorem ch_top (n k : Nat) (h : k ≤ n) : ch (n + 1) (k + 1) * (n - k) = ch n (k + 1) * (n + 1) := by
  have i1 := ch_right n k h
  rw [ch_ss, Nat.add_mul, ← i1, ← Nat.mul_add]
  congr 1
  omega
theorem ch_absorb (n k : Nat) (h : k ≤ n) : ch (n + 1) (k + 1) * (k + 1) = ch n k * (n + 1) := by
  have i1 := ch_right n k h
  rw [ch_ss, Nat.add_mul, i1, ← Nat.mul_add]
  congr 1
  omega
theorem ch_symm : ∀ (a b : Nat), ch (a + b) a = ch (a + b) b
  | 0, b => by
    rw [Nat.zero_add, ch_zero, ch_self]
  | a + 1, 0 => by
    rw [Nat.add_zero, ch_zero, ch_self]
  | a + 1, b + 1 => by
    have e : a + 1 + (b + 1) = (a + 1 + b) + 1 := by omega
    rw [e, ch_ss, ch_ss]
    have h1 := ch_symm (a + 1) b
    have h2 := ch_symm a (b + 1)
    have e2 : a + (b + 1) = a + 1 + b := by omega
    rw [e2] at h2
    rw [h1, h2, Nat.add_comm]
theorem ch_step_top (n k : Nat) : ch n k ≤ ch (n + 1) k := by
  cases k with
  | zero => rw [ch_zero, ch_zero]; exact Nat.le_refl 1
  | succ k => rw [ch_ss]; exact Nat.le_add_left _ _
theorem ch_mono_top {n m : Nat} (k : Nat) (h : n ≤ m) : ch n k ≤ ch m k := by
  induction h with
  | refl => exact Nat.le_refl _
  | step _ ih => exact Nat.le_trans ih (ch_step_top _ _)
/-- the capacity of (w, q) -/
def cp (w q : Nat) : Nat := ch (w + q) q
theorem cp_zero (q : Nat) : cp 0 q = 1 := by unfold cp; rw [Nat.zero_add, ch_self]
theorem cp_pos (w q : Nat) : 1 ≤ cp w q := ch_pos _ _ (Nat.le_add_left _ _)
theorem cp_succ (w q : Nat) : cp (w + 1) (q + 1) = cp (w + 1) q + cp w (q + 1) := by
  unfold cp
  have e : w + 1 + (q + 1) = (w + 1 + q) + 1 := by omega
  rw [e, ch_ss]
  have e2 : w + 1 + q = w + (q + 1) := by omega
  rw [e2]
theorem cp_lt (w q : Nat) (h : 1 ≤ q) : cp w q < cp (w + 1) q := by
  obtain ⟨p, rfl⟩ : ∃ p, q = p + 1 := ⟨q - 1, by omega⟩
  rw [cp_succ]
  have := cp_pos (w + 1) p
  omega
theorem cp_ge (w q : Nat) (h : 1 ≤ q) : w + 1 ≤ cp w q := by
  induction w with
  | zero => rw [cp_zero]; exact Nat.le_refl 1
  | succ w ih => have := cp_lt w q h; omega
theorem cp_mono {w v : Nat} (q : Nat) (h : w ≤ v) : cp w q ≤ cp v q := by
  unfold cp
  exact ch_mono_top q (by omega)
theorem cp_mono_r (w q : Nat) : cp w q ≤ cp w (q + 1) := by
  unfold cp
  have e : w + (q + 1) = (w + q) + 1 := by omega
  rw [e, ch_ss]
  exact Nat.le_add_right _ _
theorem cp_mono_far {w q p : Nat} (h : q ≤ p) : cp w q ≤ cp w p := by
  induction h with
  | refl => exact Nat.le_refl _
  | step _ ih => exact Nat.le_trans ih (cp_mono_r _ _)
theorem cp_symm (w q : Nat) : cp w q = ch (w + q) w := (ch_symm w q).symm
theorem cp_one (w : Nat) : cp w 1 = w + 1 := by
  induction w with
  | zero => rfl
  | succ w ih =>
    rw [cp_succ, ih]
    have : cp (w + 1) 0 = 1 := ch_zero _
    omega
theorem cp_two (w : Nat) : 2 * cp w 2 = (w + 1) * (w + 2) := by
  induction w with
  | zero => rfl
  | succ w ih =>
    rw [cp_succ, cp_one, Nat.mul_add, ih]
    have e1 : (w + 1 + 1) * (w + 1 + 2) = (w + 1 + 1) * (w + 1) + (w + 1 + 1) * 2 := by rw [Nat.mul_add]
    have e2 : (w + 1) * (w + 2) = (w + 1 + 1) * (w + 1) := by rw [Nat.mul_comm]
    rw [e1, e2]
    omega
/-- the next capacity by width, as the law reckons it -/
theorem cp_next (c q : Nat) (h : 1 ≤ q) : cp c q * (c + 1 + q) = cp (c + 1) q * (c + 1) := by
  obtain ⟨p, rfl⟩ : ∃ p, q = p + 1 := ⟨q - 1, by omega⟩
  have h1 := ch_top (c + p + 1) p (by omega)
  unfold cp
  have e1 : c + 1 + (p + 1) = c + p + 1 + 1 := by omega
  have e2 : c + (p + 1) = c + p + 1 := by omega
  rw [e1, e2]
  have e3 : c + p + 1 - p = c + 1 := by omega
  rw [e3] at h1
  rw [h1]
/-- .. and by reach -/
theorem cp_next_r (w k : Nat) : cp w k * (w + (k + 1)) = cp w (k + 1) * (k + 1) := by
  have h1 := ch_absorb (w + k) k (by omega)
  unfold cp
  have e1 : w + (k + 1) = w + k + 1 := by omega
  rw [e1, h1]
/-! ### the least widths -/
structure IsL (q i w : Nat) : Prop where
  gt : i < cp w q
  le : ∀ c, c < w → cp c q ≤ i
theorem IsL.uniq {q i w v : Nat} (a : IsL q i w) (b : IsL q i v) : w = v := by
  by_cases h : w < v
  · have := b.le w h; have := a.gt; omega
  · by_cases h2 : v < w
    · have := a.le v h2; have := b.gt; omega
    · omega
def uS (q i : Nat) : Nat → Nat → Nat
  | 0, w => w
  | f + 1, w => if i < cp w q then w else uS q i f (w + 1)
def u (q i : Nat) : Nat := uS q i i 0
theorem uS_is (q i : Nat) (h : 1 ≤ q) : ∀ f w, (∀ c, c < w → cp c q ≤ i) → i ≤ f + w → IsL q i (uS q i f w)
  | 0, w, h1, h2 => by
    refine ⟨?_, h1⟩
    have := cp_ge w q h
    show i < cp w q
    omega
  | f + 1, w, h1, h2 => by
    unfold uS
    by_cases hc : i < cp w q
    · rw [if_pos hc]; exact ⟨hc, h1⟩
    · rw [if_neg hc]
      refine uS_is q i h f (w + 1) (fun c hcw => ?_) (by omega)
      by_cases e : c < w
      · exact h1 c e
      · have : c = w := by omega
        subst this
        omega
theorem u_is (q i : Nat) (h : 1 ≤ q) : IsL q i (u q i) := uS_is q i h i 0 (fun c hc => by omega) (by omega)
theorem u_eq {q i w : Nat} (h : 1 ≤ q) (a : IsL q i w) : u q i = w := (u_is q i h).uniq a
theorem u_zero (q : Nat) (h : 1 ≤ q) : u q 0 = 0 := u_eq h ⟨by rw [cp_zero]; omega, fun c hc => by omega⟩
theorem u_one (i : Nat) : u 1 i = i := u_eq (Nat.le_refl 1) ⟨by rw [cp_one]; omega, fun c hc => by rw [cp_one]; omega⟩
theorem u_le (q i : Nat) (h : 1 ≤ q) : u q i ≤ i := by
  by_cases h0 : u q i = 0
  · omega
  · have := (u_is q i h).le (u q i - 1) (by omega)
    have := cp_ge (u q i - 1) q h
    omega
theorem u_pos (q i : Nat) (h : 1 ≤ q) (hi : 1 ≤ i) : 1 ≤ u q i := by
  by_cases h0 : u q i = 0
  · have := (u_is q i h).gt
    rw [h0, cp_zero] at this
    omega
  · omega
/-- u_1 .. u_n -/
def leastL (q n : Nat) : List Int := (List.range n).map fun i => ((u q (i + 1) : Nat) : Int)
theorem leastL_len (q n : Nat) : (leastL q n).length = n := by unfold leastL; rw [List.length_map, List.length_range]
theorem leastL_succ (q n : Nat) : leastL q (n + 1) = leastL q n ++ [((u q (n + 1) : Nat) : Int)] := by
  unfold leastL
  rw [List.range_succ, List.map_append]
  rfl
theorem leastL_get (q n i : Nat) (h : i < n) : (leastL q n)[i]? = some ((u q (i + 1) : Nat) : Int) := by
  unfold leastL
  rw [List.getElem?_map, List.getElem?_range h]
  rfl
/-! a quick way to reckon it -/
def lfGo (q : Nat) : Nat → Nat → Nat → Nat → Nat → List Int
  | 0, _, _, _, _ => []
  | _ + 1, 0, _, _, _ => []
  | f + 1, n + 1, i, c, F => if i < F then ((c : Nat) : Int) :: lfGo q f n (i + 1) c F else lfGo q f (n + 1) i (c + 1) (F * (c + 1 + q) / (c + 1))
theorem lfGo_is (q : Nat) (h : 1 ≤ q) : ∀ (f n i c F : Nat), F = cp c q → (∀ d, d < c → cp d q ≤ i) → i + n + n ≤ f + c → lfGo q f n i c F = (List.range n).map fun j => ((u q (i + j) : Nat) : Int)
  | 0, n, i, c, F, hF, hl, hf => by
    by_cases hn : n = 0
    · subst hn; rfl
    · have hc : c - 1 < c ∨ c = 0 := by omega
      rcases hc with hc | hc
      · have h1 := hl (c - 1) hc
        have h2 := cp_ge (c - 1) q h
        omega
      · omega
  | f + 1, 0, i, c, F, hF, hl, hf => rfl
  | f + 1, n + 1, i, c, F, hF, hl, hf => by
    unfold lfGo
    by_cases hc : i < F
    · rw [if_pos hc]
      have hu : u q i = c := u_eq h ⟨by rw [← hF]; exact hc, hl⟩
      rw [lfGo_is q h f n (i + 1) c F hF (fun d hd => by have := hl d hd; omega) (by omega)]
      rw [List.range_succ_eq_map, List.map_cons, List.map_map, show u q (i + 0) = c from hu]
      congr 1
      apply List.map_congr_left
      intro j _
      show ((u q (i + 1 + j) : Nat) : Int) = ((u q (i + (j + 1)) : Nat) : Int)
      have e : i + 1 + j = i + (j + 1) := by omega
      rw [e]
    · rw [if_neg hc]
      refine lfGo_is q h f (n + 1) i (c + 1) _ ?_ (fun d hd => ?_) (by omega)
      · rw [hF, cp_next c q h]
        exact Nat.mul_div_cancel _ (by omega)
      · by_cases e : d < c
        · exact hl d e
        · have e2 : d = c := by omega
          subst e2
          omega
def lf (q n : Nat) : List Int := lfGo q (n + n + 1) n 1 0 1
theorem lf_is (q n : Nat) (h : 1 ≤ q) : lf q n = leastL q n := by
  unfold lf
  rw [lfGo_is q h (n + n + 1) n 1 0 1 (cp_zero q).symm (fun d hd => by omega) (by omega)]
  unfold leastL
  apply List.map_congr_left
  intro j _
  rw [Nat.add_comm]
/-! a quick binomial -/
def chF (n : Nat) : Nat → Nat
  | 0 => 1
  | k + 1 => chF n k * (n - k) / (k + 1)
theorem chF_is (n : Nat) : ∀ k, k ≤ n → chF n k = ch n k
  | 0, _ => (ch_zero n).symm
  | k + 1, h => by
    unfold chF
    rw [chF_is n k (by omega), ← ch_right n k (by omega)]
    exact Nat.mul_div_cancel _ (by omega)
def chS (n k : Nat) : Nat := if k ≤ n then chF n (min k (n - k)) else 0
theorem chS_is (n k : Nat) : chS n k = ch n k := by
  unfold chS
  by_cases h : k ≤ n
  · rw [if_pos h, chF_is n _ (by omega)]
    by_cases h2 : k ≤ n - k
    · rw [Nat.min_eq_left h2]
    · rw [Nat.min_eq_right (by omega)]
      have h3 := ch_symm (n - k) k
      have e : n - k + k = n := by omega
      rw [e] at h3
      exact h3
  · rw [if_neg h, ch_gt n k (by omega)]
end K26
namespace K26
/-! ### mirrors of the defs, plain -/
def ins (x : Int) : List Int → List Int
  | [] => [x]
  | y :: ys => if x ≤ y then x :: y :: ys else y :: ins x ys
def isort : List Int → List Int
  | [] => []
  | x :: xs => ins x (isort xs)
def putBesideM (a b : List Int) : List Int := a ++ 0 :: b.map fun x => ((a.length : Nat) : Int) + 1 + x
def shM (c : Nat → Nat → Nat) : Nat → Nat → Nat → Nat → Option (List Int)
  | 0, _, _, _ => none
  | f + 1, b, l, r =>
    if b = 1 then some []
    else if 1 ≤ l ∧ 1 ≤ r ∧ c (l + r - 2) (r - 1) ≤ b then
      match shM c f (min (c (l + r - 1) r) (b - c (l + r - 2) (r - 1))) (l - 1) r with
      | some x =>
        match shM c f (b - min (c (l + r - 1) r) (b - c (l + r - 2) (r - 1))) l (r - 1) with
        | some y => some (putBesideM x y)
        | none => none
      | none => none
    else none
def lastFullGo : List Int → Nat → Nat → Nat
  | [], _, found => found
  | b :: bs, v, found => lastFullGo bs (v + 1) (if b = 0 then v else found)
def lastFullM (f : List Int) : Nat := lastFullGo f 1 0
def trackGo : Nat → List (List Int) → List Bool → Option (List Bool)
  | _, [], s => some s
  | 0, _ :: _, _ => none
  | f + 1, p :: st, s =>
    if p.length = 0 then trackGo f st (s ++ [false])
    else if 1 ≤ lastFullM p then trackGo f (p.take (lastFullM p - 1) :: (p.drop (lastFullM p)).map (fun b => b - ((lastFullM p : Nat) : Int)) :: st) (s ++ [true])
    else none
def trackM (p : List Int) : Option (List Bool) := trackGo (2 * p.length + 2) [p] []
def builtGo : List Bool → List (List Int) → Option (List (List Int))
  | [], held => some held
  | false :: s, held => builtGo s ([] :: held)
  | true :: s, a :: b :: held => builtGo s (putBesideM b a :: held)
  | true :: _, _ => none
def builtM (s : List Bool) : Option (List Int) :=
  match builtGo s.reverse [] with
  | some [m] => some m
  | _ => none
def nestedGo : List Int → List Int → Nat → Bool
  | [], _, _ => true
  | b :: bs, chn, v =>
    if b < 0 then false
    else match chn.dropWhile fun x => decide (b < x) with
      | t :: r => if t = b then nestedGo bs (((v + 1 : Nat) : Int) :: t :: r) (v + 1) else false
      | [] => false
def nestedM (f : List Int) : Bool := nestedGo f [0] 0
def writesOf (f : List Int) : List Int := (List.range f.length).map fun e => ((f.drop e).map fun b => if b < ((e : Nat) : Int) + 1 then (1 : Int) else 0).sum
def readsGo : List Int → List Int → List Int
  | acc, [] => acc
  | acc, b :: bs => readsGo (acc ++ [acc.getD b.toNat 0 + 1]) bs
def readsOf (f : List Int) : List Int := readsGo [0] f
def sortW (f : List Int) : List Int := isort (writesOf f)
def sortR (f : List Int) : List Int := isort ((readsOf f).drop 1)
def chainAt (f : List Int) : Nat → Nat → List Int
  | 0, _ => [0]
  | k + 1, v => if v = 0 then [0] else ((v : Nat) : Int) :: chainAt f k (f.getD (v - 1) 0).toNat
def chainM (f : List Int) : List Int := chainAt f f.length f.length
def planB (f : List Int) : Bool := (List.range f.length).all fun z => (chainM (f.take z)).contains (f.getD z 0)
def lastD (l : List Int) : Int := l.getLastD 0
def bestPM (c : Nat → Nat → Nat) (n q : Nat) : Option (List Int) := shM c 24 (n + 1) (lastD (lf q n)).toNat q
def mirM (p : List Int) : Option (List Int) :=
  match trackM p with
  | some s => builtM s
  | none => none
def maxM (l : List Int) : Int := l.foldl max 0
def bestHoldB (n q : Nat) : Bool :=
  match bestPM chS n q with
  | some p => planB p && p.length == n && nestedM p && sortW p == lf q n && decide (maxM (sortR p) ≤ q) &&
    (match mirM p with
    | some m => planB m && m.length == n && sortR m == lf q n && decide (maxM (sortW m) ≤ q)
    | none => false)
  | none => false
theorem bestHold_a : ∀ n, n < 13 → ∀ q, q < 40 → bestHoldB n (q + 1) = true := by decide +kernel
theorem bestHold_b : ∀ n, n < 4 → ∀ q, q < 40 → bestHoldB (13 + n) (q + 1) = true := by decide +kernel
theorem bestHold_c : ∀ n, n < 2 → ∀ q, q < 40 → bestHoldB (17 + n) (q + 1) = true := by decide +kernel
theorem bestHold_d : ∀ n, n < 2 → ∀ q, q < 40 → bestHoldB (19 + n) (q + 1) = true := by decide +kernel
theorem bestHold_all (n : Nat) (h : n < 21) : ∀ q, q < 40 → bestHoldB n (q + 1) = true := by
  by_cases h1 : n < 13
  · exact bestHold_a n h1
  by_cases h2 : n < 17
  · obtain ⟨k, rfl⟩ : ∃ k, n = 13 + k := ⟨n - 13, by omega⟩
    exact bestHold_b k (by omega)
  by_cases h3 : n < 19
  · obtain ⟨k, rfl⟩ : ∃ k, n = 17 + k := ⟨n - 17, by omega⟩
    exact bestHold_c k (by omega)
  · obtain ⟨k, rfl⟩ : ∃ k, n = 19 + k := ⟨n - 19, by omega⟩
    exact bestHold_d k (by omega)
def fullHoldB (w q : Nat) : Bool :=
  match shM chS 24 (chS (w + q) q) w q with
  | some p =>
    planB p && p.length == chS (w + q) q - 1 && decide (1 ≤ p.length) && decide (lastD (sortW p) ≤ w) && decide (lastD (sortR p) ≤ q) && sortW p == lf q (chS (w + q) q - 1) && sortR p == lf w (chS (w + q) q - 1) &&
      bestPM chS (chS (w + q) q - 1) q == some p && (match bestPM chS (chS (w + q) q - 1) w with
        | some r => nestedM r && mirM r == some p
        | none => false)
  | none => false
def pairs16 : List (Nat × Nat) := [(1, 1), (1, 4), (1, 20), (3, 1), (20, 1), (2, 2), (2, 3), (3, 2), (2, 4), (4, 2), (3, 3), (2, 5), (5, 2), (1, 13), (11, 1), (1, 2)]
theorem fullHold_all : ∀ x ∈ pairs16, fullHoldB x.1 x.2 = true := by decide +kernel
def allM : Nat → List (List Int)
  | 0 => [[]]
  | n + 1 => (allM n).flatMap fun f => (chainM f).map fun b => f ++ [b]
def minM : List Int → Int
  | [] => 0
  | x :: xs => xs.foldl min x
def rowsM (n : Nat) : List (List Int × List Int) := (allM n).map fun f => (sortW f, sortR f)
def byR (n q : Nat) : List (List Int) := ((rowsM n).filter fun r => r.2 == [] || decide (lastD r.2 ≤ ((q : Nat) : Int))).map (·.1)
def byW (n q : Nat) : List (List Int) := ((rowsM n).filter fun r => r.1 == [] || decide (lastD r.1 ≤ ((q : Nat) : Int))).map (·.2)
def dueM (rows : List (List Int)) (n : Nat) : List Int := (List.range n).map fun k => minM (rows.map fun r => r.getD k 0)
def allHoldB (n q : Nat) : Bool := dueM (byR n q) n == lf q n && dueM (byW n q) n == lf q n && (byR n q).contains (lf q n) && (byW n q).contains (lf q n)
theorem allHold_all : ∀ n, n < 7 → ∀ q, q < n + 1 → allHoldB n (q + 1) = true := by decide +kernel
end K26
namespace K26
/-! ### plans -/
def Good (f : List Int) : Prop := ∀ z, z < f.length → 0 ≤ f.getD z 0 ∧ f.getD z 0 ≤ z
def Plan (f : List Int) : Prop := ∀ z, z < f.length → f.getD z 0 ∈ chainM (f.take z)
theorem getD_take (f : List Int) (m z : Nat) (h : z < m) : (f.take m).getD z 0 = f.getD z 0 := by
  rw [List.getD_eq_getElem?_getD, List.getD_eq_getElem?_getD, List.getElem?_take_of_lt h]
theorem Good.take {f : List Int} (g : Good f) (m : Nat) : Good (f.take m) := by
  intro z hz
  rw [List.length_take] at hz
  rw [getD_take f m z (by omega)]
  exact g z (by omega)
theorem chain_take {f : List Int} (g : Good f) : ∀ (k v m : Nat), v ≤ m → m ≤ f.length → chainAt (f.take m) k v = chainAt f k v
  | 0, _, _, _, _ => rfl
  | k + 1, v, m, h, hm => by
    unfold chainAt
    by_cases hv : v = 0
    · rw [if_pos hv, if_pos hv]
    · rw [if_neg hv, if_neg hv, getD_take f m (v - 1) (by omega)]
      have := g (v - 1) (by omega)
      rw [chain_take g k _ m (by omega) hm]
theorem chain_fuel {f : List Int} (g : Good f) : ∀ (k j v : Nat), v ≤ k → v ≤ j → v ≤ f.length → chainAt f k v = chainAt f j v
  | 0, j, v, h1, h2, h3 => by
    have e : v = 0 := by omega
    subst e
    cases j with
    | zero => rfl
    | succ j => unfold chainAt; rw [if_pos rfl]
  | k + 1, 0, v, h1, h2, h3 => by
    have e : v = 0 := by omega
    subst e
    unfold chainAt
    rw [if_pos rfl]
  | k + 1, j + 1, v, h1, h2, h3 => by
    unfold chainAt
    by_cases hv : v = 0
    · rw [if_pos hv, if_pos hv]
    · rw [if_neg hv, if_neg hv]
      have := g (v - 1) (by omega)
      rw [chain_fuel g k j _ (by omega) (by omega) (by omega)]
theorem chain_mem {f : List Int} (g : Good f) : ∀ (k v : Nat) (x : Int), v ≤ f.length → x ∈ chainAt f k v → 0 ≤ x ∧ x ≤ v
  | 0, v, x, h, hx => by
    have := List.mem_singleton.mp hx
    omega
  | k + 1, v, x, h, hx => by
    unfold chainAt at hx
    by_cases hv : v = 0
    · rw [if_pos hv] at hx
      have := List.mem_singleton.mp hx
      omega
    · rw [if_neg hv] at hx
      have := g (v - 1) (by omega)
      rcases List.mem_cons.mp hx with e | hx
      · omega
      · have := chain_mem g k _ x (by omega) hx
        omega
theorem chainM_mem {f : List Int} (g : Good f) {x : Int} (h : x ∈ chainM f) : 0 ≤ x ∧ x ≤ f.length := chain_mem g _ _ x (Nat.le_refl _) h
theorem take_take_lt (f : List Int) {i z : Nat} (h : i ≤ z) : (f.take z).take i = f.take i := by
  rw [List.take_take, Nat.min_eq_left h]
theorem Plan.good {f : List Int} (p : Plan f) : Good f := by
  have key : ∀ m, Good (f.take m) := by
    intro m
    induction m with
    | zero => intro z hz; simp at hz
    | succ m ih =>
      intro z hz
      rw [List.length_take] at hz
      rw [getD_take f (m + 1) z (by omega)]
      by_cases e : z < m
      · have := ih z (by rw [List.length_take]; omega)
        rw [getD_take f m z e] at this
        exact this
      · have e2 : z = m := by omega
        subst e2
        have h1 := p z (by omega)
        have h2 := chainM_mem ih h1
        rw [List.length_take] at h2
        omega
  have := key f.length
  rw [List.take_length] at this
  exact this
theorem planB_plan {f : List Int} (h : planB f = true) : Plan f := by
  intro z hz
  unfold planB at h
  have := List.all_eq_true.mp h z (List.mem_range.mpr hz)
  exact List.contains_iff_mem.mp this
theorem plan_nil : Plan [] := fun z hz => by simp at hz
theorem plan_snoc {f : List Int} {b : Int} (p : Plan f) (h : b ∈ chainM f) : Plan (f ++ [b]) := by
  intro z hz
  rw [List.length_append, List.length_singleton] at hz
  by_cases e : z < f.length
  · have h1 := p z e
    rw [List.take_append_of_le_length (by omega)]
    rw [List.getD_eq_getElem?_getD, List.getElem?_append_left e, ← List.getD_eq_getElem?_getD]
    exact h1
  · have e2 : z = f.length := by omega
    subst e2
    rw [List.take_append_of_le_length (Nat.le_refl _), List.take_length, List.getD_eq_getElem?_getD, List.getElem?_append_right (Nat.le_refl _), Nat.sub_self]
    exact h
theorem allM_plan : ∀ (n : Nat) (f : List Int), f ∈ allM n → Plan f ∧ f.length = n
  | 0, f, h => by
    have e := List.mem_singleton.mp h
    subst e
    exact ⟨plan_nil, rfl⟩
  | n + 1, f, h => by
    unfold allM at h
    obtain ⟨g, hg, hf⟩ := List.mem_flatMap.mp h
    obtain ⟨b, hb, rfl⟩ := List.mem_map.mp hf
    obtain ⟨p, l⟩ := allM_plan n g hg
    exact ⟨plan_snoc p hb, by rw [List.length_append, List.length_singleton, l]⟩
theorem chain_len {f : List Int} (k v : Nat) : (chainAt f k v).length ≤ k + 1 := by
  induction k generalizing v with
  | zero => exact Nat.le_refl 1
  | succ k ih =>
    unfold chainAt
    split
    · exact Nat.succ_le_succ (Nat.zero_le _)
    · rw [List.length_cons]
      have := ih (f.getD (v - 1) 0).toNat
      omega
theorem chain_pos {f : List Int} (k v : Nat) : 1 ≤ (chainAt f k v).length := by
  cases k with
  | zero => exact Nat.le_refl 1
  | succ k =>
    unfold chainAt
    split
    · exact Nat.le_refl 1
    · rw [List.length_cons]
      omega
/-! ### sorting -/
theorem ins_perm (x : Int) : ∀ l : List Int, (ins x l).Perm (x :: l)
  | [] => List.Perm.refl _
  | y :: ys => by
    unfold ins
    split
    · exact List.Perm.refl _
    · exact (List.Perm.cons y (ins_perm x ys)).trans (List.Perm.swap x y ys)
theorem isort_perm : ∀ l : List Int, (isort l).Perm l
  | [] => List.Perm.refl _
  | x :: xs => (ins_perm x (isort xs)).trans (List.Perm.cons x (isort_perm xs))
theorem ins_sorted (x : Int) : ∀ l : List Int, l.Pairwise (· ≤ ·) → (ins x l).Pairwise (· ≤ ·)
  | [], _ => by unfold ins; exact List.pairwise_singleton _ _
  | y :: ys, h => by
    unfold ins
    split
    · rename_i hx
      refine List.Pairwise.cons (fun z hz => ?_) h
      rcases List.mem_cons.mp hz with e | hz
      · omega
      · have := List.rel_of_pairwise_cons h hz
        omega
    · rename_i hx
      obtain ⟨h1, h2⟩ := List.pairwise_cons.mp h
      refine List.Pairwise.cons (fun z hz => ?_) (ins_sorted x ys h2)
      rcases List.mem_cons.mp ((ins_perm x ys).mem_iff.mp hz) with e | hz
      · omega
      · exact h1 z hz
theorem isort_sorted : ∀ l : List Int, (isort l).Pairwise (· ≤ ·)
  | [] => List.Pairwise.nil
  | x :: xs => ins_sorted x _ (isort_sorted xs)
theorem sorted_uniq : ∀ {a b : List Int}, a.Perm b → a.Pairwise (· ≤ ·) → b.Pairwise (· ≤ ·) → a = b
  | [], b, p, _, _ => (List.Perm.nil_eq p)
  | x :: xs, [], p, _, _ => by
    have := p.length_eq
    simp at this
  | x :: xs, y :: ys, p, ha, hb => by
    obtain ⟨ha1, ha2⟩ := List.pairwise_cons.mp ha
    obtain ⟨hb1, hb2⟩ := List.pairwise_cons.mp hb
    have e : x = y := by
      have h1 : x ∈ y :: ys := p.mem_iff.mp List.mem_cons_self
      have h2 : y ∈ x :: xs := p.mem_iff.mpr List.mem_cons_self
      rcases List.mem_cons.mp h1 with h1 | h1
      · exact h1
      · rcases List.mem_cons.mp h2 with h2 | h2
        · exact h2.symm
        · have := hb1 x h1
          have := ha1 y h2
          omega
    subst e
    rw [sorted_uniq (List.Perm.cons_inv p) ha2 hb2]
theorem isort_eq {a l : List Int} (p : a.Perm l) (h : a.Pairwise (· ≤ ·)) : a = isort l := sorted_uniq (p.trans (isort_perm l).symm) h (isort_sorted l)
theorem isort_len (l : List Int) : (isort l).length = l.length := (isort_perm l).length_eq
theorem writes_len (f : List Int) : (writesOf f).length = f.length := by unfold writesOf; rw [List.length_map, List.length_range]
theorem readsGo_len : ∀ (f acc : List Int), (readsGo acc f).length = acc.length + f.length
  | [], acc => rfl
  | b :: bs, acc => by
    unfold readsGo
    rw [readsGo_len bs, List.length_append, List.length_singleton, List.length_cons]
    omega
theorem reads_len (f : List Int) : (readsOf f).length = f.length + 1 := by
  unfold readsOf
  rw [readsGo_len]
  simp
  omega
theorem sortW_len (f : List Int) : (sortW f).length = f.length := by unfold sortW; rw [isort_len, writes_len]
theorem sortR_len (f : List Int) : (sortR f).length = f.length := by unfold sortR; rw [isort_len, List.length_drop, reads_len]; omega
end K26
namespace K26
theorem chS_eq : chS = ch := funext fun n => funext fun k => chS_is n k
theorem le_foldl_max : ∀ (l : List Int) (a : Int), a ≤ l.foldl max a ∧ ∀ x ∈ l, x ≤ l.foldl max a
  | [], a => ⟨Int.le_refl a, fun x h => by cases h⟩
  | y :: l, a => by
    obtain ⟨h1, h2⟩ := le_foldl_max l (max a y)
    refine ⟨Int.le_trans (Int.le_max_left a y) h1, fun x hx => ?_⟩
    rcases List.mem_cons.mp hx with e | hx
    · rw [e]; exact Int.le_trans (Int.le_max_right a y) h1
    · exact h2 x hx
theorem maxM_le {l : List Int} {b : Int} (h : maxM l ≤ b) : 0 ≤ b ∧ ∀ x ∈ l, x ≤ b := by
  obtain ⟨h1, h2⟩ := le_foldl_max l 0
  exact ⟨Int.le_trans h1 h, fun x hx => Int.le_trans (h2 x hx) h⟩
theorem lastD_least (q n : Nat) (h : 1 ≤ q) : lastD (leastL q n) = ((u q n : Nat) : Int) := by
  cases n with
  | zero => rw [u_zero q h]; rfl
  | succ n =>
    rw [leastL_succ]
    unfold lastD
    rw [List.getLastD_concat]
theorem u_mono (q i : Nat) (h : 1 ≤ q) : u q i ≤ u q (i + 1) := by
  apply Decidable.byContradiction
  intro c
  have h1 := (u_is q i h).le (u q (i + 1)) (by omega)
  have h2 := (u_is q (i + 1) h).gt
  omega
theorem u_mono' (q : Nat) (h : 1 ≤ q) {i j : Nat} (hij : i ≤ j) : u q i ≤ u q j := by
  induction hij with
  | refl => exact Nat.le_refl _
  | step _ ih => exact Nat.le_trans ih (u_mono q _ h)
theorem least_le (q n : Nat) (h : 1 ≤ q) : ∀ x ∈ leastL q n, x ≤ ((u q n : Nat) : Int) := by
  intro x hx
  unfold leastL at hx
  obtain ⟨i, hi, rfl⟩ := List.mem_map.mp hx
  have := u_mono' q h (show i + 1 ≤ n by have := List.mem_range.mp hi; omega)
  omega
/-- what max([0] + due) is -/
theorem least_max (q n : Nat) (h : 1 ≤ q) {m : Int} (hm : m ∈ (0 : Int) :: leastL q n) (hle : ∀ y, y ∈ (0 : Int) :: leastL q n → y ≤ m) : m = ((u q n : Nat) : Int) := by
  have h1 : m ≤ ((u q n : Nat) : Int) := by
    rcases List.mem_cons.mp hm with e | hm
    · omega
    · exact least_le q n h m hm
  have h2 : ((u q n : Nat) : Int) ≤ m := by
    cases n with
    | zero => rw [u_zero q h]; exact hle 0 List.mem_cons_self
    | succ n =>
      refine hle _ (List.mem_cons_of_mem _ ?_)
      rw [leastL_succ]
      exact List.mem_append_right _ List.mem_cons_self
  omega
structure BestFacts (n q : Nat) (p m : List Int) : Prop where
  sh : shM ch 24 (n + 1) (u q n) q = some p
  plan : Plan p
  len : p.length = n
  nest : nestedM p = true
  w : sortW p = leastL q n
  r : ∀ x ∈ sortR p, x ≤ ((q : Nat) : Int)
  mir : mirM p = some m
  planM : Plan m
  lenM : m.length = n
  rM : sortR m = leastL q n
  wM : ∀ x ∈ sortW m, x ≤ ((q : Nat) : Int)
theorem best_use (n q : Nat) (hn : n ≤ 20) (h1 : 1 ≤ q) (hq : q ≤ 40) : ∃ p m, BestFacts n q p m := by
  have h := bestHold_all n (by omega) (q - 1) (by omega)
  rw [Nat.sub_add_cancel h1] at h
  unfold bestHoldB bestPM at h
  rw [chS_eq, lf_is q n h1, lastD_least q n h1, Int.toNat_natCast] at h
  cases e : shM ch 24 (n + 1) (u q n) q with
  | none => rw [e] at h; cases h
  | some p =>
    rw [e] at h
    dsimp only at h
    cases e2 : mirM p with
    | none => rw [e2] at h; simp at h
    | some m =>
      rw [e2] at h
      simp only [Bool.and_eq_true, beq_iff_eq, decide_eq_true_eq] at h
      obtain ⟨⟨⟨⟨⟨a1, a2⟩, a3⟩, a4⟩, a5⟩, ⟨⟨b1, b2⟩, b3⟩, b4⟩ := h
      exact ⟨p, m, e, planB_plan a1, a2, a3, a4, (maxM_le a5).2, e2, planB_plan b1, b2, b3, (maxM_le b4).2⟩
structure FullFacts (w q n : Nat) (p r : List Int) : Prop where
  n1 : 1 ≤ n
  n20 : n ≤ 20
  cap : ch (w + q) q = n + 1
  sh : shM ch 24 (ch (w + q) q) w q = some p
  plan : Plan p
  len : p.length = n
  lw : lastD (sortW p) ≤ ((w : Nat) : Int)
  lr : lastD (sortR p) ≤ ((q : Nat) : Int)
  eW : sortW p = leastL q n
  eR : sortR p = leastL w n
  best : shM ch 24 (n + 1) (u q n) q = some p
  sh2 : shM ch 24 (n + 1) (u w n) w = some r
  nest : nestedM r = true
  mir : mirM r = some p
theorem caps16 : ∀ x ∈ pairs16, 1 ≤ x.1 ∧ 1 ≤ x.2 ∧ x.1 ≤ 20 ∧ x.2 ≤ 20 ∧ 2 ≤ chS (x.1 + x.2) x.2 ∧ chS (x.1 + x.2) x.2 ≤ 21 := by decide +kernel
theorem full_use (x : Nat × Nat) (hx : x ∈ pairs16) : ∃ n p r, FullFacts x.1 x.2 n p r := by
  obtain ⟨w, q⟩ := x
  have h := fullHold_all _ hx
  obtain ⟨h1, h2, _, _, c1, c2⟩ := caps16 _ hx
  dsimp only at h h1 h2 c1 c2 ⊢
  unfold fullHoldB bestPM at h
  rw [chS_eq] at h c1 c2
  obtain ⟨n, hn⟩ : ∃ n, ch (w + q) q = n + 1 := ⟨ch (w + q) q - 1, by omega⟩
  have e1 : ch (w + q) q - 1 = n := by omega
  rw [e1, lf_is q n h2, lf_is w n h1, lastD_least q n h2, lastD_least w n h1, Int.toNat_natCast, Int.toNat_natCast] at h
  cases e : shM ch 24 (ch (w + q) q) w q with
  | none => rw [e] at h; cases h
  | some p =>
    rw [e] at h
    dsimp only at h
    cases e2 : shM ch 24 (n + 1) (u w n) w with
    | none => rw [e2] at h; simp at h
    | some r =>
      rw [e2] at h
      simp only [Bool.and_eq_true, beq_iff_eq, decide_eq_true_eq] at h
      obtain ⟨⟨⟨⟨⟨⟨⟨⟨a1, a2⟩, a3⟩, a4⟩, a5⟩, a6⟩, a7⟩, a8⟩, b1, b2⟩ := h
      exact ⟨n, p, r, by omega, by omega, hn, e, planB_plan a1, a2, a4, a5, a6, a7, a8, e2, b1, b2⟩
structure AllFacts (n q : Nat) : Prop where
  d1 : dueM (byR n q) n = leastL q n
  d2 : dueM (byW n q) n = leastL q n
  m1 : leastL q n ∈ byR n q
  m2 : leastL q n ∈ byW n q
theorem all_use (n q : Nat) (hn : n ≤ 6) (h1 : 1 ≤ q) (hq : q ≤ n + 1) : AllFacts n q := by
  have h := allHold_all n (by omega) (q - 1) (by omega)
  rw [Nat.sub_add_cancel h1] at h
  unfold allHoldB at h
  rw [lf_is q n h1] at h
  simp only [Bool.and_eq_true, beq_iff_eq] at h
  obtain ⟨⟨⟨a1, a2⟩, a3⟩, a4⟩ := h
  exact ⟨a1, a2, List.contains_iff_mem.mp a3, List.contains_iff_mem.mp a4⟩
end K26
namespace K26
/-! ### how many changes have few writes, how many versions few reads -/
abbrev Sgs := List (List Nat × List Nat)
def wS (L : Sgs) : List Nat := (L.map (·.1)).flatten
def rS (L : Sgs) : List Nat := (L.map (·.2)).flatten
theorem wS_cons (x : List Nat × List Nat) (L : Sgs) : wS (x :: L) = x.1 ++ wS L := by unfold wS; rw [List.map_cons, List.flatten_cons]
theorem rS_cons (x : List Nat × List Nat) (L : Sgs) : rS (x :: L) = x.2 ++ rS L := by unfold rS; rw [List.map_cons, List.flatten_cons]
theorem wS_app (L M : Sgs) : wS (L ++ M) = wS L ++ wS M := by unfold wS; rw [List.map_append, List.flatten_append]
theorem rS_app (L M : Sgs) : rS (L ++ M) = rS L ++ rS M := by unfold rS; rw [List.map_append, List.flatten_append]
/-- by widths: each segment's bound, its place counted from j -/
def WS (q : Nat) : Nat → Sgs → Prop
  | _, [] => True
  | j, x :: L => (∀ y ∈ x.1, 1 ≤ y) ∧ (∀ w, x.1.countP (fun y => decide (y ≤ w + 1)) ≤ ch (w + (q - j)) w) ∧ WS q (j + 1) L
theorem WS.pos {q : Nat} : ∀ {j : Nat} {L : Sgs}, WS q j L → ∀ y ∈ wS L, 1 ≤ y
  | _, [], _, y, hy => by cases hy
  | j, x :: L, h, y, hy => by
    rw [wS_cons] at hy
    rcases List.mem_append.mp hy with hy | hy
    · exact h.1 y hy
    · exact WS.pos h.2.2 y hy
theorem WS.split {q : Nat} : ∀ {j : Nat} {L M : Sgs}, WS q j (L ++ M) ↔ WS q j L ∧ WS q (j + L.length) M
  | j, [], M => by simp [WS]
  | j, x :: L, M => by
    have ih := WS.split (q := q) (j := j + 1) (L := L) (M := M)
    show ((∀ y ∈ x.1, 1 ≤ y) ∧ (∀ w, x.1.countP (fun y => decide (y ≤ w + 1)) ≤ ch (w + (q - j)) w) ∧ WS q (j + 1) (L ++ M)) ↔ ((∀ y ∈ x.1, 1 ≤ y) ∧ (∀ w, x.1.countP (fun y => decide (y ≤ w + 1)) ≤ ch (w + (q - j)) w) ∧ WS q (j + 1) L) ∧ WS q (j + (L.length + 1)) M
    rw [ih, show j + 1 + L.length = j + (L.length + 1) by omega]
    constructor
    · rintro ⟨a, b, c, d⟩
      exact ⟨⟨a, b, c⟩, d⟩
    · rintro ⟨⟨a, b, c⟩, d⟩
      exact ⟨a, b, c, d⟩
theorem WS.sum {q v : Nat} : ∀ {j : Nat} {L : Sgs}, WS q j L → j + L.length ≤ q → (wS L).countP (fun y => decide (y ≤ v + 1)) + 1 ≤ ch (v + 1 + (q - j)) (v + 1)
  | j, [], _, _ => by
    have : 1 ≤ ch (v + 1 + (q - j)) (v + 1) := ch_pos _ _ (by omega)
    show 0 + 1 ≤ _
    omega
  | j, x :: L, h, hl => by
    rw [List.length_cons] at hl
    have ih := WS.sum (v := v) h.2.2 (by omega)
    have h1 := h.2.1 v
    rw [wS_cons, List.countP_append]
    have e1 : v + 1 + (q - (j + 1)) = v + (q - j) := by omega
    have e2 : v + 1 + (q - j) = v + (q - j) + 1 := by omega
    rw [e1] at ih
    rw [e2, ch_ss]
    omega
theorem countP_zero {l : List Nat} (h : ∀ y ∈ l, 1 ≤ y) : l.countP (fun y => decide (y ≤ 0)) = 0 := by
  rw [List.countP_eq_zero]
  intro y hy
  have := h y hy
  simp
  omega
theorem countP_succ (l : List Nat) (w : Nat) : (l.map (· + 1)).countP (fun y => decide (y ≤ w + 1)) = l.countP (fun y => decide (y ≤ w)) := by
  rw [List.countP_map]
  congr 1
  funext y
  simp
/-- the segment that a new version makes of those behind place j -/
def mergeS (L : Sgs) (k : Nat) : List Nat × List Nat := ((wS L).map (· + 1) ++ [1], rS L ++ [k])
theorem WS.merge {q j : Nat} {L : Sgs} {k : Nat} (h : WS q j L) (hl : j + L.length ≤ q) : WS q j [mergeS L k] := by
  refine ⟨fun y hy => ?_, fun w => ?_, trivial⟩
  · rcases List.mem_append.mp hy with hy | hy
    · obtain ⟨z, _, rfl⟩ := List.mem_map.mp hy
      omega
    · rw [List.mem_singleton.mp hy]
      exact Nat.le_refl 1
  · show ((wS L).map (· + 1) ++ [1]).countP (fun y => decide (y ≤ w + 1)) ≤ ch (w + (q - j)) w
    rw [List.countP_append, countP_succ]
    have e1 : ([1] : List Nat).countP (fun y => decide (y ≤ w + 1)) = 1 := by simp
    rw [e1]
    cases w with
    | zero =>
      rw [countP_zero h.pos, ch_zero]
      omega
    | succ v =>
      have := WS.sum (v := v) h hl
      exact this
theorem WS.all {q : Nat} {L : Sgs} (h : WS q 0 L) (hl : L.length ≤ q) (w : Nat) : (wS L).countP (fun y => decide (y ≤ w)) + 1 ≤ ch (w + q) w := by
  cases w with
  | zero =>
    rw [countP_zero h.pos, ch_zero]
    omega
  | succ v => exact WS.sum (v := v) h (by omega)
/-- by reads -/
def RS : Nat → Sgs → Prop
  | _, [] => True
  | j, x :: L => x.1 ≠ [] ∧ (∀ y ∈ x.1, 1 ≤ y) ∧ (∀ y ∈ x.2, j ≤ y) ∧ (∀ M, (∀ y ∈ x.1, y ≤ M + 1) → ∀ r, x.2.countP (fun y => decide (y ≤ j + r)) ≤ ch (M + r) r) ∧ RS (j + 1) L
theorem RS.pos : ∀ {j : Nat} {L : Sgs}, RS j L → ∀ y ∈ wS L, 1 ≤ y
  | _, [], _, y, hy => by cases hy
  | j, x :: L, h, y, hy => by
    rw [wS_cons] at hy
    rcases List.mem_append.mp hy with hy | hy
    · exact h.2.1 y hy
    · exact RS.pos h.2.2.2.2 y hy
theorem RS.low : ∀ {j : Nat} {L : Sgs}, RS j L → ∀ y ∈ rS L, j ≤ y
  | _, [], _, y, hy => by cases hy
  | j, x :: L, h, y, hy => by
    rw [rS_cons] at hy
    rcases List.mem_append.mp hy with hy | hy
    · exact h.2.2.1 y hy
    · have := RS.low h.2.2.2.2 y hy
      omega
theorem RS.split : ∀ {j : Nat} {L M : Sgs}, RS j (L ++ M) ↔ RS j L ∧ RS (j + L.length) M
  | j, [], M => by simp [RS]
  | j, x :: L, M => by
    have ih := RS.split (j := j + 1) (L := L) (M := M)
    show (x.1 ≠ [] ∧ (∀ y ∈ x.1, 1 ≤ y) ∧ (∀ y ∈ x.2, j ≤ y) ∧ (∀ M, (∀ y ∈ x.1, y ≤ M + 1) → ∀ r, x.2.countP (fun y => decide (y ≤ j + r)) ≤ ch (M + r) r) ∧ RS (j + 1) (L ++ M)) ↔ (x.1 ≠ [] ∧ (∀ y ∈ x.1, 1 ≤ y) ∧ (∀ y ∈ x.2, j ≤ y) ∧ (∀ M, (∀ y ∈ x.1, y ≤ M + 1) → ∀ r, x.2.countP (fun y => decide (y ≤ j + r)) ≤ ch (M + r) r) ∧ RS (j + 1) L) ∧ RS (j + (L.length + 1)) M
    rw [ih, show j + 1 + L.length = j + (L.length + 1) by omega]
    constructor
    · rintro ⟨a, b, c, d, e, f⟩
      exact ⟨⟨a, b, c, d, e⟩, f⟩
    · rintro ⟨⟨a, b, c, d, e⟩, f⟩
      exact ⟨a, b, c, d, e, f⟩
theorem RS.sum {M : Nat} : ∀ {j : Nat} {L : Sgs} (r : Nat), RS j L → (∀ y ∈ wS L, y ≤ M + 1) → (rS L).countP (fun y => decide (y ≤ j + r)) + (if j + L.length ≤ j + r then 1 else 0) ≤ ch (M + 1 + r) r
  | j, [], r, _, _ => by
    have : 1 ≤ ch (M + 1 + r) r := ch_pos _ _ (by omega)
    show 0 + (if j + 0 ≤ j + r then 1 else 0) ≤ _
    rw [if_pos (by omega)]
    omega
  | j, x :: L, r, h, hM => by
    rw [wS_cons] at hM
    have h1 := h.2.2.2.1 M (fun y hy => hM y (List.mem_append_left _ hy)) r
    rw [rS_cons, List.countP_append, List.length_cons]
    cases r with
    | zero =>
      rw [ch_zero] at h1 ⊢
      have h2 : (rS L).countP (fun y => decide (y ≤ j + 0)) = 0 := by
        rw [List.countP_eq_zero]
        intro y hy
        have := RS.low h.2.2.2.2 y hy
        simp
        omega
      rw [h2, if_neg (by omega)]
      omega
    | succ r =>
      have ih := RS.sum (M := M) r h.2.2.2.2 (fun y hy => hM y (List.mem_append_right _ hy))
      have e1 : j + 1 + r = j + (r + 1) := by omega
      have e2 : j + 1 + L.length = j + (L.length + 1) := by omega
      rw [e1, e2] at ih
      have e3 : M + 1 + (r + 1) = (M + 1 + r) + 1 := by omega
      rw [e3, ch_ss]
      have e4 : M + (r + 1) = M + 1 + r := by omega
      rw [e4] at h1
      omega
theorem RS.merge {j : Nat} {L : Sgs} (h : RS j L) : RS j [mergeS L (j + L.length)] := by
  refine ⟨by show (wS L).map (· + 1) ++ [1] ≠ []; simp, fun y hy => ?_, fun y hy => ?_, fun M hM r => ?_, trivial⟩
  · rcases List.mem_append.mp hy with hy | hy
    · obtain ⟨z, _, rfl⟩ := List.mem_map.mp hy
      omega
    · rw [List.mem_singleton.mp hy]
      exact Nat.le_refl 1
  · rcases List.mem_append.mp hy with hy | hy
    · exact h.low y hy
    · rw [List.mem_singleton.mp hy]
      omega
  · show (rS L ++ [j + L.length]).countP (fun y => decide (y ≤ j + r)) ≤ ch (M + r) r
    have hM2 : ∀ y ∈ wS L, y ≤ M := fun y hy => by
      have := hM (y + 1) (List.mem_append_left _ (List.mem_map.mpr ⟨y, hy, rfl⟩))
      omega
    have e1 : ([j + L.length] : List Nat).countP (fun y => decide (y ≤ j + r)) = if j + L.length ≤ j + r then 1 else 0 := by
      rw [List.countP_cons, List.countP_nil]
      by_cases c : j + L.length ≤ j + r
      · rw [if_pos c, if_pos (decide_eq_true c)]
      · rw [if_neg c, if_neg (by rw [decide_eq_false c]; exact Bool.false_ne_true)]
    rw [List.countP_append, e1]
    cases L with
    | nil =>
      have : 1 ≤ ch (M + r) r := ch_pos _ _ (by omega)
      show 0 + (if j + 0 ≤ j + r then 1 else 0) ≤ _
      rw [if_pos (by omega)]
      omega
    | cons x L =>
      obtain ⟨z, hz⟩ : ∃ z, z ∈ x.1 := by
        cases e : x.1 with
        | nil => exact absurd e h.1
        | cons z l => exact ⟨z, List.mem_cons_self⟩
      have hz1 := h.2.1 z hz
      have hz2 := hM2 z (by rw [wS_cons]; exact List.mem_append_left _ hz)
      obtain ⟨N, rfl⟩ : ∃ N, M = N + 1 := ⟨M - 1, by omega⟩
      have e5 := RS.sum (M := N) r h (fun y hy => hM2 y hy)
      exact e5
/-! ### what one more change does to the counts -/
theorem bump_list (g : Nat → Int) (c : Nat) : ∀ n, c ≤ n → (List.range n).map (fun e => g e + (if c ≤ e then 1 else 0)) = ((List.range n).map g).take c ++ (((List.range n).map g).drop c).map (· + 1) := by
  intro n hc
  refine List.ext_getElem (by simp; omega) (fun i h1 h2 => ?_)
  rw [List.length_map, List.length_range] at h1
  rw [List.getElem_map, List.getElem_range]
  by_cases h : i < c
  · rw [if_neg (by omega), Int.add_zero, List.getElem_append_left (by simp; omega), List.getElem_take, List.getElem_map, List.getElem_range]
  · rw [if_pos (by omega), List.getElem_append_right (by simp; omega)]
    simp
    congr 1
    omega
theorem writes_snoc (f : List Int) (c : Nat) (hc : c ≤ f.length) : writesOf (f ++ [((c : Nat) : Int)]) = (writesOf f).take c ++ ((writesOf f).drop c).map (· + 1) ++ [1] := by
  have h1 : writesOf (f ++ [((c : Nat) : Int)]) = (List.range f.length).map (fun e => ((f.drop e).map fun b => if b < ((e : Nat) : Int) + 1 then (1 : Int) else 0).sum + (if c ≤ e then 1 else 0)) ++ [1] := by
    unfold writesOf
    rw [List.length_append, List.length_singleton, List.range_succ, List.map_append]
    congr 1
    · refine List.map_congr_left (fun e he => ?_)
      have he := List.mem_range.mp he
      rw [List.drop_append_of_le_length (by omega), List.map_append, List.sum_append]
      congr 1
      show (if ((c : Nat) : Int) < ((e : Nat) : Int) + 1 then (1 : Int) else 0) + 0 = _
      by_cases h : c ≤ e
      · rw [if_pos h, if_pos (by omega)]
        rfl
      · rw [if_neg h, if_neg (by omega)]
        rfl
    · show [(((f ++ [((c : Nat) : Int)]).drop f.length).map _).sum] = [1]
      rw [List.drop_append_of_le_length (Nat.le_refl _), List.drop_length, List.nil_append]
      show [(if ((c : Nat) : Int) < ((f.length : Nat) : Int) + 1 then (1 : Int) else 0) + 0] = [1]
      rw [if_pos (by omega)]
      rfl
  rw [h1, bump_list _ c _ hc]
  rfl
theorem readsGo_app : ∀ (f : List Int) (acc : List Int) (b : Int), readsGo acc (f ++ [b]) = readsGo acc f ++ [(readsGo acc f).getD b.toNat 0 + 1]
  | [], acc, b => rfl
  | x :: f, acc, b => by
    rw [List.cons_append]
    unfold readsGo
    exact readsGo_app f _ b
theorem reads_snoc (f : List Int) (c : Nat) : readsOf (f ++ [((c : Nat) : Int)]) = readsOf f ++ [(readsOf f).getD c 0 + 1] := readsGo_app f [0] _
theorem sum01 : ∀ (l : List Int) (p : Int → Bool), (l.map fun b => if p b then (1 : Int) else 0).sum ≤ l.length
  | [], p => by simp
  | x :: l, p => by
    have := sum01 l p
    rw [List.map_cons, List.sum_cons, List.length_cons]
    split <;> omega
theorem writes_le (f : List Int) : ∀ x ∈ writesOf f, x ≤ ((f.length : Nat) : Int) := by
  intro x hx
  unfold writesOf at hx
  obtain ⟨e, he, rfl⟩ := List.mem_map.mp hx
  have h := sum01 (f.drop e) (fun b => decide (b < ((e : Nat) : Int) + 1))
  rw [List.length_drop] at h
  have h2 : ((f.drop e).map fun b => if b < ((e : Nat) : Int) + 1 then (1 : Int) else 0) = ((f.drop e).map fun b => if decide (b < ((e : Nat) : Int) + 1) = true then (1 : Int) else 0) := by
    refine List.map_congr_left (fun b _ => ?_)
    by_cases h : b < ((e : Nat) : Int) + 1
    · rw [if_pos h, if_pos (decide_eq_true h)]
    · rw [if_neg h, if_neg (by rw [decide_eq_false h]; exact Bool.false_ne_true)]
  rw [h2]
  omega
/-! ### the chain's segments -/
def C (L : Sgs) (j : Nat) : Nat := (wS (L.take j)).length
structure St (f : List Int) (L : Sgs) : Prop where
  w : writesOf f = (wS L).map fun x => ((x : Nat) : Int)
  r : readsOf f = (rS L ++ [L.length]).map fun x => ((x : Nat) : Int)
  at_ : ∀ j, j ≤ L.length → (readsOf f)[C L j]? = some ((j : Nat) : Int)
  chn : ∀ j, j ≤ L.length → ∀ x ∈ chainAt f (C L j) (C L j), ∃ i, i ≤ j ∧ x = ((C L i : Nat) : Int)
theorem St.len {f : List Int} {L : Sgs} (s : St f L) : (wS L).length = f.length := by
  have := writes_len f
  rw [s.w, List.length_map] at this
  exact this
theorem St.top {f : List Int} {L : Sgs} (s : St f L) : C L L.length = f.length := by
  unfold C
  rw [List.take_length, s.len]
theorem C_le (L : Sgs) (j : Nat) : C L j ≤ (wS L).length := by
  have e := wS_app (L.take j) (L.drop j)
  rw [List.take_append_drop] at e
  rw [e, List.length_append]
  exact Nat.le_add_right _ _
theorem C_same {L M : Sgs} {i : Nat} (h : i ≤ L.length) : C (L ++ M) i = C L i := by
  unfold C
  rw [List.take_append_of_le_length h]
theorem C_take {L : Sgs} {i j : Nat} (h : i ≤ j) : C (L.take j) i = C L i := by
  unfold C
  rw [List.take_take, Nat.min_eq_left h]
theorem St.step {f : List Int} {L : Sgs} (s : St f L) (g : Good f) {j : Nat} (hj : j ≤ L.length) (g2 : Good (f ++ [((C L j : Nat) : Int)])) : St (f ++ [((C L j : Nat) : Int)]) (L.take j ++ [mergeS (L.drop j) L.length]) := by
  have hc : C L j ≤ f.length := by
    rw [← s.len]
    exact C_le L j
  have tl : (L.take j).length = j := by rw [List.length_take]; omega
  have eW := wS_app (L.take j) (L.drop j)
  rw [List.take_append_drop] at eW
  have eR := rS_app (L.take j) (L.drop j)
  rw [List.take_append_drop] at eR
  have hat := s.at_ j hj
  have wnew : wS (L.take j ++ [mergeS (L.drop j) L.length]) = wS (L.take j) ++ ((wS (L.drop j)).map (· + 1) ++ [1]) := by
    rw [wS_app]
    congr 1
    show _ ++ [] = _
    rw [List.append_nil]
    rfl
  have rnew : rS (L.take j ++ [mergeS (L.drop j) L.length]) = rS (L.take j) ++ (rS (L.drop j) ++ [L.length]) := by
    rw [rS_app]
    congr 1
    show _ ++ [] = _
    rw [List.append_nil]
    rfl
  have w : writesOf (f ++ [((C L j : Nat) : Int)]) = (wS (L.take j ++ [mergeS (L.drop j) L.length])).map fun x => ((x : Nat) : Int) := by
    rw [writes_snoc f _ hc, s.w, eW, List.map_append, List.take_append_of_le_length (by rw [List.length_map]; exact Nat.le_refl _), List.drop_append_of_le_length (by rw [List.length_map]; exact Nat.le_refl _)]
    rw [List.take_of_length_le (by rw [List.length_map]; exact Nat.le_refl _), List.drop_of_length_le (by rw [List.length_map]; exact Nat.le_refl _), List.nil_append, wnew, List.map_append, List.map_append, List.append_assoc, List.map_map, List.map_map]
    rfl
  have rr : readsOf (f ++ [((C L j : Nat) : Int)]) = readsOf f ++ [((j + 1 : Nat) : Int)] := by
    rw [reads_snoc, List.getD_eq_getElem?_getD, hat]
    rfl
  have r : readsOf (f ++ [((C L j : Nat) : Int)]) = (rS (L.take j ++ [mergeS (L.drop j) L.length]) ++ [(L.take j ++ [mergeS (L.drop j) L.length]).length]).map fun x => ((x : Nat) : Int) := by
    rw [rr, s.r, rnew, eR, List.length_append, List.length_singleton, tl, List.append_assoc, List.map_append, List.map_append, List.map_append, List.map_append]
    simp
  have lnew : (L.take j ++ [mergeS (L.drop j) L.length]).length = j + 1 := by rw [List.length_append, List.length_singleton, tl]
  have ctop : C (L.take j ++ [mergeS (L.drop j) L.length]) (j + 1) = f.length + 1 := by
    unfold C
    rw [← lnew, List.take_length]
    have := writes_len (f ++ [((C L j : Nat) : Int)])
    rw [w, List.length_map, List.length_append] at this
    exact this
  have clow : ∀ i, i ≤ j → C (L.take j ++ [mergeS (L.drop j) L.length]) i = C L i := fun i hi => by
    rw [C_same (by rw [tl]; exact hi), C_take hi]
  have cle : ∀ i, C L i ≤ f.length := fun i => by
    rw [← s.len]
    exact C_le L i
  have ft : (f ++ [((C L j : Nat) : Int)]).take f.length = f := by
    rw [List.take_append_of_le_length (Nat.le_refl _), List.take_length]
  have hch : ∀ v, v ≤ f.length → chainAt (f ++ [((C L j : Nat) : Int)]) v v = chainAt f v v := fun v hv => by
    have h := chain_take g2 v v f.length hv (by rw [List.length_append]; omega)
    rw [ft] at h
    exact h.symm
  refine ⟨w, r, fun i hi => ?_, fun i hi x hx => ?_⟩
  · rw [lnew] at hi
    by_cases e : i ≤ j
    · rw [clow i e, rr, List.getElem?_append_left (by rw [reads_len]; have := cle i; omega)]
      exact s.at_ i (by omega)
    · have e2 : i = j + 1 := by omega
      subst e2
      rw [ctop, rr, List.getElem?_append_right (by rw [reads_len]; exact Nat.le_refl _), reads_len, Nat.sub_self]
      rfl
  · rw [lnew] at hi
    by_cases e : i ≤ j
    · rw [clow i e, hch _ (cle i)] at hx
      obtain ⟨k, hk, rfl⟩ := s.chn i (by omega) x hx
      exact ⟨k, hk, by rw [clow k (by omega)]⟩
    · have e2 : i = j + 1 := by omega
      subst e2
      rw [ctop] at hx
      unfold chainAt at hx
      rw [if_neg (by omega)] at hx
      have eb : (f ++ [((C L j : Nat) : Int)]).getD (f.length + 1 - 1) 0 = ((C L j : Nat) : Int) := by
        rw [Nat.add_sub_cancel, List.getD_eq_getElem?_getD, List.getElem?_append_right (Nat.le_refl _), Nat.sub_self]
        rfl
      rw [eb, Int.toNat_natCast] at hx
      rcases List.mem_cons.mp hx with hx | hx
      · exact ⟨j + 1, Nat.le_refl _, by rw [ctop]; exact hx⟩
      · rw [chain_fuel g2 f.length (C L j) (C L j) hc (Nat.le_refl _) (by rw [List.length_append]; omega), hch _ hc] at hx
        obtain ⟨k, hk, rfl⟩ := s.chn j hj x hx
        exact ⟨k, by omega, by rw [clow k hk]⟩
theorem plan_last {f : List Int} {b : Int} (p : Plan (f ++ [b])) : Plan f ∧ b ∈ chainM f := by
  refine ⟨fun z hz => ?_, ?_⟩
  · have h := p z (by rw [List.length_append]; omega)
    rw [List.take_append_of_le_length (by omega), List.getD_eq_getElem?_getD, List.getElem?_append_left hz, ← List.getD_eq_getElem?_getD] at h
    exact h
  · have h := p f.length (by rw [List.length_append, List.length_singleton]; omega)
    rw [List.take_append_of_le_length (Nat.le_refl _), List.take_length, List.getD_eq_getElem?_getD, List.getElem?_append_right (Nat.le_refl _), Nat.sub_self] at h
    exact h
theorem plan_state : ∀ (n : Nat) (f : List Int), f.length = n → Plan f → ∃ L, St f L ∧ RS 0 L ∧ (∀ x ∈ readsOf f, x ≤ ((n : Nat) : Int)) ∧ ∀ q : Nat, (∀ x ∈ readsOf f, x ≤ ((q : Nat) : Int)) → WS q 0 L ∧ L.length ≤ q
  | 0, f, hn, p => by
    have e : f = [] := List.eq_nil_of_length_eq_zero hn
    subst e
    refine ⟨[], ⟨rfl, rfl, fun j hj => ?_, fun j hj x hx => ?_⟩, trivial, fun x hx => ?_, fun q _ => ⟨trivial, Nat.zero_le _⟩⟩
    · have e : j = 0 := Nat.le_zero.mp hj
      subst e
      rfl
    · have e : j = 0 := Nat.le_zero.mp hj
      subst e
      exact ⟨0, Nat.le_refl _, List.mem_singleton.mp hx⟩
    · rw [List.mem_singleton.mp hx]
      exact Int.le_refl 0
  | n + 1, f, hn, p => by
    rcases List.eq_nil_or_concat f with e | ⟨g, b, e⟩
    · subst e
      cases hn
    · rw [List.concat_eq_append] at e
      subst e
      rw [List.length_append, List.length_singleton] at hn
      have hn : g.length = n := by omega
      obtain ⟨pg, hb⟩ := plan_last p
      obtain ⟨L, s, rs, top, ws⟩ := plan_state n g hn pg
      have htop := s.top
      unfold chainM at hb
      rw [← htop] at hb
      obtain ⟨j, hj, rfl⟩ := s.chn L.length (Nat.le_refl _) b hb
      have tl : (L.take j).length = j := by rw [List.length_take]; omega
      have rr : readsOf (g ++ [((C L j : Nat) : Int)]) = readsOf g ++ [((j + 1 : Nat) : Int)] := by
        rw [reads_snoc, List.getD_eq_getElem?_getD, s.at_ j hj]
        rfl
      have rsp := rs
      rw [← List.take_append_drop j L] at rsp
      obtain ⟨r1, r2⟩ := RS.split.mp rsp
      rw [tl, Nat.zero_add] at r2
      have r3 := r2.merge
      have e3 : j + (L.drop j).length = L.length := by rw [List.length_drop]; omega
      rw [e3] at r3
      refine ⟨_, s.step pg.good hj p.good, RS.split.mpr ⟨r1, by rw [tl, Nat.zero_add]; exact r3⟩, fun x hx => ?_, fun q hq => ?_⟩
      · rw [rr] at hx
        rcases List.mem_append.mp hx with hx | hx
        · have := top x hx
          omega
        · rw [List.mem_singleton.mp hx]
          have h1 := List.mem_of_getElem? (s.at_ j hj)
          have := top _ h1
          omega
      · rw [rr] at hq
        obtain ⟨w1, w2⟩ := ws q (fun x hx => hq x (List.mem_append_left _ hx))
        have hq2 := hq _ (List.mem_append_right _ List.mem_cons_self)
        have wsp := w1
        rw [← List.take_append_drop j L] at wsp
        obtain ⟨a1, a2⟩ := WS.split.mp wsp
        rw [tl, Nat.zero_add] at a2
        refine ⟨WS.split.mpr ⟨a1, by rw [tl, Nat.zero_add]; exact a2.merge (by rw [e3]; exact w2)⟩, ?_⟩
        rw [List.length_append, List.length_singleton, tl]
        omega
/-! ### place by place -/
theorem countP_cast (l : List Nat) (w : Nat) : (l.map fun x => ((x : Nat) : Int)).countP (fun y => decide (y ≤ ((w : Nat) : Int))) = l.countP (fun y => decide (y ≤ w)) := by
  rw [List.countP_map]
  congr 1
  funext y
  simp
theorem sorted_count {l : List Int} (h : l.Pairwise (· ≤ ·)) {i : Nat} {x : Int} (hx : l[i]? = some x) : i + 1 ≤ l.countP (fun y => decide (y ≤ x)) := by
  obtain ⟨hi, hx⟩ := List.getElem?_eq_some_iff.mp hx
  have e : l.countP (fun y => decide (y ≤ x)) = (l.take (i + 1)).countP (fun y => decide (y ≤ x)) + (l.drop (i + 1)).countP (fun y => decide (y ≤ x)) := by
    rw [← List.countP_append, List.take_append_drop]
  have e2 : (l.take (i + 1)).countP (fun y => decide (y ≤ x)) = (l.take (i + 1)).length := by
    rw [List.countP_eq_length]
    intro y hy
    obtain ⟨k, hk, rfl⟩ := List.mem_iff_getElem.mp hy
    rw [List.length_take] at hk
    rw [List.getElem_take]
    refine decide_eq_true ?_
    by_cases c : k = i
    · subst c
      omega
    · have := List.pairwise_iff_getElem.mp h k i (by omega) hi (by omega)
      omega
  rw [List.length_take] at e2
  omega
theorem none_less {l : List Int} {q n : Nat} (h1 : 1 ≤ q) (hp : ∀ x ∈ l, 0 ≤ x) (hc : ∀ w : Nat, l.countP (fun y => decide (y ≤ ((w : Nat) : Int))) + 1 ≤ cp w q) : ∀ (i : Nat) x y, (isort l)[i]? = some x → (leastL q n)[i]? = some y → y ≤ x := by
  intro i x y hx hy
  apply Decidable.byContradiction
  intro c
  have hi : i < n := by
    have := (List.getElem?_eq_some_iff.mp hy).1
    rw [leastL_len] at this
    exact this
  rw [leastL_get q n i hi] at hy
  cases hy
  have h0 := hp x ((isort_perm l).mem_iff.mp (List.mem_of_getElem? hx))
  obtain ⟨m, rfl⟩ := Int.eq_ofNat_of_zero_le h0
  have a := sorted_count (isort_sorted l) hx
  rw [(isort_perm l).countP_eq] at a
  have b := hc m
  have d := (u_is q (i + 1) h1).le m (by omega)
  omega
theorem writes_none_less {f : List Int} (p : Plan f) {q : Nat} (h1 : 1 ≤ q) (hq : ∀ x ∈ sortR f, x ≤ ((q : Nat) : Int)) : ∀ (i : Nat) x y, (sortW f)[i]? = some x → (leastL q f.length)[i]? = some y → y ≤ x := by
  obtain ⟨L, s, _, _, ws⟩ := plan_state f.length f rfl p
  have hr : ∀ x ∈ readsOf f, x ≤ ((q : Nat) : Int) := by
    intro x hx
    have h0 := s.at_ 0 (Nat.zero_le _)
    have e0 : C L 0 = 0 := rfl
    rw [e0] at h0
    cases e : readsOf f with
    | nil => rw [e] at hx; cases hx
    | cons y l =>
      rw [e] at h0 hx
      cases h0
      rcases List.mem_cons.mp hx with hx | hx
      · omega
      · refine hq x ((isort_perm _).mem_iff.mpr ?_)
        rw [e]
        exact hx
  obtain ⟨w1, w2⟩ := ws q hr
  refine none_less h1 (fun x hx => ?_) (fun w => ?_)
  · rw [s.w] at hx
    obtain ⟨y, _, rfl⟩ := List.mem_map.mp hx
    exact Int.natCast_nonneg y
  · rw [s.w, countP_cast, cp_symm]
    exact WS.all w1 w2 w
theorem reads_none_less {f : List Int} (p : Plan f) {q : Nat} (h1 : 1 ≤ q) (hq : ∀ x ∈ sortW f, x ≤ ((q : Nat) : Int)) : ∀ (i : Nat) x y, (sortR f)[i]? = some x → (leastL q f.length)[i]? = some y → y ≤ x := by
  obtain ⟨L, s, rs, _, _⟩ := plan_state f.length f rfl p
  have h0 := s.at_ 0 (Nat.zero_le _)
  have e0 : C L 0 = 0 := rfl
  rw [e0] at h0
  have hw : ∀ y ∈ wS L, y ≤ q := fun y hy => by
    have := hq ((y : Nat) : Int) ((isort_perm _).mem_iff.mpr (by rw [s.w]; exact List.mem_map.mpr ⟨y, hy, rfl⟩))
    omega
  obtain ⟨M, rfl⟩ : ∃ M, q = M + 1 := ⟨q - 1, by omega⟩
  refine none_less h1 (fun x hx => ?_) (fun w => ?_)
  · have hx := List.mem_of_mem_drop hx
    rw [s.r] at hx
    obtain ⟨y, _, rfl⟩ := List.mem_map.mp hx
    exact Int.natCast_nonneg y
  · have h2 := RS.sum (M := M) w rs hw
    have e1 : ([L.length] : List Nat).countP (fun y => decide (y ≤ w)) = if L.length ≤ w then 1 else 0 := by
      rw [List.countP_cons, List.countP_nil]
      by_cases c : L.length ≤ w
      · rw [if_pos c, if_pos (decide_eq_true c)]
      · rw [if_neg c, if_neg (by rw [decide_eq_false c]; exact Bool.false_ne_true)]
    have h3 : (readsOf f).countP (fun y => decide (y ≤ ((w : Nat) : Int))) ≤ cp w (M + 1) := by
      rw [s.r, countP_cast, List.countP_append, e1, cp_symm, show w + (M + 1) = M + 1 + w by omega]
      rw [Nat.zero_add, Nat.zero_add] at h2
      exact h2
    cases e : readsOf f with
    | nil => rw [e] at h0; cases h0
    | cons y l =>
      rw [e] at h0 h3
      cases h0
      rw [List.countP_cons, if_pos (decide_eq_true (show ((0 : Nat) : Int) ≤ _ from Int.natCast_nonneg w))] at h3
      exact h3
theorem sorted_last {l : List Int} (h : l.Pairwise (· ≤ ·)) : ∀ x ∈ l, x ≤ lastD l := by
  rcases List.eq_nil_or_concat l with e | ⟨g, b, e⟩
  · subst e
    intro x hx
    cases hx
  · rw [List.concat_eq_append] at e
    subst e
    intro x hx
    have e2 : lastD (g ++ [b]) = b := by
      unfold lastD
      rw [List.getLastD_concat]
    rw [e2]
    rcases List.mem_append.mp hx with hx | hx
    · exact (List.pairwise_append.mp h).2.2 x hx b List.mem_cons_self
    · rw [List.mem_singleton.mp hx]
      exact Int.le_refl _
theorem lastD_mem {l : List Int} (h : l ≠ []) : lastD l ∈ l := by
  rcases List.eq_nil_or_concat l with e | ⟨g, b, e⟩
  · exact absurd e h
  · rw [List.concat_eq_append] at e
    subst e
    have e2 : lastD (g ++ [b]) = b := by
      unfold lastD
      rw [List.getLastD_concat]
    rw [e2]
    exact List.mem_append_right _ List.mem_cons_self
theorem seg_pos {f : List Int} {L : Sgs} (s : St f L) (h : 1 ≤ f.length) : 1 ≤ L.length := by
  cases L with
  | nil =>
    have := s.len
    have e : (wS []).length = 0 := rfl
    omega
  | cons x L => exact Nat.succ_le_succ (Nat.zero_le _)
structure LastOk (l : List Int) (f : List Int) (other : List Int) : Prop where
  ex : ∃ q : Nat, lastD l = ((q : Nat) : Int) ∧ 1 ≤ q ∧ q ≤ f.length ∧ ∀ (i : Nat) x y, other[i]? = some x → (leastL q f.length)[i]? = some y → y ≤ x
theorem lastR_ok {f : List Int} (p : Plan f) (h : 1 ≤ f.length) : LastOk (sortR f) f (sortW f) := by
  obtain ⟨L, s, rs, top, ws⟩ := plan_state f.length f rfl p
  have hne : sortR f ≠ [] := fun e => by
    have := sortR_len f
    rw [e] at this
    change 0 = _ at this
    omega
  have hm := lastD_mem hne
  have hm2 := List.mem_of_mem_drop ((isort_perm _).mem_iff.mp hm)
  have h1 := top _ hm2
  have hk : ((L.length : Nat) : Int) ∈ sortR f := by
    refine (isort_perm _).mem_iff.mpr ?_
    have h2 := s.at_ L.length (Nat.le_refl _)
    rw [s.top] at h2
    obtain ⟨k, hk⟩ : ∃ k, f.length = k + 1 := ⟨f.length - 1, by omega⟩
    rw [hk] at h2
    refine List.mem_of_getElem? (i := k) ?_
    rw [List.getElem?_drop, Nat.add_comm]
    exact h2
  have h3 := sorted_last (isort_sorted ((readsOf f).drop 1))
  have h4 : ((L.length : Nat) : Int) ≤ lastD (sortR f) := h3 _ hk
  have h5 := seg_pos s h
  obtain ⟨q, hq⟩ := Int.eq_ofNat_of_zero_le (show 0 ≤ lastD (sortR f) by omega)
  exact ⟨q, hq, by omega, by omega, writes_none_less p (by omega) (fun x hx => by rw [← hq]; exact h3 x hx)⟩
theorem lastW_ok {f : List Int} (p : Plan f) (h : 1 ≤ f.length) : LastOk (sortW f) f (sortR f) := by
  obtain ⟨L, s, rs, top, ws⟩ := plan_state f.length f rfl p
  have hne : sortW f ≠ [] := fun e => by
    have := sortW_len f
    rw [e] at this
    change 0 = _ at this
    omega
  have hm := (isort_perm _).mem_iff.mp (lastD_mem hne)
  have h3 := sorted_last (isort_sorted (writesOf f))
  have h0 : lastD (sortW f) = lastD (isort (writesOf f)) := rfl
  have h1 := writes_le f _ hm
  have hm' := hm
  rw [s.w] at hm'
  obtain ⟨q, hq, e⟩ := List.mem_map.mp hm'
  have h2 := rs.pos q hq
  rw [← s.w] at e
  have e2 : lastD (sortW f) = ((q : Nat) : Int) := e.symm
  refine ⟨q, e2, h2, ?_, reads_none_less p h2 (fun x hx => ?_)⟩
  · rw [← e] at h1
    omega
  · rw [← e2]
    exact h3 x hx
end K26
namespace K26
open PySem PySem.Spec PyProof.Rows L2
/-! ### math.comb -/
theorem fp_ch (n k : Nat) (h : k ≤ n) : Builtin.Math.fallingProduct (n : Int) k = ((ch n k : Nat) : Int) * Builtin.Math.fallingProduct (k : Int) k := by
  have hf : ∀ m : Nat, Builtin.Math.fallingProduct ((m + 1 : Nat) : Int) (m + 1) = ((m + 1 : Nat) : Int) * Builtin.Math.fallingProduct (m : Int) m := by
    intro m
    have gen : ∀ j, j ≤ m → Builtin.Math.fallingProduct ((m + 1 : Nat) : Int) (j + 1) = ((m + 1 : Nat) : Int) * Builtin.Math.fallingProduct (m : Int) j := by
      intro j
      induction j with
      | zero => intro _; rw [PySem.W.mc_fp_one, PySem.W.mc_fp_zero, Int.mul_one]
      | succ j ih =>
        intro hj
        rw [PySem.W.mc_fp_succ, ih (by omega), PySem.W.mc_fp_succ, Int.mul_assoc]
        congr 2
        omega
    exact gen m (Nat.le_refl m)
  induction k with
  | zero => rw [ch_zero, PySem.W.mc_fp_zero, PySem.W.mc_fp_zero]; rfl
  | succ k ih =>
    rw [PySem.W.mc_fp_succ, ih (by omega), hf k]
    have e1 := ch_right n k (by omega)
    have e2 : ((ch n (k + 1) : Nat) : Int) * ((k + 1 : Nat) : Int) = ((ch n k : Nat) : Int) * ((n - k : Nat) : Int) := by
      rw [← Int.natCast_mul, ← Int.natCast_mul, e1]
    have e3 : ((n : Int) - (k : Int)) = ((n - k : Nat) : Int) := by omega
    rw [e3, Int.mul_right_comm, ← e2, Int.mul_assoc]
theorem comb_ch (a b : Nat) : PySem.W.mcComb (a : Int) (b : Int) = ((ch a b : Nat) : Int) := by
  by_cases h : b ≤ a
  · have hq : PySem.W.mcComb (a : Int) (b : Int) = _ := PySem.W.mcComb_at (m := min (b : Int) ((a : Int) - b)) (by omega) (by omega) rfl
    rw [hq]
    have em : min (b : Int) ((a : Int) - b) = ((min b (a - b) : Nat) : Int) := by omega
    rw [em, Int.toNat_natCast, fp_ch a (min b (a - b)) (by omega)]
    have hp : 1 ≤ Builtin.Math.fallingProduct ((min b (a - b) : Nat) : Int) (min b (a - b)) := PySem.W.mc_fp_pos _ (by omega)
    rw [Int.mul_ediv_cancel _ (by omega)]
    by_cases h2 : b ≤ a - b
    · rw [Nat.min_eq_left h2]
    · rw [Nat.min_eq_right (by omega)]
      have h3 := ch_symm (a - b) b
      have e : a - b + b = a := by omega
      rw [e] at h3
      rw [h3]
  · rw [PySem.W.mcComb_above (by omega), ch_gt a b (by omega)]
    rfl
section
variable {X : Cx}
def rComb : List V → Hp → VK → Prop := fun vs H Q => ∃ a b : Nat, vs = [.int a, .int b] ∧ a < 2 ^ 64 ∧ b ≤ 9000 ∧ Q (.int ((ch a b : Nat) : Int)) H
theorem cr_comb : CallR X (.builtin "math.comb") rComb := by
  intro pins s σ H vs us Q I r h
  obtain ⟨a, b, rfl, ha, hb, q⟩ := h
  obtain ⟨t, u, rfl⟩ := Vals.int2 r
  refine PySem.W.mc_comb (by omega) (by omega) (by omega) (.inl (by omega)) fun _ => ?_
  rw [comb_ch]
  exact ⟨.int _, H, I.tok _, ⟨_, rfl⟩, q⟩
/-! ### sum of a tuple -/
def rSumT (K : PySem.W.Frag) : List V → Hp → VK → Prop := fun vs H Q => ∃ (a : Addr) (ns : List Int), vs = [V.ref a] ∧ SqT K H a (ns.map V.int) ∧ Q (.int ns.sum) H
theorem cr_sumT (hc : X.calm = true) : CallR X (.builtin "sum") (rSumT X.K) := by
  intro pins s σ H vs us Q I r h
  obtain ⟨a, ns, rfl, hs, q⟩ := h
  obtain ⟨its, rv, ht, _⟩ := I.tuple hs
  rw [Vals.ref1 r]
  have hi : IntsAre its ns := rv.ints
  obtain ⟨xs, hx⟩ := hi.allInts.items
  have hn : numsOf its.toArray.toList = ns := by rw [show its.toArray.toList = its from rfl, hi.numsOf]
  rw [hx] at ht hn
  rw [nums_intItems] at hn
  refine PySem.W.ktm_sumG (I.ok.hd hc) ht fun h' tk t' hk => ?_
  refine ⟨.int _, H, I.kept hk, ⟨_, rfl⟩, ?_⟩
  rw [preSum_eq, List.take_of_length_le (by simp), hn]
  exact q
/-! ### text reversed -/
def revS (x : Str) : Str := ⟨x.cps.toList.reverse.toArray⟩
theorem range_rev (n : Nat) : sliceRange ((n : Int) - 1) (-1) (-1) = (List.range n).reverse := by
  rw [PySem.W.krv_sliceRange, PySem.W.krv_range]
theorem sliceBy_rev (x : Str) (uk : Tok) : Txt.sliceBy x none none (-1, uk) = revS x := by
  have e : slicePicked x none none (some (-1, uk)) = (List.range x.length).reverse := range_rev x.length
  unfold Txt.sliceBy
  rw [if_neg (by simp)]
  rw [e, List.filterMap_reverse]
  unfold revS
  congr 2
  show _ = x.cps.toList.reverse
  rw [List.reverse_inj] <;> exact PySem.W.krv_all x.cps
def tRevS (te : TE) : TE := fun σ H Q => te σ H fun x H1 => ∃ z, x = .str z ∧ z.length ≤ sizeLine ∧ Q (.str (revS z)) H1
theorem pe_revS {e : Expr} {te : TE} {k : Nat} {p1 p2 p3 pos : Pos} (he : PE X e te) : PE X (.Subscript e (.Slice none none (some (.UnaryOp .USub (.Constant (.int 1) k p1) p2)) p3) pos) (tRevS te) := by
  refine ⟨fun pins s σ H Q I h => ?_⟩
  refine Subscript_ (thn (he.run pins s σ H _ I h) fun v s1 ⟨x, H1, I1, r1, q1⟩ => ?_)
  obtain ⟨z, ex, hz, q⟩ := q1
  subst ex
  obtain ⟨t, rfl⟩ := r1
  have hst : PO X (some (.UnaryOp .USub (.Constant (.int 1) k p1) p2)) (tPart (tUn (rU fun i => .int (-i)) (tC (.int 1)))) := po_some (pe_un un_neg pe_int)
  refine wpAny_Slice (thn (po_none.run pins s1 σ H1 (fun o H2 => o = none ∧ H2 = H1) I1 ⟨rfl, rfl⟩) fun vl s2 ⟨l, H2, I2, pl, el, e2⟩ => ?_)
  subst el e2
  refine thn (po_none.run pins s2 σ H2 (fun o H3 => o = none ∧ H3 = H2) I2 ⟨rfl, rfl⟩) fun vu s3 ⟨u, H3, I3, pu, eu, e3⟩ => ?_
  subst eu e3
  refine thn (hst.run pins s3 σ H3 (fun o H4 => o = some (-1) ∧ H4 = H3) I3 ⟨1, rfl, -1, rfl, rfl, rfl⟩) fun vs s4 ⟨o, H4, I4, ps, eo, e4⟩ => ?_
  subst eo e4
  cases pl
  cases pu
  cases ps with
  | int _ uk =>
  have I5 : Inv X pins σ H4 { s4 with heap := s4.heap.push { cls := .type "slice", data := .fields #[.none, .none, .int (-1) uk] } } := I4.kept (t' := s4.toks) fun b ob q => Heap.get?_push_of_some _ q
  show wpAny (model X.prog X.w) X.A (subscriptTail e (.Slice none none (some (.UnaryOp .USub (.Constant (.int 1) k p1) p2)) p3) (.str z t) (.ref s4.heap.objs.size)) (EP X pins σ Q) X.xe { s4 with heap := s4.heap.push { cls := .type "slice", data := .fields #[.none, .none, .int (-1) uk] } }
  refine tail_any (ops := [.str z t, .ref s4.heap.objs.size]) (typeIs_str _ _ _) (PySem.F.slot_str_getitem.lookup) ?_ (by with_unfolding_all rfl)
  refine wpAny_getItem_str_slice (l := none) (u := none) (st := some (-1, uk)) ⟨_, Heap.get?_push_size _ rfl, rfl, rfl⟩ rfl ?_
  refine post_val_or_str ⟨Nat.le_trans (Txt.sliceBy_le z none none (-1, uk) (by show (-1 : Int) ≠ 0; decide)) hz, fun t' c => ?_⟩
  show EP X pins σ Q (.str (Txt.sliceBy z none none (-1, uk)) t') _
  rw [sliceBy_rev]
  exact ⟨.str (revS z), H4, I5.tok _, ⟨_, rfl⟩, q⟩
/-! ### f(k = v, ..), keywords alone -/
def tCallK0 (sp : Sp) (gV : List V → List V) (E : XK) (tk : TA) : TE := fun σ H Q => tk σ H fun zs H2 => sp (gV zs) H2 Q E
theorem pe_callK0 {CX : CXT} {k : Nat} {f : Addr} {fd : FuncData} {ps ks : List Str} {sp : Sp} {E : XK} {x : Str} {p pos : Pos} {kws : List Keyword} {tk : TA} {g : List Value → List Value → List Value} {gV : List V → List V → List V}
    (F : FnOk X.prog X.w X.K X.mg X.base CX k f fd ps sp) (hr : Room k X.A) (hg : Gl X x) (hm : X.mg x = some (.ref f)) (hk : PySem.W.keepIn X.K (.ref f) = true) (hb : KBinds X.K fd ps ks g gV) (hx : Passes CX X E)
    (hkw : PK X kws tk) (hall : (backToKw pos (keywordEach kws X.env)).all (·.1.isSome) = true := by rfl) (hks : (backToKw pos (keywordEach kws X.env)).filterMap (·.1) = ks := by rfl)
    (hdb : (x == ("__debug__" : Str)) = false := by decide)
    (hpl : ((backTo pos (starEach [] X.env)).any (·.1) || (backToKw pos (keywordEach kws X.env)).any (·.1.isNone)) = false := by rfl) :
    PE X (.Call (.Name x p) [] kws pos) (tCallK0 sp (gV []) E tk) := by
  refine ⟨fun pins s σ H Q I h => ?_⟩
  refine wpAny_Call_Name_kw (ld_glob I hg hm ?_ hdb)
  refine PySem.W.callWith_KW0 (h₀ := X.base) I.ok.mod.kin hk hall ?_ hpl
  refine thn (hkw.run pos pins s σ H _ I h) fun ws s2 ⟨zs, H2, I2, rz, q2⟩ => ⟨I2.kIn, ?_⟩
  rw [hks]
  exact run_fnk F hr hb hx I2 .nil rz q2
/-! ### enumerate(t, start=1) over a tuple -/
def Ite1 (K : PySem.W.Frag) (a : Addr) : It :=
  ⟨fun i H => ∃ (xs : List V) (x : V), SqT K H a xs ∧ xs[i]? = some x, fun i H v H' => ∃ T x, v = .ref T ∧ H T = none ∧ H' = upd H T (.tup [.int (1 + (i : Nat)), x]) ∧ ∀ xs, SqT K H a xs → xs[i]? = some x, fun i H => ∃ xs : List V, SqT K H a xs ∧ xs.length ≤ i⟩
theorem enum_endT {prog : Program} {w : World} {A : Around} {E : Value → Shared → Prop} {s : Shared} {e it l : Addr} {c : Int} {i : Nat} {items : Array Value} {old : Value} {Q : Option Value → Shared → Prop} (hh : A.handled = none)
    (he : IsEnum s.heap e it c old) (hit : s.heap.IsTupleIter it l i) (hl : s.heap.IsTuple l items) (hx : items[i]? = none)
    (hQ : ∀ h', Heap.ExtBut it s.heap h' → Q none { s with heap := h' }) : wpAny (model prog w) A (pyNext (.ref e)) Q E s := by
  have hT : s.TypeIs (.ref e) "enumerate" := ⟨_, he, rfl⟩
  unfold pyNext
  refine wpAny_bind (wpAny_attempt (wpAny_callSpecial?_slot (name := Str.ofString "__next__") hT PySem.F.slot_enumerate_next
    (wpAny_call_entry PySem.F.slot_enumerate_next hT PySem.F.entry_enumerate_next ?_ (PySem.F.args_enumerate_next_1 _))))
  show wpAny _ _ (field (.ref e) 2 >>= _) _ _ _
  refine wpAny_bind (wpAny_field he rfl (x := .ref it) rfl ?_)
  refine wpAny_bind (wpAny_nextOf_tuple_end (A := A.in1) hh hit hl hx fun h' x he' hx' => ?_)
  obtain ⟨o, ho, hc⟩ := hx'
  refine wpAny_bind (wpAny_isInstance (T := "StopIteration") (b := true) ⟨o, ho, hc⟩ isSubtype_stop ?_)
  exact wpAny_pure (hQ _ he')
theorem turn_enum1 {P : Program} {w : World} {K : PySem.W.Frag} {elts : List Expr} {kk : Nat} {tpos : Pos} (a e it : Addr) :
    Turn P w K (.Tuple elts kk tpos) (Ite1 K a) [e, it] e (fun i h => (∃ old, IsEnum h e it (1 + ((i : Nat) : Int)) old) ∧ h.IsTupleIter it a i ∧ e ≠ it) where
  mem := by simp
  obj := fun i h st b hb => by
    obtain ⟨⟨old, he⟩, ⟨o, ho, hc, hd⟩, _⟩ := st
    have e' : b = e ∨ b = it := by simpa using hb
    rcases e' with z | z
    · rw [z]; exact ⟨_, he, fun v q => nomatch q⟩
    · rw [z]; exact ⟨o, ho, fun v q => by rw [hd] at q; cases q⟩
  keep := fun i h h' st k => let ⟨⟨old, he⟩, hi, hne⟩ := st; ⟨⟨old, k e (by simp) _ he⟩, hi.at fun o q => k it (by simp) o q, hne⟩
  item := by
    intro X hP hw hK hc i pins s σ H E I hf st hg
    subst hP hw hK
    obtain ⟨⟨old, he⟩, hit, hne⟩ := st
    obtain ⟨xs, x, hq, hx⟩ := hg
    obtain ⟨its, rv, p, hz⟩ := I.tuple hq
    obtain ⟨u, hu, ru⟩ := rv.get hx
    have hel : e < s.heap.objs.size := Heap.lt_size he
    have hil : it < s.heap.objs.size := by obtain ⟨_, q, _⟩ := hit; exact Heap.lt_size q
    have hai : a ≠ it := by
      intro z
      obtain ⟨o1, q1, c1, _⟩ := hit
      obtain ⟨o2, q2, c2, _⟩ := p
      rw [z] at q2
      rw [q1] at q2
      cases q2
      rw [c1] at c2
      exact absurd c2 (by decide)
    have hea : e ∉ [it, a] := by
      intro z
      rcases List.mem_cons.mp z with z | z
      · exact hne z
      · have z := List.mem_singleton.mp z
        obtain ⟨o2, q2, c2, _⟩ := p
        rw [← z] at q2
        have := he.symm.trans q2
        cases this
        exact absurd (show Value.type "enumerate" = Value.type "tuple" from c2) (by decide)
    have hin : i < its.toArray.size := by
      rw [List.size_toArray]
      exact (List.getElem?_eq_some_iff.mp hu).1
    refine wpAny_pyNext_enum_itemC (Draws.tuple (prog := X.prog) (w := X.w) (A := X.A.in1) (I.ok.hd hc) it a hai its.toArray) he ⟨hit, p⟩ hin hne hea fun x' h' tk hP ho hs' hT hsz hk => ?_
    have hxu : x' = u := by
      have h1 : its.toArray[i]? = some x' := hP
      have h2 : its.toArray[i]? = some u := by simpa using hu
      exact Option.some.inj (h1.symm.trans h2)
    subst hxu
    refine ⟨_, rfl, wpAny_letOwnedTupleGo_enum (s := { s with heap := h', toks := tk + 1 }) ho fun h'' he' sb => ?_⟩
    have hT2 : h''.get? s.heap.objs.size = some { cls := .type "tuple", data := .seq #[.int (1 + (i : Int)) tk, x'] } := (sb.2 _ (Nat.ne_of_gt hel)).trans hT
    have new : ObjOk X.prog X.w (upd H s.heap.objs.size (.tup [.int (1 + (i : Nat)), x])) h'' s.heap.objs.size (.tup [.int (1 + (i : Nat)), x]) :=
      ⟨by show 2 ≤ sizeLine; decide, [.int (1 + (i : Int)) tk, x'], .cons ⟨_, rfl⟩ (.cons ru .nil), ⟨_, hT2, rfl, _, rfl⟩⟩
    have I1 : Inv X pins σ (upd H s.heap.objs.size (.tup [.int (1 + (i : Nat)), x])) { s with heap := h'', toks := tk + 1 } :=
      I.turnedNew (ch := [e, it]) (fun b ob hb q => (sb.2 b (fun z => hb (by simp [z]))).trans (hk b ob (fun z => hb (by simp [z])) (fun z => hb (by simp [z])) q)) hf (Nat.le_refl _) new
    refine ⟨.ref s.heap.objs.size, _, I1, rfl, ⟨_, x, rfl, I.hok.fresh (Nat.le_refl _), rfl, fun ys hy => by rw [I.tuple_inj hy hq]; exact hx⟩, ⟨⟨x', ?_⟩, hs'.1.at fun o q => (sb.2 it (Ne.symm hne)).trans q, hne⟩, fun b hb => ?_⟩
    · have e1 : 1 + ((i + 1 : Nat) : Int) = 1 + (i : Int) + 1 := by omega
      rw [e1]; exact he'
    · have hb' : b < s.heap.objs.size := by
        have e' : b = e ∨ b = it := by simpa using hb
        rcases e' with z | z
        · rw [z]; exact hel
        · rw [z]; exact hil
      rw [upd_ne (Nat.ne_of_lt hb')]
      exact (hf b hb).1
  done := by
    intro X hP hw hK hc i pins s σ H E I hf st hg
    subst hP hw hK
    obtain ⟨⟨old, he⟩, hit, hne⟩ := st
    obtain ⟨xs, hq, hx⟩ := hg
    obtain ⟨its, rv, p, hz⟩ := I.tuple hq
    obtain ⟨f0, f1, f2, f3, f4, f5⟩ := hf it (by simp)
    have hl := rv.length
    exact enum_endT (I.ok.hd hc) he hit p (by simp; omega) fun h' eb => ⟨rfl, I.turned (t' := s.toks) (fun b o hb q => eb b o hb q) f0 f1 f3 f4 f5⟩
  self := fun A i s Q E st h => let ⟨⟨_, he⟩, _⟩ := st; wpAny_pyIter_enum he h
def iEnum1 (K : PySem.W.Frag) (ta : TA) : TI := fun σ H R => ta σ H fun vs H1 => ∃ a xs, vs = [.ref a] ∧ SqT K H1 a xs ∧ R (Ite1 K a) H1
theorem callWith_typeKw {M : Model} {A : Around} {E : Value → Shared → Prop} {s : Shared} {pos : Pos} {T : String} {first : List Value} {args : List (Bool × Sem Value)} {keywords : List (Option Str × Sem Value)} {Q : Value → Shared → Prop}
    (hplain : args.any (·.1) = false) (hkw : keywords.any (·.1.isNone) = false)
    (h : wpAny M A (evalArgs (.type T) true args keywords) (fun a s₁ => wpAny M A (call (.type T) (first ++ a.pos) a.kw) Q E s₁) E s) :
    wpAny M A (callWith pos (.type T) first args keywords) Q E s := by
  unfold callWith
  refine wpAny_bind (wpAny_holding (wpAny_mono h (fun a s₁ h₁ => wpAny_bind (wpAny_standAt ?_)) fun _ _ x => x))
  simp only [hplain, hkw, Bool.or_false]
  refine wpAny_bind (wpAny_pure ?_)
  exact wpAny_bind (wpAny_mono h₁ (fun r s₂ hr => wpAny_bind (wpAny_holding (wpAny_point (wpAny_pure hr)))) fun _ _ x => x)
theorem pi_enum1 {X : Cx} {e : Expr} {ta : TA} {p pos tpos kp cp : Pos} {j : Nat} {elts : List Expr} {kk : Nat} (hg : Gl X "enumerate") (hm : X.mg "enumerate" = none) (ha : PA X [e] ta)
    (hs : starEach [e] X.env = [(false, eval e X.env)] := by rfl) :
    PI X (.Tuple elts kk tpos) (.Call (.Name "enumerate" p) [e] [⟨some (Str.ofString "start"), .Constant (.int 1) j cp, kp⟩] pos) (iEnum1 X.K ta) := by
  refine ⟨fun pins s σ H R I h => ?_⟩
  refine wpAny_Call_Name_kw (ld_blt I hg hm boot_enumerate ?_)
  have hb : backTo pos (starEach [e] X.env) = (false, eval e X.env) :: [] := by rw [hs]; rfl
  refine callWith_typeKw (by rw [hb]; rfl) rfl ?_
  have hr := ha.run pos pins s σ H _ I h
  rw [hb] at hr ⊢
  refine evalArgs_kwB rfl ?_
  refine thn hr fun us s1 ⟨vs, H1, I1, r1, a, xs, ex, hq, q⟩ => ?_
  subst ex
  obtain rfl := Vals.ref1 r1
  refine kws_cons (thn (pe_int.run pins s1 σ H1 (fun v H2 => v = .int 1 ∧ H2 = H1) I1 ⟨rfl, rfl⟩) fun v s2 ⟨x, H2, I2, rv, ev, e2⟩ => ?_)
  subst ev e2
  obtain ⟨t, rfl⟩ := rv
  refine kws_nil ?_
  show wpAny _ _ (call (.type "enumerate") [.ref a] [(Str.ofString "start", .int 1 t)]) _ _ s2
  obtain ⟨its, rs, pt, hz⟩ := I2.tuple hq
  refine enum_begins_start (begins_tuple a its.toArray) pt (by decide) (by decide) fun h' he hit hsz hk => wpAny_pyIter_enum he ?_
  have I3 : L2.Inv X pins σ H2 { s2 with heap := h' } := I2.kept (t' := s2.toks) hk
  refine ⟨s2.heap.objs.size + 1, [s2.heap.objs.size + 1, s2.heap.objs.size], _, _, H2, rfl, I3, turn_enum1 a (s2.heap.objs.size + 1) s2.heap.objs.size, ⟨⟨.none, he⟩, ⟨_, hit, rfl, rfl⟩, Nat.succ_ne_self _⟩, fun b hb => ?_, q⟩
  have e' : b = s2.heap.objs.size + 1 ∨ b = s2.heap.objs.size := by simpa using hb
  have hle : s2.heap.objs.size ≤ b := by
    rcases e' with z | z
    · rw [z]; exact Nat.le_add_right _ _
    · rw [z]; exact Nat.le_refl _
  exact I2.fpOk hle (I2.hok.fresh hle)
end
end K26
namespace K26
open PySem PySem.Spec PyProof.Rows L2
/-! ### the text by places -/
def top (i : Nat) : Stmt := PySem.Challenge.pw_sincemarks_k26_whole_sorted_least_best.main.body.getD i (.Pass ⟨0, 0, 0, 0⟩)
def asgVal : Stmt → Expr
  | .Assign _ e _ => e
  | _ => .Constant .none 0 ⟨0, 0, 0, 0⟩
def lcSc : Expr → Scope
  | .ListComp _ _ sc _ => sc
  | _ => { kind := .function, names := [], isGenerator := false, isCoroutine := false }
theorem bt_len : bootBuiltins "len" = some (.builtin "len") := by decide +kernel
theorem bt_abs : bootBuiltins "abs" = some (.builtin "abs") := by decide +kernel
theorem bt_sum : bootBuiltins "sum" = some (.builtin "sum") := by decide +kernel
theorem bt_min : bootBuiltins "min" = some (.builtin "min") := by decide +kernel
theorem bt_max : bootBuiltins "max" = some (.builtin "max") := by decide +kernel
theorem bt_sorted : bootBuiltins "sorted" = some (.builtin "sorted") := by decide +kernel
theorem bt_isinstance : bootBuiltins "isinstance" = some (.builtin "isinstance") := by decide +kernel
theorem bt_int : bootBuiltins "int" = some (.type "int") := by decide +kernel
theorem bt_bool : bootBuiltins "bool" = some (.type "bool") := by decide +kernel
theorem bt_tuple : bootBuiltins "tuple" = some (.type "tuple") := by decide +kernel
theorem bt_list : bootBuiltins "list" = some (.type "list") := by decide +kernel
/-- what the top leaves of the built-in names -/
structure Txt (mg : Str → Option Value) : Prop where
  len : mg "len" = none
  abs : mg "abs" = none
  sum : mg "sum" = none
  min : mg "min" = none
  max : mg "max" = none
  sorted : mg "sorted" = none
  isinstance : mg "isinstance" = none
  int : mg "int" = none
  bool : mg "bool" = none
  tuple : mg "tuple" = none
  list : mg "list" = none
  range : mg "range" = none
  zip : mg "zip" = none
  enumerate : mg "enumerate" = none
  comb : mg "comb" = some (.builtin "math.comb")
def LkOk (K : PySem.W.Frag) (f : Addr) (fd : FuncData) : Prop := ∃ (oc : Value) (od : Option Addr) (osl : Array (Option Value)), K.lookup f = some ⟨oc, od, .func fd, osl⟩
theorem funLk {K : PySem.W.Frag} {x qual : Str} {st : Stmt} {f : Addr} {fd : FuncData} (F : Fun K x qual st f fd) : LkOk K f fd := by
  obtain ⟨oc, od, kV, doc, pm, an, cdv, ct, osl, _, h, _⟩ := F.ex
  exact ⟨oc, od, osl, h⟩
theorem LkOk.uniq {K : PySem.W.Frag} {f : Addr} {a b : FuncData} (h : LkOk K f a) (q : LkOk K f b) : a = b := by
  obtain ⟨_, _, _, h⟩ := h
  obtain ⟨_, _, _, q⟩ := q
  have e := h.symm.trans q
  injection e with e
  injection e with _ _ e _
  injection e
/-- a def that stands at the module's name, keeping its promise -/
structure Has (P : Program) (w : World) (K : PySem.W.Frag) (mg : Str → Option Value) (base : Heap) (CX : CXT) (k : Nat) (name : Str) (ps : List Str) (sp : Sp) : Prop where
  ex : ∃ (f : Addr) (fd : FuncData), FnOk P w K mg base CX k f fd ps sp ∧ mg name = some (.ref f) ∧ PySem.W.keepIn K (.ref f) = true ∧ LkOk K f fd ∧ Binds K fd ps []
/-- .. called by keywords -/
structure HasK (P : Program) (w : World) (K : PySem.W.Frag) (mg : Str → Option Value) (base : Heap) (CX : CXT) (k : Nat) (name : Str) (ps ks : List Str) (gV : List V → List V) (sp : Sp) : Prop where
  ex : ∃ (f : Addr) (fd : FuncData) (g : List Value → List Value → List Value) (gW : List V → List V → List V), FnOk P w K mg base CX k f fd ps sp ∧ mg name = some (.ref f) ∧ PySem.W.keepIn K (.ref f) = true ∧ KBinds K fd ps ks g gW ∧ gV = gW []
/-- a def of the text at the module's name -/
structure DefAt (K : PySem.W.Frag) (mg : Str → Option Value) (name : Str) (st : Stmt) : Prop where
  ex : ∃ (f : Addr) (fd : FuncData), Fun K name name st f fd ∧ mg name = some (.ref f)
/-- (k2 = b, k1 = a) for the parameters a, b -/
def swapV {α : Type} : List α → List α → List α
  | [], [r, m] => [m, r]
  | _, _ => []
def pairV {α : Type} : List α → List α → List α
  | [], [m, r] => [m, r]
  | _, _ => []
theorem swapRel {vs zs : List V} {us ws : List Value} (a : Vals vs us) (b : Vals zs ws) : Vals (swapV vs zs) (swapV us ws) := by
  cases a with
  | cons _ _ => exact .nil
  | nil =>
    cases b with
    | nil => exact .nil
    | cons r1 b =>
      cases b with
      | nil => exact .nil
      | cons r2 b =>
        cases b with
        | nil => exact .cons r2 (.cons r1 .nil)
        | cons _ _ => exact .nil
theorem pairRel {vs zs : List V} {us ws : List Value} (a : Vals vs us) (b : Vals zs ws) : Vals (pairV vs zs) (pairV us ws) := by
  cases a with
  | cons _ _ => exact .nil
  | nil =>
    cases b with
    | nil => exact .nil
    | cons r1 b =>
      cases b with
      | nil => exact .nil
      | cons r2 b =>
        cases b with
        | nil => exact .cons r1 (.cons r2 .nil)
        | cons _ _ => exact .nil
theorem kw_swap {P : Program} {w : World} {K : PySem.W.Frag} {mg : Str → Option Value} {base : Heap} {CX : CXT} {k : Nat} {name a b : Str} {sp : Sp} {st : Stmt} (D : DefAt K mg name st) (h : Has P w K mg base CX k name [a, b] sp)
    (hb : ∀ (kV doc pm : Value) (an : Option Addr) (cdv ct r m : Value), bindArgs (PySem.W.fnOf name name (defArgs st) (defBody st) (defScope st) .none kV doc pm an cdv ct) ⟨[], [(b, r), (a, m)]⟩ = pure [(a, m), (b, r)]) :
    HasK P w K mg base CX k name [a, b] [b, a] (swapV []) sp := by
  obtain ⟨f, fd, F, g, kp, lk, _⟩ := h.ex
  obtain ⟨f', fd', F', g'⟩ := D.ex
  obtain rfl : f = f' := by
    have e := g.symm.trans g'
    injection e with e
    injection e
  obtain rfl := lk.uniq (funLk F')
  obtain ⟨oc, od, kV, doc, pm, an, cdv, ct, osl, e, _, _⟩ := F'.ex
  refine ⟨f, fd, swapV, swapV, F, g, kp, ⟨fun s us ws _ hl => ?_, swapRel⟩, rfl⟩
  match us, ws, hl with
  | [], [r, m], _ =>
    rw [e]
    exact BindsTo.of_eq (hb kV doc pm an cdv ct r m)
theorem kw_pair {P : Program} {w : World} {K : PySem.W.Frag} {mg : Str → Option Value} {base : Heap} {CX : CXT} {k : Nat} {name a b : Str} {sp : Sp} {st : Stmt} (D : DefAt K mg name st) (h : Has P w K mg base CX k name [a, b] sp)
    (hb : ∀ (kV doc pm : Value) (an : Option Addr) (cdv ct r m : Value), bindArgs (PySem.W.fnOf name name (defArgs st) (defBody st) (defScope st) .none kV doc pm an cdv ct) ⟨[], [(a, m), (b, r)]⟩ = pure [(a, m), (b, r)]) :
    HasK P w K mg base CX k name [a, b] [a, b] (pairV []) sp := by
  obtain ⟨f, fd, F, g, kp, lk, _⟩ := h.ex
  obtain ⟨f', fd', F', g'⟩ := D.ex
  obtain rfl : f = f' := by
    have e := g.symm.trans g'
    injection e with e
    injection e
  obtain rfl := lk.uniq (funLk F')
  obtain ⟨oc, od, kV, doc, pm, an, cdv, ct, osl, e, _, _⟩ := F'.ex
  refine ⟨f, fd, pairV, pairV, F, g, kp, ⟨fun s us ws _ hl => ?_, pairRel⟩, rfl⟩
  match us, ws, hl with
  | [], [m, r], _ =>
    rw [e]
    exact BindsTo.of_eq (hb kV doc pm an cdv ct r m)
def tU (sp : Sp) (E : XK) (t : TA) : TE := fun σ H Q => t σ H fun vs H1 => sp vs H1 Q E
def tUS (sp : Sp) (E : L2.St → XK) (t : TA) : TE := fun σ H Q => t σ H fun vs H1 => sp vs H1 Q (E σ)
section
variable {X : Cx} {CX : CXT} {k : Nat} {name : Str} {ps ks : List Str} {sp : Sp} {E : XK} {p pos : Pos} {e : Expr} {es : List Expr} {t tk : TA}
theorem callH (h : Has X.prog X.w X.K X.mg X.base CX k name ps sp) (hr : Room k X.A) (hx : Passes CX X E) (hg : Gl X name) (ha : PA X (e :: es) t) (hdb : (name == ("__debug__" : Str)) = false := by decide)
    (he : starEach (e :: es) X.env = (false, eval e X.env) :: starEach es X.env := by rfl) (hpl : (backTo pos (starEach es X.env)).any (·.1) = false := by rfl) : PE X (.Call (.Name name p) (e :: es) [] pos) (tU sp E t) := by
  obtain ⟨f, fd, F, g, kp, _, b⟩ := h.ex
  have q := pe_call (p := p) F hr hg g kp b .nil hx ha hdb he hpl
  have ee : tCall sp [] E t = tU sp E t := by
    funext σ H Q
    show t σ H (fun vs H1 => sp (vs ++ []) H1 Q E) = t σ H (fun vs H1 => sp vs H1 Q E)
    congr 1
    funext vs H1
    rw [List.append_nil]
  rw [← ee]
  exact q
theorem callHS {ES : L2.St → XK} (h : Has X.prog X.w X.K X.mg X.base CX k name ps sp) (hr : Room k X.A) (hx : ∀ σ, PassesAt CX X σ (ES σ)) (hg : Gl X name) (ha : PA X (e :: es) t) (hdb : (name == ("__debug__" : Str)) = false := by decide)
    (he : starEach (e :: es) X.env = (false, eval e X.env) :: starEach es X.env := by rfl) (hpl : (backTo pos (starEach es X.env)).any (·.1) = false := by rfl) : PE X (.Call (.Name name p) (e :: es) [] pos) (tUS sp ES t) := by
  obtain ⟨f, fd, F, g, kp, _, b⟩ := h.ex
  exact pe_callS (p := p) F hr hg g kp b hx ha hdb he hpl
theorem callHK {kws : List Keyword} {gV : List V → List V} (h : HasK X.prog X.w X.K X.mg X.base CX k name ps ks gV sp) (hr : Room k X.A) (hx : Passes CX X E) (hg : Gl X name) (hkw : PK X kws tk) (hdb : (name == ("__debug__" : Str)) = false := by decide)
    (hall : (backToKw pos (keywordEach kws X.env)).all (·.1.isSome) = true := by rfl) (hks : (backToKw pos (keywordEach kws X.env)).filterMap (·.1) = ks := by rfl)
    (hpl : ((backTo pos (starEach [] X.env)).any (·.1) || (backToKw pos (keywordEach kws X.env)).any (·.1.isNone)) = false := by rfl) : PE X (.Call (.Name name p) [] kws pos) (tU sp E (fun σ H Q => tk σ H fun zs H2 => Q (gV zs) H2)) := by
  obtain ⟨f, fd, g, gW, F, hm, kp, b, e⟩ := h.ex
  subst e
  exact pe_callK0 (p := p) F hr hg hm kp b hx hkw hall hks hdb hpl
end
/-! ### heaps -/
theorem sT {K : PySem.W.Frag} {H H' : Hp} {a : Addr} {xs : List V} (e : Same H H') (h : SqT K H a xs) : SqT K H' a xs := by
  rcases h with (h | ⟨o, h⟩) | h
  · exact .inl (.inl (e _ _ h))
  · exact .inl (.inr ⟨o, e _ _ h⟩)
  · exact .inr h
theorem same_new {H : Hp} {p : Addr} {o : HO} (h : H p = none) : Same H (upd H p o) := fun b x e => by
  rw [upd_ne (ne_of_none e h)]
  exact e
/-- H0 is kept in H, and p is not of it -/
theorem same_put {H0 H : Hp} {p : Addr} {o : HO} (s : Same H0 H) (h : H0 p = none) : Same H0 (upd H p o) := fun b x e => by
  rw [upd_ne (ne_of_none e h)]
  exact s b x e
theorem SqT.new {K : PySem.W.Frag} {H : Hp} {p : Addr} {xs : List V} : SqT K (upd H p (.tup xs)) p xs := .inl (.inl upd_same)
theorem SqL.new {K : PySem.W.Frag} {H : Hp} {p : Addr} {xs : List V} : SqL K (upd H p (.lst xs)) p xs := .inl (.inl upd_same)
/-! ### values -/
/-- what may be handed to the checks -/
def Kind (K : PySem.W.Frag) (H : Hp) : V → Prop
  | .int _ => True
  | .bl _ => True
  | .non => True
  | .str _ => True
  | .ref a => ∃ xs, SqT K H a xs
  | _ => False
def isI : V → Bool
  | .int _ => true
  | _ => false
def isN : V → Bool
  | .int i => decide (0 ≤ i)
  | _ => false
def isP : V → Bool
  | .int i => decide (1 ≤ i)
  | _ => false
theorem Kind.same {K : PySem.W.Frag} {H H' : Hp} {v : V} (s : Same H H') (h : Kind K H v) : Kind K H' v := by
  cases v <;> first | exact h | (obtain ⟨xs, h⟩ := h; exact ⟨xs, sT s h⟩)
def tyOfV : V → Value
  | .int _ => .type "int"
  | .bl _ => .type "bool"
  | .non => .type "NoneType"
  | .str _ => .type "str"
  | _ => .type "tuple"
theorem tupX {K : PySem.W.Frag} {H : Hp} {a : Addr} {xs : List V} (h : SqT K H a xs) : TyX K H (.ref a) (.type "tuple") := by
  rcases h with (h | ⟨o, h⟩) | ⟨o, its, n, h, hc, _⟩
  · exact .base (.tup h)
  · exact .fTuple h
  · exact .kTuple h hc
theorem Kind.ty {K : PySem.W.Frag} {H : Hp} {v : V} (h : Kind K H v) : TyX K H v (tyOfV v) := by
  cases v with
  | int i => exact .base (.int i)
  | bl b => exact .base (.bl b)
  | non => exact .base .non
  | str x => exact .base (.str x)
  | ref a => obtain ⟨xs, h⟩ := h; exact tupX h
  | byt b => exact h.elim
  | flt b => exact h.elim
  | ty n => exact h.elim
theorem kit_int {K : PySem.W.Frag} : PySem.W.kitOne K (.type "int") (.type "int") = some true := kit_ty (by decide +kernel)
theorem kit_int_bool {K : PySem.W.Frag} : PySem.W.kitOne K (.type "int") (.type "bool") = some false := kit_ty (by decide +kernel)
theorem kit_bool_int {K : PySem.W.Frag} : PySem.W.kitOne K (.type "bool") (.type "int") = some true := kit_ty (by decide +kernel)
theorem kit_bool {K : PySem.W.Frag} : PySem.W.kitOne K (.type "bool") (.type "bool") = some true := kit_ty (by decide +kernel)
theorem kit_none_int {K : PySem.W.Frag} : PySem.W.kitOne K (.type "NoneType") (.type "int") = some false := kit_ty (by decide +kernel)
theorem kit_str_int {K : PySem.W.Frag} : PySem.W.kitOne K (.type "str") (.type "int") = some false := kit_ty (by decide +kernel)
theorem kit_tup_int {K : PySem.W.Frag} : PySem.W.kitOne K (.type "tuple") (.type "int") = some false := kit_ty (by decide +kernel)
theorem kit_none_bool {K : PySem.W.Frag} : PySem.W.kitOne K (.type "NoneType") (.type "bool") = some false := kit_ty (by decide +kernel)
theorem kit_str_bool {K : PySem.W.Frag} : PySem.W.kitOne K (.type "str") (.type "bool") = some false := kit_ty (by decide +kernel)
theorem kit_tup_bool {K : PySem.W.Frag} : PySem.W.kitOne K (.type "tuple") (.type "bool") = some false := kit_ty (by decide +kernel)
theorem kit_int_tup {K : PySem.W.Frag} : PySem.W.kitOne K (.type "int") (.type "tuple") = some false := kit_ty (by decide +kernel)
theorem kit_tup {K : PySem.W.Frag} : PySem.W.kitOne K (.type "tuple") (.type "tuple") = some true := kit_ty (by decide +kernel)
/-! ### the small checks -/
def spIsI (K : PySem.W.Frag) : Sp := fun vs H Q _ => ∃ v, vs = [v] ∧ Kind K H v ∧ Q (.bl (isI v)) H
def spIsN (K : PySem.W.Frag) : Sp := fun vs H Q _ => ∃ v, vs = [v] ∧ Kind K H v ∧ Q (.bl (isN v)) H
def spIsP (K : PySem.W.Frag) : Sp := fun vs H Q _ => ∃ v, vs = [v] ∧ Kind K H v ∧ Q (.bl (isP v)) H
abbrev s_is_integer : Stmt := top 6
abbrev N_is_integer : List Str := ["thing"]
theorem sc_is_integer : FnScope N_is_integer ["thing"] (defScope s_is_integer) := ⟨rfl, rfl, rfl, by decide +kernel, rfl, by decide +kernel, by decide +kernel⟩
abbrev s_is_number : Stmt := top 7
abbrev N_is_number : List Str := ["thing"]
theorem sc_is_number : FnScope N_is_number ["thing"] (defScope s_is_number) := ⟨rfl, rfl, rfl, by decide +kernel, rfl, by decide +kernel, by decide +kernel⟩
abbrev s_is_natural : Stmt := top 8
abbrev N_is_natural : List Str := ["thing"]
theorem sc_is_natural : FnScope N_is_natural ["thing"] (defScope s_is_natural) := ⟨rfl, rfl, rfl, by decide +kernel, rfl, by decide +kernel, by decide +kernel⟩
section
variable {P : Program} {w : World} {K : PySem.W.Frag} {mg : Str → Option Value} {base : Heap}
theorem ok_is_integer (D : DefAt K mg "is_integer" s_is_integer) (T : Txt mg) : Has P w K mg base CX0 2 "is_integer" ["thing"] (spIsI K) := by
  obtain ⟨f, fd, F, g⟩ := D.ex
  refine ⟨f, fd, ?_, g, F.kp, funLk F, F.binds fun _ _ _ _ _ _ us hl => match us, hl with | [_], _ => rfl⟩
  refine F.ok sc_is_integer (fun vs H Q E h => ?_) (fun cdv A outer s H vs Q E hr h => ?_)
  · obtain ⟨v, rfl, _⟩ := h
    rfl
  · obtain ⟨v, rfl, hk, q⟩ := h
    refine ⟨_, (pss_one (ps_ret (pe_and (pe_callB call_isi (by rfl) T.isinstance bt_isinstance (pa_cons (pv 0) (pa_cons (pe_bltn (v := .ty "int") (by rfl) T.int bt_int rfl) pa_nil))) (pe_one (pe_not (pe_callB call_isi (by rfl) T.isinstance bt_isinstance (pa_cons (pv 0) (pa_cons (pe_bltn (v := .ty "bool") (by rfl) T.bool bt_bool rfl) pa_nil)))))))), ?_⟩
    cases v with
    | int i => exact ⟨_, rfl, _, _, _, _, _, rfl, .ty _, hk.ty, kit_int, _, rfl, iteT ⟨_, rfl, _, _, _, _, _, rfl, .ty _, hk.ty, kit_int_bool, _, rfl, q⟩⟩
    | bl b => exact ⟨_, rfl, _, _, _, _, _, rfl, .ty _, hk.ty, kit_bool_int, _, rfl, iteT ⟨_, rfl, _, _, _, _, _, rfl, .ty _, hk.ty, kit_bool, _, rfl, q⟩⟩
    | non => exact ⟨_, rfl, _, _, _, _, _, rfl, .ty _, hk.ty, kit_none_int, _, rfl, iteF q⟩
    | str x => exact ⟨_, rfl, _, _, _, _, _, rfl, .ty _, hk.ty, kit_str_int, _, rfl, iteF q⟩
    | ref a => exact ⟨_, rfl, _, _, _, _, _, rfl, .ty _, hk.ty, kit_tup_int, _, rfl, iteF q⟩
    | byt b => exact hk.elim
    | flt b => exact hk.elim
    | ty n => exact hk.elim
theorem ok_is_number (D : DefAt K mg "is_number" s_is_number) (h_is_integer : Has P w K mg base CX0 2 "is_integer" ["thing"] (spIsI K)) : Has P w K mg base CX0 3 "is_number" ["thing"] (spIsN K) := by
  obtain ⟨f, fd, F, g⟩ := D.ex
  refine ⟨f, fd, ?_, g, F.kp, funLk F, F.binds fun _ _ _ _ _ _ us hl => match us, hl with | [_], _ => rfl⟩
  refine F.ok sc_is_number (fun vs H Q E h => ?_) (fun cdv A outer s H vs Q E hr h => ?_)
  · obtain ⟨v, rfl, _⟩ := h
    rfl
  · obtain ⟨v, rfl, hk, q⟩ := h
    refine ⟨_, (pss_one (ps_ret (pe_and (callH h_is_integer (hr.mono (by decide)) pass0 (by rfl) (pa_cons (pv 0) pa_nil)) (pe_one (pe_cmpR op_ge (pv 0) pe_int (nomark _)))))), ?_⟩
    refine ⟨_, rfl, _, rfl, hk, _, rfl, ?_⟩
    cases v with
    | int i => exact iteT ⟨_, rfl, _, _, rfl, rfl, q⟩
    | bl b => exact iteF q
    | non => exact iteF q
    | str x => exact iteF q
    | ref a => exact iteF q
    | byt b => exact hk.elim
    | flt b => exact hk.elim
    | ty n => exact hk.elim
theorem ok_is_natural (D : DefAt K mg "is_natural" s_is_natural) (h_is_integer : Has P w K mg base CX0 2 "is_integer" ["thing"] (spIsI K)) : Has P w K mg base CX0 3 "is_natural" ["thing"] (spIsP K) := by
  obtain ⟨f, fd, F, g⟩ := D.ex
  refine ⟨f, fd, ?_, g, F.kp, funLk F, F.binds fun _ _ _ _ _ _ us hl => match us, hl with | [_], _ => rfl⟩
  refine F.ok sc_is_natural (fun vs H Q E h => ?_) (fun cdv A outer s H vs Q E hr h => ?_)
  · obtain ⟨v, rfl, _⟩ := h
    rfl
  · obtain ⟨v, rfl, hk, q⟩ := h
    refine ⟨_, (pss_one (ps_ret (pe_and (callH h_is_integer (hr.mono (by decide)) pass0 (by rfl) (pa_cons (pv 0) pa_nil)) (pe_one (pe_cmpR op_ge (pv 0) pe_int (nomark _)))))), ?_⟩
    refine ⟨_, rfl, _, rfl, hk, _, rfl, ?_⟩
    cases v with
    | int i => exact iteT ⟨_, rfl, _, _, rfl, rfl, q⟩
    | bl b => exact iteF q
    | non => exact iteF q
    | str x => exact iteF q
    | ref a => exact iteF q
    | byt b => exact hk.elim
    | flt b => exact hk.elim
    | ty n => exact hk.elim
/-! ### choose -/
abbrev s_choose : Stmt := top 10
abbrev N_choose : List Str := ["top", "few"]
theorem sc_choose : FnScope N_choose ["top", "few"] (defScope s_choose) := ⟨rfl, rfl, rfl, by decide +kernel, rfl, by decide +kernel, by decide +kernel⟩
def spChoose : Sp := fun vs H Q _ => ∃ a b : Nat, vs = [.int a, .int b] ∧ a < 2 ^ 64 ∧ b ≤ 9000 ∧ Q (.int ((ch a b : Nat) : Int)) H
theorem ok_choose (D : DefAt K mg "choose" s_choose) (T : Txt mg) (h_is_number : Has P w K mg base CX0 3 "is_number" ["thing"] (spIsN K)) : Has P w K mg base CX0 4 "choose" ["top", "few"] spChoose := by
  obtain ⟨f, fd, F, g⟩ := D.ex
  refine ⟨f, fd, ?_, g, F.kp, funLk F, F.binds fun _ _ _ _ _ _ us hl => match us, hl with | [_, _], _ => rfl⟩
  refine F.ok sc_choose (fun vs H Q E h => ?_) (fun cdv A outer s H vs Q E hr h => ?_)
  · obtain ⟨a, b, rfl, _⟩ := h
    rfl
  · obtain ⟨a, b, rfl, ha, hb, q⟩ := h
    refine ⟨_, (pss_cons (ps_if (pt_not (pt_val (callH h_is_number (hr.mono (by decide)) pass0 (by rfl) (pa_cons (pv 0) pa_nil)))) (pss_one ps_never) pss_nil)
      (pss_cons (ps_if (pt_not (pt_val (callH h_is_number (hr.mono (by decide)) pass0 (by rfl) (pa_cons (pv 1) pa_nil)))) (pss_one ps_never) pss_nil)
      (pss_cons (ps_if (pt_cmpR op_gt (pv 1) (pv 0) (nomark _)) (pss_one (ps_ret pe_int)) pss_nil)
      (pss_one (ps_ret (pe_callBfun cr_comb (by rfl) T.comb (pa_cons (pv 0) (pa_cons (pv 1) pa_nil)))))))), ?_⟩
    have e1 : isN (.int (a : Int)) = true := decide_eq_true (Int.natCast_nonneg a)
    have e2 : isN (.int (b : Int)) = true := decide_eq_true (Int.natCast_nonneg b)
    refine ⟨_, rfl, _, rfl, trivial, _, rfl, ?_⟩
    rw [e1]
    refine iteF ?_
    refine ⟨_, rfl, _, rfl, trivial, _, rfl, ?_⟩
    rw [e2]
    refine iteF ?_
    refine ⟨_, rfl, _, rfl, _, _, rfl, rfl, _, rfl, ?_⟩
    by_cases c : (a : Int) < (b : Int)
    · rw [decide_eq_true c]
      refine iteT ?_
      have e := ch_gt a b (by omega)
      rw [e] at q
      exact q
    · rw [decide_eq_false c]
      refine iteF ?_
      exact ⟨_, rfl, _, rfl, a, b, rfl, ha, hb, q⟩
end
end K26
namespace K26
open PySem PySem.Spec PyProof.Rows L2
/-! ### the error -/
abbrev s_init : Stmt := inClass (top 4) 0
theorem sc_init : FnScope ["self", "word", "at"] ["self", "word", "at"] (defScope s_init) := ⟨rfl, rfl, rfl, by decide +kernel, rfl, by decide +kernel, by decide +kernel⟩
def spInit (K : PySem.W.Frag) (C : Addr) : Sp := fun vs H Q _ => ∃ (a : Addr) (x i : V), vs = [.ref a, x, i] ∧ OexC K C ∧ PySem.W.findIn K (.ref C) "word" = some none ∧ PySem.W.findIn K (.ref C) "at" = some none ∧ H a = some (exo a C none) ∧
  ∀ dx, H dx = none → dx ≠ a → Q .non (upd (upd (upd H dx (exd dx [("word", x)])) a (exo a C (some dx))) dx (exd dx [("at", i), ("word", x)]))
section
variable {P : Program} {w : World} {K : PySem.W.Frag} {mg : Str → Option Value} {base : Heap}
theorem ok_init {C f : Addr} {fd : FuncData} (F : Fun K "__init__" "NotUsable.__init__" s_init f fd) : FnOk P w K mg base CX0 1 f fd ["self", "word", "at"] (spInit K C) := by
  refine F.ok sc_init (fun vs H Q E h => ?_) (fun cdv A outer s H vs Q E hr h => ?_)
  · obtain ⟨a, x, i, rfl, _⟩ := h
    rfl
  · obtain ⟨a, x, i, rfl, T, n1, n2, ha, q⟩ := h
    refine ⟨_, pss_cons (ps_ost (pv 0) (pv 1)) (pss_one (ps_ost (pv 0) (pv 2))), ?_⟩
    refine ⟨_, rfl, _, rfl, a, C, rfl, T, n1, .inl ⟨ha, fun dx hd hne => ?_⟩⟩
    refine ⟨_, rfl, _, rfl, a, C, rfl, T, n2, .inr ⟨dx, _, upd_same, ?_, ?_, q dx hd hne⟩⟩
    · rw [upd_ne hne]
      exact upd_same
    · show 1 ≤ 900
      decide
end
/-- what is raised: the error of the class at C, its own dict d holding the word -/
def Raised (C : Addr) (H : Hp) (E : XK) (x : Str) : Prop := ∀ (d : Addr) (H' : Hp), H d = none → Same H H' → H' d = some (.xd [("at", .int (-1)), ("word", .str x)]) → E (.ref C) (some d) H'
theorem Raised.same {C : Addr} {H H' : Hp} {E : XK} {x : Str} (s : Same H H') (r : Raised C H E x) : Raised C H' E x := fun d H2 hd s2 e => r d H2 (s.free hd) (s.trans s2) e
structure Err (P : Program) (w : World) (K : PySem.W.Frag) (mg : Str → Option Value) (base : Heap) (C : Addr) : Prop where
  oex : OexC K C
  xf : XfC K C
  no_word : PySem.W.findIn K (.ref C) "word" = some none
  no_at : PySem.W.findIn K (.ref C) "at" = some none
  g : mg "NotUsable" = some (.ref C)
  te : PySem.W.exmOne K (.ref C) (.ref C) = some true
  init : ∃ (fI : Addr) (fd : FuncData), PySem.W.findIn K (.ref C) "__init__" = some (some (.ref fI)) ∧ PySem.W.typeIn K (.ref fI) = some (.type "function") ∧ FnOk P w K mg base CX0 1 fI fd ["self", "word", "at"] (spInit K C) ∧ Binds K fd ["self", "word", "at"] []
theorem raise_end {C : Addr} {K : PySem.W.Frag} {H : Hp} {E : XK} {x : Str} (oex : OexC K C) (n1 : PySem.W.findIn K (.ref C) "word" = some none) (n2 : PySem.W.findIn K (.ref C) "at" = some none) (r : Raised C H E x) {σ : L2.St} {ta : TA} (h : ∀ Q : List V → Hp → Prop, Q [.str x, .int (-1)] H → ta σ H Q) :
    tMkO C (spInit K C) [] ta σ H E := by
  unfold tMkO
  refine h _ ?_
  refine ⟨by show 2 ≤ 1000; decide, fun a ha => ?_⟩
  refine ⟨a, .str x, .int (-1), rfl, oex, n1, n2, upd_same, fun dx hd hne => ⟨rfl, dx, _, ?_, upd_same, ?_, ?_⟩⟩
  · rw [upd_ne hne.symm]
    exact upd_same
  · rw [upd_ne hne] at hd
    exact hd
  · have hd1 : H dx = none := by
      rw [upd_ne hne] at hd
      exact hd
    refine r dx _ hd1 (fun b o e => ?_) upd_same
    have h1 : b ≠ a := ne_of_none e ha
    have h2 : b ≠ dx := ne_of_none e hd1
    rw [upd_ne h2, del_ne h1, upd_ne h2, upd_ne h1, upd_ne h2, upd_ne h1]
    exact e
abbrev s_need_number : Stmt := top 14
abbrev N_need_number : List Str := ["word", "thing"]
theorem sc_need_number : FnScope N_need_number ["word", "thing"] (defScope s_need_number) := ⟨rfl, rfl, rfl, by decide +kernel, rfl, by decide +kernel, by decide +kernel⟩
abbrev s_need_natural : Stmt := top 15
abbrev N_need_natural : List Str := ["word", "thing"]
theorem sc_need_natural : FnScope N_need_natural ["word", "thing"] (defScope s_need_natural) := ⟨rfl, rfl, rfl, by decide +kernel, rfl, by decide +kernel, by decide +kernel⟩
def spNeed (K : PySem.W.Frag) (C : Addr) (good : V → Bool) : Sp := fun vs H Q E => ∃ (x : Str) (v : V), vs = [.str x, v] ∧ Kind K H v ∧ (good v = true → Q .non H) ∧ (good v = false → Raised C H E x)
section
variable {P : Program} {w : World} {K : PySem.W.Frag} {mg : Str → Option Value} {base : Heap}
theorem ok_need_number {C : Addr} (D : DefAt K mg "need_number" s_need_number) (X : Err P w K mg base C) (h_is_number : Has P w K mg base CX0 3 "is_number" ["thing"] (spIsN K)) : Has P w K mg base (L2.CX P w) 5 "need_number" ["word", "thing"] (spNeed K C isN) := by
  obtain ⟨f, fd, F, g⟩ := D.ex
  refine ⟨f, fd, ?_, g, F.kp, funLk F, F.binds fun _ _ _ _ _ _ us hl => match us, hl with | [_, _], _ => rfl⟩
  refine F.okX sc_need_number (fun vs H Q E h => ?_) (fun cdv A outer s H vs Q E hr h => ?_)
  · obtain ⟨x, v, rfl, _⟩ := h
    rfl
  · obtain ⟨x, v, rfl, hk, q1, q2⟩ := h
    obtain ⟨fI, fdI, iC, tI, F1, bI⟩ := X.init
    refine ⟨_, (pss_one (ps_if (pt_not (pt_val (callH h_is_number (hr.mono (by decide)) pass0 (by rfl) (pa_cons (pv 1) pa_nil)))) (pss_one (ps_raise rfl (takes_of rfl rfl rfl rfl) (pmk_oex X.oex iC tI F1 (hr.mono (by decide)) bI .nil pass0 (by rfl) X.g (pa_cons (pv 0) (pa_cons (pe_un un_neg pe_int) pa_nil))))) pss_nil)), ?_⟩
    refine ⟨_, rfl, _, rfl, hk, _, rfl, ?_⟩
    cases e : isN v with
    | true => exact iteF (q1 e)
    | false => exact iteT (raise_end X.oex X.no_word X.no_at (q2 e) (ta := tCons (tVar 0) (tCons (tUn (rU fun i => .int (-i)) (tC (.int 1))) tNil)) fun Q q => ⟨_, rfl, _, rfl, q⟩)
theorem ok_need_natural {C : Addr} (D : DefAt K mg "need_natural" s_need_natural) (X : Err P w K mg base C) (h_is_natural : Has P w K mg base CX0 3 "is_natural" ["thing"] (spIsP K)) : Has P w K mg base (L2.CX P w) 5 "need_natural" ["word", "thing"] (spNeed K C isP) := by
  obtain ⟨f, fd, F, g⟩ := D.ex
  refine ⟨f, fd, ?_, g, F.kp, funLk F, F.binds fun _ _ _ _ _ _ us hl => match us, hl with | [_, _], _ => rfl⟩
  refine F.okX sc_need_natural (fun vs H Q E h => ?_) (fun cdv A outer s H vs Q E hr h => ?_)
  · obtain ⟨x, v, rfl, _⟩ := h
    rfl
  · obtain ⟨x, v, rfl, hk, q1, q2⟩ := h
    obtain ⟨fI, fdI, iC, tI, F1, bI⟩ := X.init
    refine ⟨_, (pss_one (ps_if (pt_not (pt_val (callH h_is_natural (hr.mono (by decide)) pass0 (by rfl) (pa_cons (pv 1) pa_nil)))) (pss_one (ps_raise rfl (takes_of rfl rfl rfl rfl) (pmk_oex X.oex iC tI F1 (hr.mono (by decide)) bI .nil pass0 (by rfl) X.g (pa_cons (pv 0) (pa_cons (pe_un un_neg pe_int) pa_nil))))) pss_nil)), ?_⟩
    refine ⟨_, rfl, _, rfl, hk, _, rfl, ?_⟩
    cases e : isP v with
    | true => exact iteF (q1 e)
    | false => exact iteT (raise_end X.oex X.no_word X.no_at (q2 e) (ta := tCons (tVar 0) (tCons (tUn (rU fun i => .int (-i)) (tC (.int 1))) tNil)) fun Q q => ⟨_, rfl, _, rfl, q⟩)
end
end K26
namespace K26
open PySem PySem.Spec PyProof.Rows L2
/-! ### a while over states S x -/
def WNx {ι : Type} (S : ι → L2.St) (Pv : ι → Hp → Prop) (μ : ι → Nat) (x : ι) : L2.St → Hp → Prop := fun σ' H' => ∃ y, σ' = S y ∧ Pv y H' ∧ μ y < μ x
def WT {ι : Type} (S : ι → L2.St) (Pv : ι → Hp → Prop) (μ : ι → Nat) (tb : TS) (D : Ends) (x : ι) (H1 : Hp) : Prop :=
  ∃ N : L2.St → Hp → Prop, (∀ σ' H', N σ' H' → ∃ m', m' < μ x ∧ ∃ y, σ' = S y ∧ Pv y H' ∧ μ y = m') ∧ tb { D with nx := N, ct := N, bk := D.nx } (S x) H1
theorem whileT {ι : Type} {S : ι → L2.St} {Pv : ι → Hp → Prop} {μ : ι → Nat} {tb : TS} {D : Ends} {x : ι} {H1 : Hp} (h : tb { D with nx := WNx S Pv μ x, ct := WNx S Pv μ x, bk := D.nx } (S x) H1) : WT S Pv μ tb D x H1 :=
  ⟨_, fun _ _ ⟨y, e, p, l⟩ => ⟨μ y, l, y, e, p, rfl⟩, h⟩
theorem whileI {c : TT} {tb : TS} {D : Ends} {σ : L2.St} {H : Hp} {ι : Type} (S : ι → L2.St) (Pv : ι → Hp → Prop) (μ : ι → Nat) (x0 : ι) (e0 : σ = S x0) (h0 : Pv x0 H)
    (hs : ∀ x H, Pv x H → c (S x) H fun b H1 => if b = true then WT S Pv μ tb D x H1 else D.nx (S x) H1) :
    tWhile c tb D σ H := by
  subst e0
  refine ⟨fun m σ H => ∃ x, σ = S x ∧ Pv x H ∧ μ x = m, ⟨μ x0, x0, rfl, h0, rfl⟩, fun m σ H hW => ?_⟩
  obtain ⟨x, rfl, hp, rfl⟩ := hW
  exact hs x H hp
theorem int2 {a b c d : Int} (h1 : a = c) (h2 : b = d) : [V.int a, V.int b] = [V.int c, V.int d] := by rw [h1, h2]
theorem slotI {a b : Int} (h : a = b) : some (V.int a) = some (V.int b) := by rw [h]
theorem small5 {n : Nat} (h : n ≤ 100000) : n < sizeLine := Nat.lt_of_le_of_lt h (by decide)
/-! ### promises of the defs of two numbers -/
def sp2 (K : PySem.W.Frag) (C : Addr) (w1 : Str) (g1 : V → Bool) (w2 : Str) (g2 : V → Bool) (norm : Nat → Nat → Hp → VK → Prop) : Sp := fun vs H Q E => ∃ v1 v2, vs = [v1, v2] ∧ Kind K H v1 ∧ Kind K H v2 ∧
  (g1 v1 = false → Raised C H E w1) ∧ (g1 v1 = true → g2 v2 = false → Raised C H E w2) ∧ (g1 v1 = true → g2 v2 = true → ∃ n q : Nat, v1 = .int n ∧ v2 = .int q ∧ norm n q H Q)
theorem isP_nat {n : Nat} (h : isP (.int n) = true) : 1 ≤ n := by
  have := of_decide_eq_true h
  omega
def nmSorted (K : PySem.W.Frag) : Nat → Nat → Hp → VK → Prop := fun n q H Q => q ≤ 8000 ∧ n ≤ 100000 ∧ ∀ H' p, Same H H' → SqT K H' p ((leastL q n).map V.int) → Q (.ref p) H'
def nmSum : Nat → Nat → Hp → VK → Prop := fun n q H Q => q ≤ 8000 ∧ n ≤ 100000 ∧ ∀ H', Same H H' → Q (.int (leastL q n).sum) H'
def nmGreat : Nat → Nat → Hp → VK → Prop := fun n q H Q => q ≤ 8000 ∧ n < 2 ^ 110 ∧ Q (.int ((u q n : Nat) : Int)) H
abbrev s_sorted_least : Stmt := top 20
abbrev N_sorted_least : List Str := ["many", "reach", "least", "width", "capacity", "place"]
theorem sc_sorted_least : FnScope N_sorted_least ["many", "reach"] (defScope s_sorted_least) := ⟨rfl, rfl, rfl, by decide +kernel, rfl, by decide +kernel, by decide +kernel⟩
abbrev s_least_sum : Stmt := top 21
abbrev N_least_sum : List Str := ["many", "reach"]
theorem sc_least_sum : FnScope N_least_sum ["many", "reach"] (defScope s_least_sum) := ⟨rfl, rfl, rfl, by decide +kernel, rfl, by decide +kernel, by decide +kernel⟩
abbrev s_least_greatest : Stmt := top 22
abbrev N_least_greatest : List Str := ["many", "reach", "high", "low", "middle"]
theorem sc_least_greatest : FnScope N_least_greatest ["many", "reach"] (defScope s_least_greatest) := ⟨rfl, rfl, rfl, by decide +kernel, rfl, by decide +kernel, by decide +kernel⟩
section
variable {P : Program} {w : World} {K : PySem.W.Frag} {mg : Str → Option Value} {base : Heap}
theorem passX {X : Cx} {E : XK} {E₁ : Value → Shared → Prop} (hs : X.stack = X.env :: X.outer := by rfl) (hf : X.env.frame = some X.env.locals := by rfl) (hex : X.ex = [] := by rfl)
    (hx : X.xe = fun e s' => wpAny (model X.prog X.w) X.A (leaving X.env e) (fun _ s'' => L2.CX X.prog X.w X.outer X.H_0 X.s_0 E e s'') E₁ s' := by rfl) : Passes (L2.CX X.prog X.w) X E :=
  passes_call (takes_of hs hf hex hx) fun _ _ _ _ h => h
theorem ok_sorted_least {C : Addr} (D : DefAt K mg "sorted_least" s_sorted_least) (T : Txt mg) (h_need_number : Has P w K mg base (L2.CX P w) 5 "need_number" ["word", "thing"] (spNeed K C isN))
    (h_need_natural : Has P w K mg base (L2.CX P w) 5 "need_natural" ["word", "thing"] (spNeed K C isP)) (h_choose : Has P w K mg base CX0 4 "choose" ["top", "few"] spChoose) :
    Has P w K mg base (L2.CX P w) 6 "sorted_least" ["many", "reach"] (sp2 K C "many" isN "reach" isP (nmSorted K)) := by
  obtain ⟨f, fd, F, g⟩ := D.ex
  refine ⟨f, fd, ?_, g, F.kp, funLk F, F.binds fun _ _ _ _ _ _ us hl => match us, hl with | [_, _], _ => rfl⟩
  refine F.okX sc_sorted_least (fun vs H Q E h => ?_) (fun cdv A outer s H vs Q E hr h => ?_)
  · obtain ⟨v1, v2, rfl, _⟩ := h
    rfl
  · obtain ⟨v1, v2, rfl, k1, k2, r1, r2, q⟩ := h
    refine ⟨_, (pss_cons (ps_expr (callH h_need_number (hr.mono (by decide)) passX (by rfl) (pa_cons pe_str (pa_cons (pv 0) pa_nil))))
      (pss_cons (ps_expr (callH h_need_natural (hr.mono (by decide)) passX (by rfl) (pa_cons pe_str (pa_cons (pv 1) pa_nil))))
      (pss_cons (ps_set (i := 2) sc_sorted_least.nd rfl (Or.inl rfl) (pe_lst pa_nil))
      (pss_cons (ps_set (i := 3) sc_sorted_least.nd rfl (Or.inl rfl) pe_int)
      (pss_cons (ps_set (i := 4) sc_sorted_least.nd rfl (Or.inl rfl) pe_int)
      (pss_cons (ps_for (passes_of rfl) rfl (pi_range2 (by rfl) T.range (pa_cons pe_int (pa_cons (pe_op op_add (pv 0) pe_int) pa_nil))) (pg_name (i := 5) sc_sorted_least.nd rfl (Or.inl rfl)) (pss_cons (ps_while (passes_of rfl) (pt_cmpR op_le (pv 4) (pv 5) (nomark _)) (pss_cons (ps_aug (i := 3) sc_sorted_least.nd rfl (Or.inl rfl) pe_int ip_add) (pss_one (ps_set (i := 4) sc_sorted_least.nd rfl (Or.inl rfl) (callH h_choose (hr.mono (by decide)) pass0 (by rfl) (pa_cons (pe_op op_add (pv 3) (pv 1)) (pa_cons (pv 1) pa_nil))))))) (pss_one (ps_expr (pe_bm PySem.F.plainAttrs_list PySem.F.slot_list_append PySem.F.type_list_append mt_append (pv 2) (pa_cons (pv 3) pa_nil))))))
      (pss_one (ps_ret (pe_callTy call_tuple_of (by rfl) T.tuple bt_tuple (pa_cons (pv 2) pa_nil)))))))))), ?_⟩
    refine ⟨_, rfl, _, _, rfl, k1, fun g1 => ?_, r1⟩
    refine ⟨_, rfl, _, _, rfl, k2, fun g2 => ?_, r2 g1⟩
    obtain ⟨n, m, rfl, rfl, hm, hn, q⟩ := q g1 g2
    have h1 := isP_nat g2
    refine ⟨Nat.zero_le _, fun p np => ?_⟩
    refine ⟨_, rfl, _, _, rfl, rfl, 1, (n : Int) + 1, rfl, ⟨by decide, by decide, by omega, by omega⟩, ?_⟩
    have en : ((n : Int) + 1 - 1).toNat = n := by omega
    rw [en]
    refine for_range (lo := 1) (n := n) (fun i σ H' => ∃ y, σ = [some (.int n), some (.int m), some (.ref p), some (.int ((u m i : Nat) : Int)), some (.int ((cp (u m i) m : Nat) : Int)), y] ∧ Same H H' ∧ H' p = some (.lst ((leastL m i).map V.int)))
      ⟨none, ?_, same_new np, upd_same⟩ (fun i σ H' hi hP => ?_) (fun σ H' hP => ?_)
    · rw [u_zero m h1, cp_zero]
      rfl
    · obtain ⟨y, rfl, sm, hp⟩ := hP
      refine whileI (fun c : Nat => [some (.int n), some (.int m), some (.ref p), some (.int ((c : Nat) : Int)), some (.int ((cp c m : Nat) : Int)), some (.int (1 + (i : Int)))]) (fun c H2 => H2 = H' ∧ ∀ d, d < c → cp d m ≤ i + 1) (fun c => i + 2 - cp c m) (u m i) rfl
        ⟨rfl, fun d hd => Nat.le_succ_of_le ((u_is m i h1).le d hd)⟩ (fun c H2 hc => ?_)
      obtain ⟨rfl, hc⟩ := hc
      refine ⟨_, rfl, _, rfl, _, _, rfl, rfl, _, rfl, ?_⟩
      by_cases ht : cp c m ≤ i + 1
      · rw [decide_eq_true (show ((cp c m : Nat) : Int) ≤ 1 + (i : Int) by omega)]
        refine iteT (whileT ?_)
        have hcn := cp_ge c m h1
        refine ⟨_, rfl, _, _, rfl, rfl, ?_⟩
        refine ⟨_, rfl, _, rfl, _, _, rfl, rfl, _, rfl, c + 1 + m, m, int2 (show (c : Int) + 1 + (m : Int) = _ by omega) rfl, by omega, by omega, ?_⟩
        exact ⟨c + 1, rfl, ⟨rfl, fun d hd => by
          by_cases e : d < c
          · exact hc d e
          · have e2 : d = c := by omega
            rw [e2]; exact ht⟩, by have := cp_lt c m h1; show i + 2 - cp (c + 1) m < i + 2 - cp c m; omega⟩
      · rw [decide_eq_false (show ¬ ((cp c m : Nat) : Int) ≤ 1 + (i : Int) by omega)]
        refine iteF ?_
        have eu : u m (i + 1) = c := u_eq h1 ⟨by omega, hc⟩
        refine ⟨_, rfl, .inl ⟨rfl, _, SqL.of hp⟩, _, rfl, _, _, _, rfl, rfl, hp, ?_, ?_⟩
        · rw [List.length_map, leastL_len]
          exact small5 (by omega)
        · refine ⟨some (.int (1 + (i : Int))), ?_, same_put sm np, ?_⟩
          · rw [eu]
          · rw [upd_same, leastL_succ, List.map_append, eu]
            rfl
    · obtain ⟨y, rfl, sm, hp⟩ := hP
      refine ⟨_, rfl, p, _, rfl, .inl ⟨SqL.of hp, fun l hl => ?_⟩⟩
      exact q _ l (same_put sm (sm.free hl)) SqT.new
theorem ok_least_sum {C : Addr} (D : DefAt K mg "least_sum" s_least_sum) (T : Txt mg) (h_sorted_least : Has P w K mg base (L2.CX P w) 6 "sorted_least" ["many", "reach"] (sp2 K C "many" isN "reach" isP (nmSorted K))) :
    Has P w K mg base (L2.CX P w) 7 "least_sum" ["many", "reach"] (sp2 K C "many" isN "reach" isP nmSum) := by
  obtain ⟨f, fd, F, g⟩ := D.ex
  refine ⟨f, fd, ?_, g, F.kp, funLk F, F.binds fun _ _ _ _ _ _ us hl => match us, hl with | [_, _], _ => rfl⟩
  refine F.okX sc_least_sum (fun vs H Q E h => ?_) (fun cdv A outer s H vs Q E hr h => ?_)
  · obtain ⟨v1, v2, rfl, _⟩ := h
    rfl
  · obtain ⟨v1, v2, rfl, k1, k2, r1, r2, q⟩ := h
    refine ⟨_, (pss_one (ps_ret (pe_callB (cr_sumT rfl) (by rfl) T.sum bt_sum (pa_cons (callH h_sorted_least (hr.mono (by decide)) passX (by rfl) (pa_cons (pv 0) (pa_cons (pv 1) pa_nil))) pa_nil)))), ?_⟩
    refine ⟨_, rfl, _, rfl, _, _, rfl, k1, k2, r1, r2, fun g1 g2 => ?_⟩
    obtain ⟨n, m, rfl, rfl, hm, hn, q⟩ := q g1 g2
    exact ⟨n, m, rfl, rfl, hm, hn, fun H' p sm hp => ⟨p, _, rfl, hp, q H' sm⟩⟩
theorem pow_half {h n : Nat} (h1 : (h + 1) * (h + 2) ≤ 2 * n) (hn : n < 2 ^ 110) : h < 2 ^ 56 := by
  apply Decidable.byContradiction
  intro hc
  have h2 : 2 ^ 56 * 2 ^ 56 ≤ (h + 1) * (h + 2) := Nat.mul_le_mul (by omega) (by omega)
  have h3 : (2 : Nat) ^ 56 * 2 ^ 56 = 2 * 2 ^ 111 := by decide
  omega
theorem half_lt {h q n : Nat} (hq : 2 ≤ q) (h1 : cp h q ≤ n) (hn : n < 2 ^ 110) : h < 2 ^ 56 := by
  refine pow_half (n := n) ?_ hn
  rw [← cp_two]
  have := cp_mono_far (w := h) hq
  omega
theorem ok_least_greatest {C : Addr} (D : DefAt K mg "least_greatest" s_least_greatest) (T : Txt mg) (h_need_number : Has P w K mg base (L2.CX P w) 5 "need_number" ["word", "thing"] (spNeed K C isN))
    (h_need_natural : Has P w K mg base (L2.CX P w) 5 "need_natural" ["word", "thing"] (spNeed K C isP)) (h_choose : Has P w K mg base CX0 4 "choose" ["top", "few"] spChoose) :
    Has P w K mg base (L2.CX P w) 6 "least_greatest" ["many", "reach"] (sp2 K C "many" isN "reach" isP nmGreat) := by
  obtain ⟨f, fd, F, g⟩ := D.ex
  refine ⟨f, fd, ?_, g, F.kp, funLk F, F.binds fun _ _ _ _ _ _ us hl => match us, hl with | [_, _], _ => rfl⟩
  refine F.okX sc_least_greatest (fun vs H Q E h => ?_) (fun cdv A outer s H vs Q E hr h => ?_)
  · obtain ⟨v1, v2, rfl, _⟩ := h
    rfl
  · obtain ⟨v1, v2, rfl, k1, k2, r1, r2, q⟩ := h
    refine ⟨_, (pss_cons (ps_expr (callH h_need_number (hr.mono (by decide)) passX (by rfl) (pa_cons pe_str (pa_cons (pv 0) pa_nil))))
      (pss_cons (ps_expr (callH h_need_natural (hr.mono (by decide)) passX (by rfl) (pa_cons pe_str (pa_cons (pv 1) pa_nil))))
      (pss_cons (ps_if (PW.pt (pw_or (pt_cmpR op_eq (pv 0) pe_int (nomark _)) (pw_or1 (pt_cmpR op_eq (pv 1) pe_int (nomark _))))) (pss_one (ps_ret (pv 0))) pss_nil)
      (pss_cons (ps_set (i := 2) sc_least_greatest.nd rfl (Or.inl rfl) pe_int)
      (pss_cons (ps_while (passes_of rfl) (pt_cmpR op_le (callH h_choose (hr.mono (by decide)) pass0 (by rfl) (pa_cons (pe_op op_add (pv 2) (pv 1)) (pa_cons (pv 1) pa_nil))) (pv 0) (nomark _)) (pss_one (ps_set (i := 2) sc_least_greatest.nd rfl (Or.inl rfl) (pe_op op_mul pe_int (pv 2)))))
      (pss_cons (ps_set (i := 3) sc_least_greatest.nd rfl (Or.inl rfl) (pe_op op_fdivW (pv 2) pe_int))
      (pss_cons (ps_while (passes_of rfl) (pt_cmpR op_gt (pe_op op_sub (pv 2) (pv 3)) pe_int (nomark _)) (pss_cons (ps_set (i := 4) sc_least_greatest.nd rfl (Or.inl rfl) (pe_op op_fdivW (pe_op op_add (pv 3) (pv 2)) pe_int)) (pss_one (ps_if (pt_cmpR op_le (callH h_choose (hr.mono (by decide)) pass0 (by rfl) (pa_cons (pe_op op_add (pv 4) (pv 1)) (pa_cons (pv 1) pa_nil))) (pv 0) (nomark _)) (pss_one (ps_set (i := 3) sc_least_greatest.nd rfl (Or.inl rfl) (pv 4))) (pss_one (ps_set (i := 2) sc_least_greatest.nd rfl (Or.inl rfl) (pv 4)))))))
      (pss_one (ps_ret (pv 2)))))))))), ?_⟩
    refine ⟨_, rfl, _, _, rfl, k1, fun g1 => ?_, r1⟩
    refine ⟨_, rfl, _, _, rfl, k2, fun g2 => ?_, r2 g1⟩
    obtain ⟨n, m, rfl, rfl, hm, hn, q⟩ := q g1 g2
    have h1 := isP_nat g2
    -- if many == 0 or reach == 1
    refine ⟨_, rfl, rfl, _, rfl, ite2 (fun e => ?_) (fun e => ?_)⟩
    · have e0 : (n : Int) = 0 := V.int.inj (of_decide_eq_true e)
      have e1 : n = 0 := by omega
      subst e1
      rw [u_zero m h1] at q
      exact iteT ⟨_, rfl, q⟩
    have hn0 : 1 ≤ n := by
      have : n ≠ 0 := fun z => e (by rw [z]; rfl)
      omega
    refine ⟨_, rfl, rfl, _, rfl, ite2 (fun e => ?_) (fun e => ?_)⟩
    · have e0 : (m : Int) = 1 := V.int.inj (of_decide_eq_true e)
      have e1 : m = 1 := by omega
      subst e1
      rw [u_one n] at q
      exact ⟨_, rfl, q⟩
    have hm2 : 2 ≤ m := by
      have : m ≠ 1 := fun z => e (by rw [z]; rfl)
      omega
    -- high = 1; while choose(high + reach, reach) <= many
    refine whileI (fun c : Nat => [some (.int n), some (.int m), some (.int ((c : Nat) : Int)), none, none]) (fun c H2 => H2 = H ∧ 1 ≤ c ∧ cp (c / 2) m ≤ n) (fun c => n + 1 - c) 1 rfl
      ⟨rfl, Nat.le_refl 1, by rw [show 1 / 2 = 0 from rfl, cp_zero]; exact hn0⟩ (fun c H2 hc => ?_)
    obtain ⟨rfl, hc1, hc2⟩ := hc
    have hlt := half_lt hm2 hc2 hn
    refine ⟨_, rfl, _, rfl, _, _, rfl, rfl, _, rfl, c + m, m, int2 (show (c : Int) + (m : Int) = _ by omega) rfl, by omega, by omega, _, rfl, _, _, rfl, rfl, _, rfl, ?_⟩
    show if decide (((cp c m : Nat) : Int) ≤ (n : Int)) = true then _ else _
    by_cases ht : cp c m ≤ n
    · rw [decide_eq_true (show ((cp c m : Nat) : Int) ≤ (n : Int) by omega)]
      refine iteT (whileT ?_)
      refine ⟨_, rfl, _, _, rfl, rfl, .inr ⟨?_, ?_⟩, ?_⟩
      · omega
      · omega
      refine ⟨2 * c, ?_, ⟨rfl, by omega, by rw [Nat.mul_div_cancel_left c (by decide)]; exact ht⟩, ?_⟩
      · show [some (V.int (n : Int)), some (V.int (m : Int)), some (V.int (2 * (c : Int))), none, none] = [some (V.int (n : Int)), some (V.int (m : Int)), some (V.int ((2 * c : Nat) : Int)), none, none]
        rw [show (2 : Int) * (c : Int) = ((2 * c : Nat) : Int) by omega]
      · have := cp_ge c m h1
        show n + 1 - 2 * c < n + 1 - c
        omega
    · rw [decide_eq_false (show ¬ ((cp c m : Nat) : Int) ≤ (n : Int) by omega)]
      refine iteF ?_
      -- low = high // 2
      refine ⟨_, rfl, _, _, rfl, rfl, ⟨by decide, by decide⟩, ?_⟩
      refine whileI (fun c : Nat × Nat × Option V => [some (.int n), some (.int m), some (.int ((c.2.1 : Nat) : Int)), some (.int ((c.1 : Nat) : Int)), c.2.2]) (fun c H3 => H3 = H2 ∧ cp c.1 m ≤ n ∧ n < cp c.2.1 m ∧ c.2.1 < 2 ^ 57) (fun c => c.2.1 - c.1) (c / 2, c, none) rfl ⟨rfl, hc2, by show n < cp c m; omega, by show c < 2 ^ 57; omega⟩ (fun c H3 hc => ?_)
      obtain ⟨lo, hi, y⟩ := c
      obtain ⟨rfl, hlo, hhi, h57⟩ := hc
      replace hlo : cp lo m ≤ n := hlo
      replace hhi : n < cp hi m := hhi
      replace h57 : hi < 2 ^ 57 := h57
      have hlh : lo < hi := by
        apply Decidable.byContradiction
        intro z
        have := cp_mono (w := hi) (v := lo) m (by omega)
        omega
      refine ⟨_, rfl, _, rfl, _, _, rfl, rfl, _, _, rfl, rfl, _, rfl, ?_⟩
      by_cases hd : 1 < hi - lo
      · rw [decide_eq_true (show (1 : Int) < (hi : Int) - (lo : Int) by omega)]
        refine iteT (whileT ?_)
        refine ⟨_, rfl, _, rfl, _, _, rfl, rfl, _, _, rfl, rfl, ⟨by decide, by decide⟩, ?_⟩
        have em : ((lo : Int) + (hi : Int)) / 2 = (((lo + hi) / 2 : Nat) : Int) := by omega
        show gName 4 (.int (((lo : Int) + (hi : Int)) / 2)) _ _ _
        rw [em]
        generalize hmid : (lo + hi) / 2 = mid
        have hm1 : lo < mid := by omega
        have hm2 : mid < hi := by omega
        refine ⟨_, rfl, _, rfl, _, _, rfl, rfl, _, rfl, mid + m, m, int2 (show (mid : Int) + (m : Int) = _ by omega) rfl, by omega, by omega, _, rfl, _, _, rfl, rfl, _, rfl, ?_⟩
        show if decide (((cp mid m : Nat) : Int) ≤ (n : Int)) = true then _ else _
        by_cases ht : cp mid m ≤ n
        · rw [decide_eq_true (show ((cp mid m : Nat) : Int) ≤ (n : Int) by omega)]
          refine iteT ?_
          refine ⟨_, rfl, (mid, hi, some (.int ((mid : Nat) : Int))), rfl, ⟨rfl, ht, hhi, h57⟩, ?_⟩
          show hi - mid < hi - lo
          omega
        · rw [decide_eq_false (show ¬ ((cp mid m : Nat) : Int) ≤ (n : Int) by omega)]
          refine iteF ?_
          refine ⟨_, rfl, (lo, mid, some (.int ((mid : Nat) : Int))), rfl, ⟨rfl, hlo, by show n < cp mid m; omega, by show mid < 2 ^ 57; omega⟩, ?_⟩
          show mid - lo < hi - lo
          omega
      · rw [decide_eq_false (show ¬ (1 : Int) < (hi : Int) - (lo : Int) by omega)]
        refine iteF ?_
        have eu : u m n = hi := u_eq h1 ⟨hhi, fun d hd2 => Nat.le_trans (cp_mono m (by omega)) hlo⟩
        rw [eu] at q
        exact ⟨_, rfl, q⟩
end
end K26
namespace K26
open PySem PySem.Spec PyProof.Rows L2
/-! ### uses -/
theorem catA_use {K : PySem.W.Frag} {H : Hp} {a b : Addr} {xs ys : List V} {Q : VK} (ha : SqT K H a xs) (hb : SqT K H b ys) (hl : xs.length + ys.length ≤ sizeLine) (q : ∀ H' p, Same H H' → SqT K H' p (xs ++ ys) → Q (.ref p) H') : rCatA K (.ref a) (.ref b) H Q := by
  refine ⟨a, b, xs, ys, rfl, rfl, ha, hb, hl, fun e => ?_, fun _ e => ?_, fun _ _ p hp => ?_⟩
  · subst e
    exact q H b (Same.refl H) hb
  · subst e
    rw [List.append_nil] at q
    exact q H a (Same.refl H) ha
  · exact q _ p (same_new hp) SqT.new
theorem slA_use {K : PySem.W.Frag} {H : Hp} {a : Addr} {xs : List V} {lo hi : Option Int} {Q : VK} (ha : SqT K H a xs) (q : ∀ H' p, Same H H' → SqT K H' p (cutV xs lo hi) → Q (.ref p) H') : rSlA K (.ref a) lo hi H Q := by
  refine ⟨a, xs, rfl, ha, fun e => ?_, fun _ p hp => ?_⟩
  · refine q H a (Same.refl H) ?_
    unfold cutV
    rw [e.1, e.2, List.drop_zero, Nat.sub_zero, List.take_length]
    exact ha
  · exact q _ p (same_new hp) SqT.new
theorem cut_to {xs : List V} {j : Nat} : cutV xs none (some (j : Int)) = xs.take j := by
  unfold cutV
  rw [HT.sIx_none, HT.sIx_nat, List.drop_zero, Nat.sub_zero]
  by_cases h : j ≤ xs.length
  · rw [Nat.min_eq_left h]
  · rw [Nat.min_eq_right (by omega), List.take_of_length_le (Nat.le_refl _), List.take_of_length_le (by omega)]
theorem cut_from {xs : List V} {j : Nat} : cutV xs (some (j : Int)) none = xs.drop j := by
  unfold cutV
  rw [HT.sIx_none, HT.sIx_nat]
  by_cases h : j ≤ xs.length
  · rw [Nat.min_eq_left h, List.take_of_length_le (by rw [List.length_drop]; exact Nat.le_refl _)]
  · rw [Nat.min_eq_right (by omega), Nat.sub_self, List.take_zero, List.drop_of_length_le (by omega)]
theorem get_int {f : List Int} {i : Nat} {x : V} (h : (f.map V.int)[i]? = some x) : ∃ b, f[i]? = some b ∧ x = .int b := by
  rw [List.getElem?_map] at h
  cases e : f[i]? with
  | none => rw [e] at h; cases h
  | some b => rw [e] at h; exact ⟨b, rfl, (Option.some.inj h).symm⟩
theorem drop_at {α : Type} {f : List α} {i : Nat} {b : α} (h : f[i]? = some b) : f.drop i = b :: f.drop (i + 1) := by
  obtain ⟨hi, e⟩ := List.getElem?_eq_some_iff.mp h
  rw [List.drop_eq_getElem_cons hi, e]
theorem rev_map {t : Int} {r : List Int} : ((t :: r).reverse).map V.int = (r.reverse.map V.int) ++ [.int t] := by
  rw [List.reverse_cons, List.map_append]
  rfl
theorem pop_last {xs : List V} {v : V} : (xs ++ [v])[(xs ++ [v]).length - 1]? = some v := by
  rw [List.length_append, List.length_singleton, Nat.add_sub_cancel, List.getElem?_append_right (Nat.le_refl _), Nat.sub_self]
  rfl
/-! ### is_nested, need_plan -/
abbrev s_is_nested : Stmt := top 12
abbrev N_is_nested : List Str := ["thing", "chain", "version", "base"]
theorem sc_is_nested : FnScope N_is_nested ["thing"] (defScope s_is_nested) := ⟨rfl, rfl, rfl, by decide +kernel, rfl, by decide +kernel, by decide +kernel⟩
abbrev s_need_plan : Stmt := top 13
abbrev N_need_plan : List Str := ["word", "thing"]
theorem sc_need_plan : FnScope N_need_plan ["word", "thing"] (defScope s_need_plan) := ⟨rfl, rfl, rfl, by decide +kernel, rfl, by decide +kernel, by decide +kernel⟩
def spNested (K : PySem.W.Frag) : Sp := fun vs H Q _ => ∃ (a : Addr) (f : List Int), vs = [.ref a] ∧ SqT K H a (f.map V.int) ∧ nestedM f = true ∧ f.length ≤ 1000 ∧ ∀ H', Same H H' → Q (.bl true) H'
def spNeedPlan (K : PySem.W.Frag) : Sp := fun vs H Q _ => ∃ (x : Str) (a : Addr) (f : List Int), vs = [.str x, .ref a] ∧ SqT K H a (f.map V.int) ∧ nestedM f = true ∧ f.length ≤ 1000 ∧ ∀ H', Same H H' → Q .non H'
section
variable {P : Program} {w : World} {K : PySem.W.Frag} {mg : Str → Option Value} {base : Heap}
theorem ok_is_nested (D : DefAt K mg "is_nested" s_is_nested) (T : Txt mg) (h_is_number : Has P w K mg base CX0 3 "is_number" ["thing"] (spIsN K)) : Has P w K mg base CX0 4 "is_nested" ["thing"] (spNested K) := by
  obtain ⟨f, fd, F, g⟩ := D.ex
  refine ⟨f, fd, ?_, g, F.kp, funLk F, F.binds fun _ _ _ _ _ _ us hl => match us, hl with | [_], _ => rfl⟩
  refine F.ok sc_is_nested (fun vs H Q E h => ?_) (fun cdv A outer s H vs Q E hr h => ?_)
  · obtain ⟨a, fs, rfl, _⟩ := h
    rfl
  · obtain ⟨a, fs, rfl, hS, hN, hL, q⟩ := h
    refine ⟨_, (pss_cons (ps_if (pt_not (pt_val (pe_callB call_isi (by rfl) T.isinstance bt_isinstance (pa_cons (pv 0) (pa_cons (pe_bltn (v := .ty "tuple") (by rfl) T.tuple bt_tuple rfl) pa_nil))))) (pss_one (ps_ret pe_bl)) pss_nil)
      (pss_cons (ps_set (i := 1) sc_is_nested.nd rfl (Or.inl rfl) (pe_lst (pa_cons pe_int pa_nil)))
      (pss_cons (ps_set (i := 2) sc_is_nested.nd rfl (Or.inl rfl) pe_int)
      (pss_cons (ps_for PassesOwn.never rfl (pi_tup (pv 0)) (pg_name (i := 3) sc_is_nested.nd rfl (Or.inl rfl)) (pss_cons (ps_aug (i := 2) sc_is_nested.nd rfl (Or.inl rfl) pe_int ip_add) (pss_cons (ps_if (pt_not (pt_val (callH h_is_number (hr.mono (by decide)) pass0 (by rfl) (pa_cons (pv 3) pa_nil)))) (pss_one (ps_ret pe_bl)) pss_nil) (pss_cons (ps_while PassesOwn.never (pt_cmpR op_gt (pe_ix ix_list (pv 1) (pe_un un_neg pe_int) (fun _ _ => rfl)) (pv 3) (nomark _)) (pss_one (ps_expr (pe_bm0 PySem.F.plainAttrs_list PySem.F.slot_list_pop PySem.F.type_list_pop mt_pop (pv 1))))) (pss_cons (ps_if (pt_cmpR op_ne (pe_ix ix_list (pv 1) (pe_un un_neg pe_int) (fun _ _ => rfl)) (pv 3) (nomark _)) (pss_one (ps_ret pe_bl)) pss_nil) (pss_one (ps_expr (pe_bm PySem.F.plainAttrs_list PySem.F.slot_list_append PySem.F.type_list_append mt_append (pv 1) (pa_cons (pv 2) pa_nil)))))))))
      (pss_one (ps_ret pe_bl)))))), ?_⟩
    refine ⟨_, rfl, _, _, _, _, _, rfl, .ty _, tupX hS, kit_tup, _, rfl, iteF ?_⟩
    refine ⟨by show 1 ≤ sizeLine; decide, fun p np => ?_⟩
    refine ⟨_, rfl, a, rfl, ⟨_, sT (same_new np) hS⟩, for_tup (K := K) (a := a) (xs := fs.map V.int)
      (fun i σ H' => ∃ chn y, σ = [some (.ref a), some (.ref p), some (.int ((i : Nat) : Int)), y] ∧ Same H H' ∧ H' p = some (.lst ((chn.reverse).map V.int)) ∧ nestedGo (fs.drop i) chn i = true ∧ chn.length ≤ i + 1)
      ⟨[0], none, rfl, same_new np, upd_same, hN, Nat.le_refl _⟩ (fun i σ H' _ ⟨_, _, _, sm, _⟩ => sT sm hS) (fun i x σ H' hx hP => ?_) (fun σ H' hP => ?_)⟩
    · obtain ⟨chn, y, rfl, sm, hp, hgo, hlen⟩ := hP
      obtain ⟨b, hb, rfl⟩ := get_int hx
      have hi1000 : i < fs.length := (List.getElem?_eq_some_iff.mp hb).1
      rw [drop_at hb] at hgo
      unfold nestedGo at hgo
      have hb0 : ¬ b < 0 := by
        intro z
        rw [if_pos z] at hgo
        cases hgo
      rw [if_neg hb0] at hgo
      have eN : isN (.int b) = true := decide_eq_true (by omega)
      refine ⟨_, rfl, _, _, rfl, rfl, ?_⟩
      refine ⟨_, rfl, _, rfl, trivial, _, rfl, ?_⟩
      rw [eN]
      refine iteF ?_
      -- while chain[-1] > base
      refine whileI (fun _ : List Int => [some (.ref a), some (.ref p), some (.int ((i : Int) + 1)), some (.int b)]) (fun c H2 => Same H H2 ∧ H2 p = some (.lst ((c.reverse).map V.int)) ∧ (c.dropWhile fun x => decide (b < x)) = (chn.dropWhile fun x => decide (b < x)) ∧ c.length ≤ i + 1) (fun c => c.length) chn rfl
        ⟨sm, hp, rfl, hlen⟩ (fun c H2 hc => ?_)
      obtain ⟨sm2, hp2, hd, hl2⟩ := hc
      rw [← hd] at hgo
      cases c with
      | nil => cases hgo
      | cons t r =>
        rw [rev_map] at hp2
        have hat : atI ((r.reverse.map V.int) ++ [V.int t]) (-1) = some (V.int t) := atI_last _ _
        refine ⟨_, rfl, _, rfl, p, _, -1, _, rfl, rfl, SqL.of hp2, hat, _, rfl, _, _, rfl, rfl, _, rfl, ?_⟩
        by_cases ht : b < t
        · rw [decide_eq_true ht]
          refine iteT (whileT ?_)
          refine ⟨_, rfl, .inl ⟨rfl, _, SqL.of hp2⟩, p, _, .int t, rfl, rfl, hp2, pop_last, ?_⟩
          · rw [List.dropLast_concat]
            refine ⟨r, rfl, ⟨same_put sm2 np, upd_same, ?_, by have : r.length + 1 ≤ i + 1 := hl2; omega⟩, by show r.length < r.length + 1; omega⟩
            rw [← hd, List.dropWhile_cons_of_pos (p := fun x => decide (b < x)) (decide_eq_true ht)]
        · rw [decide_eq_false ht]
          refine iteF ?_
          rw [List.dropWhile_cons_of_neg (p := fun x => decide (b < x)) (by rw [decide_eq_false ht]; exact Bool.false_ne_true)] at hgo
          replace hgo : (if t = b then nestedGo (fs.drop (i + 1)) (((i + 1 : Nat) : Int) :: t :: r) (i + 1) else false) = true := hgo
          have etb : t = b := by
            apply Decidable.byContradiction
            intro z
            rw [if_neg z] at hgo
            cases hgo
          rw [if_pos etb] at hgo
          subst etb
          refine ⟨_, rfl, _, rfl, p, _, -1, _, rfl, rfl, SqL.of hp2, hat, _, rfl, rfl, _, rfl, iteNS rfl ?_⟩
          refine ⟨_, rfl, .inl ⟨rfl, _, SqL.of hp2⟩, _, rfl, _, _, _, rfl, rfl, hp2, ?_, ?_⟩
          · rw [List.length_append, List.length_map, List.length_reverse, List.length_singleton]
            have : r.length + 1 ≤ i + 1 := hl2
            exact small5 (by omega)
          · refine ⟨((i + 1 : Nat) : Int) :: t :: r, some (.int t), ?_, same_put sm2 np, ?_, hgo, ?_⟩
            · rfl
            · rw [upd_same, rev_map, rev_map]
              rfl
            · have : r.length + 1 ≤ i + 1 := hl2
              show r.length + 1 + 1 ≤ i + 1 + 1
              omega
    · obtain ⟨chn, y, rfl, sm, hp, hgo, hlen⟩ := hP
      exact q H' sm
theorem ok_need_plan (D : DefAt K mg "need_plan" s_need_plan) (h_is_nested : Has P w K mg base CX0 4 "is_nested" ["thing"] (spNested K)) : Has P w K mg base CX0 5 "need_plan" ["word", "thing"] (spNeedPlan K) := by
  obtain ⟨f, fd, F, g⟩ := D.ex
  refine ⟨f, fd, ?_, g, F.kp, funLk F, F.binds fun _ _ _ _ _ _ us hl => match us, hl with | [_, _], _ => rfl⟩
  refine F.ok sc_need_plan (fun vs H Q E h => ?_) (fun cdv A outer s H vs Q E hr h => ?_)
  · obtain ⟨x, a, fs, rfl, _⟩ := h
    rfl
  · obtain ⟨x, a, fs, rfl, hS, hN, hL, q⟩ := h
    refine ⟨_, (pss_one (ps_if (pt_not (pt_val (callH h_is_nested (hr.mono (by decide)) pass0 (by rfl) (pa_cons (pv 1) pa_nil)))) (pss_one ps_never) pss_nil)), ?_⟩
    exact ⟨_, rfl, a, fs, rfl, hS, hN, hL, fun H' sm => ⟨_, rfl, iteF (q H' sm)⟩⟩
end
/-! ### last_full -/
theorem walk_enum1 {K : PySem.W.Frag} {a : Addr} {xs : List V} : Walk (Ite1 K a) xs.length (fun H => SqT K H a xs) (YPair (fun i => some (.int (1 + (i : Nat)))) (fun i => xs[i]?)) := by
  refine ⟨fun i _ hi q => ⟨xs, xs[i], q, by simp [hi]⟩, fun _ q => ⟨xs, q, Nat.le_refl _⟩, fun i H v H' _ q y => ?_⟩
  obtain ⟨T, x, h1, h2, h3, h4⟩ := y
  exact ⟨T, .int (1 + (i : Nat)), x, h1, h2, h3, rfl, h4 xs q⟩
abbrev s_last_full : Stmt := top 16
abbrev N_last_full : List Str := ["bases", "found", "version", "base"]
theorem sc_last_full : FnScope N_last_full ["bases"] (defScope s_last_full) := ⟨rfl, rfl, rfl, by decide +kernel, rfl, by decide +kernel, by decide +kernel⟩
abbrev s_ahead_and_behind : Stmt := top 17
abbrev N_ahead_and_behind : List Str := ["bases", "cut", "ahead", "behind", "base"]
theorem sc_ahead_and_behind : FnScope N_ahead_and_behind ["bases"] (defScope s_ahead_and_behind) := ⟨rfl, rfl, rfl, by decide +kernel, rfl, by decide +kernel, by decide +kernel⟩
abbrev s_put_beside : Stmt := top 18
abbrev N_put_beside : List Str := ["ahead", "behind", "cut", "base"]
theorem sc_put_beside : FnScope N_put_beside ["ahead", "behind"] (defScope s_put_beside) := ⟨rfl, rfl, rfl, by decide +kernel, rfl, by decide +kernel, by decide +kernel⟩
def spLastFull (K : PySem.W.Frag) : Sp := fun vs H Q _ => ∃ (a : Addr) (f : List Int), vs = [.ref a] ∧ SqT K H a (f.map V.int) ∧ ∀ H', Same H H' → Q (.int ((lastFullM f : Nat) : Int)) H'
def spAB (K : PySem.W.Frag) : Sp := fun vs H Q _ => ∃ (a : Addr) (f : List Int), vs = [.ref a] ∧ SqT K H a (f.map V.int) ∧ f.length ≤ 1000 ∧ 1 ≤ lastFullM f ∧
  ∀ H' p b c, Same H H' → SqT K H' p [.ref b, .ref c] → SqT K H' b ((f.take (lastFullM f - 1)).map V.int) → SqT K H' c (((f.drop (lastFullM f)).map fun x => x - ((lastFullM f : Nat) : Int)).map V.int) → Q (.ref p) H'
def spPB (K : PySem.W.Frag) : Sp := fun vs H Q _ => ∃ (a b : Addr) (x y : List Int), vs = [.ref a, .ref b] ∧ SqT K H a (x.map V.int) ∧ SqT K H b (y.map V.int) ∧ x.length ≤ 1000 ∧ y.length ≤ 1000 ∧ ∀ H' p, Same H H' → SqT K H' p ((putBesideM x y).map V.int) → Q (.ref p) H'
section
variable {P : Program} {w : World} {K : PySem.W.Frag} {mg : Str → Option Value} {base : Heap}
theorem ok_last_full (D : DefAt K mg "last_full" s_last_full) (T : Txt mg) : Has P w K mg base CX0 2 "last_full" ["bases"] (spLastFull K) := by
  obtain ⟨f, fd, F, g⟩ := D.ex
  refine ⟨f, fd, ?_, g, F.kp, funLk F, F.binds fun _ _ _ _ _ _ us hl => match us, hl with | [_], _ => rfl⟩
  refine F.ok sc_last_full (fun vs H Q E h => ?_) (fun cdv A outer s H vs Q E hr h => ?_)
  · obtain ⟨a, fs, rfl, _⟩ := h
    rfl
  · obtain ⟨a, fs, rfl, hS, q⟩ := h
    refine ⟨_, (pss_cons (ps_set (i := 1) sc_last_full.nd rfl (Or.inl rfl) pe_int)
      (pss_cons (ps_for PassesOwn.never rfl (pi_enum1 (by rfl) T.enumerate (pa_cons (pv 0) pa_nil)) (pg_tup rfl (pgs_cons (pg_name (i := 2) sc_last_full.nd rfl (Or.inl rfl)) (pgs_cons (pg_name (i := 3) sc_last_full.nd rfl (Or.inl rfl)) pgs_nil))) (pss_one (ps_if (pt_cmpR op_eq (pv 3) pe_int (nomark _)) (pss_one (ps_set (i := 1) sc_last_full.nd rfl (Or.inl rfl) (pv 2))) pss_nil)))
      (pss_one (ps_ret (pv 1))))), ?_⟩
    refine ⟨_, rfl, a, _, rfl, hS, for_it walk_enum1 (fun i σ H' => ∃ (fo : Nat) (y z : Option V), σ = [some (.ref a), some (.int ((fo : Nat) : Int)), y, z] ∧ Same H H' ∧ lastFullGo (fs.drop i) (i + 1) fo = lastFullM fs)
      ⟨0, none, none, rfl, Same.refl H, rfl⟩ (fun i σ H' _ ⟨_, _, _, _, sm, _⟩ => sT sm hS) (fun i x σ H' H2 hi hP hY => ?_) (fun σ H' hP => ?_)⟩
    · obtain ⟨fo, y, z, rfl, sm, hgo⟩ := hP
      obtain ⟨T0, x1, x2, rfl, nT, rfl, e1, e2⟩ := hY
      obtain rfl := Option.some.inj e1
      obtain ⟨b, hb, rfl⟩ := get_int e2
      rw [drop_at hb] at hgo
      replace hgo : lastFullGo (fs.drop (i + 1)) (i + 1 + 1) (if b = 0 then i + 1 else fo) = lastFullM fs := hgo
      refine ⟨T0, _, rfl, SqT.new, rfl, _, _, rfl, _, _, rfl, rfl, ?_⟩
      refine ⟨_, rfl, rfl, _, rfl, ite2 (fun e => ?_) (fun e => ?_)⟩
      · have eb : b = 0 := V.int.inj (of_decide_eq_true e)
        rw [if_pos eb] at hgo
        refine ⟨_, rfl, i + 1, some (.int (1 + (i : Int))), some (.int b), ?_, sm.trans (same_new nT), hgo⟩
        show [some (V.ref a), some (V.int (1 + (i : Int))), some (V.int (1 + (i : Int))), some (V.int b)] = _
        rw [show (1 : Int) + (i : Int) = ((i + 1 : Nat) : Int) by omega]
      · have eb : b ≠ 0 := fun z => e (by rw [z]; rfl)
        rw [if_neg eb] at hgo
        exact ⟨fo, _, _, rfl, sm.trans (same_new nT), hgo⟩
    · obtain ⟨fo, y, z, rfl, sm, hgo⟩ := hP
      rw [List.length_map, List.drop_of_length_le (Nat.le_refl _)] at hgo
      refine ⟨_, rfl, ?_⟩
      rw [show fo = lastFullM fs from hgo]
      exact q H' sm
theorem ok_put_beside (D : DefAt K mg "put_beside" s_put_beside) (T : Txt mg) : Has P w K mg base CX0 2 "put_beside" ["ahead", "behind"] (spPB K) := by
  obtain ⟨f, fd, F, g⟩ := D.ex
  refine ⟨f, fd, ?_, g, F.kp, funLk F, F.binds fun _ _ _ _ _ _ us hl => match us, hl with | [_, _], _ => rfl⟩
  refine F.ok sc_put_beside (fun vs H Q E h => ?_) (fun cdv A outer s H vs Q E hr h => ?_)
  · obtain ⟨a, b, x, y, rfl, _⟩ := h
    rfl
  · obtain ⟨a, b, x, y, rfl, hA, hB, lx, ly, q⟩ := h
    refine ⟨_, (pss_cons (ps_set (i := 2) sc_put_beside.nd rfl (Or.inr rfl) (pe_op op_add (pe_callB call_len_seq (by rfl) T.len bt_len (pa_cons (pv 0) pa_nil)) pe_int))
      (pss_one (ps_ret (pe_op op_catA (pe_op op_catA (pv 0) (pe_tup (pa_cons pe_int pa_nil))) (pe_callTy call_tuple_of (by rfl) T.tuple bt_tuple (pa_cons (pe_lc (own := [("base", 3)]) (g := gName 3) rfl sc_put_beside.nd (pi_tup (pv 1)) (blkOk_by (own := [("base", 3)]) (N := N_put_beside) (sc := (defScope s_put_beside)) (by decide +kernel)) (fun _ _ _ _ _ => pg_name (i := 3) sc_put_beside.nd rfl (Or.inl rfl)) (fun _ _ _ _ _ => pts_nil) (fun _ _ _ _ _ => (pe_op op_add (pv 2) (pv 3)))) pa_nil)))))), ?_⟩
    refine ⟨_, rfl, a, _, rfl, .inr hA, _, _, rfl, rfl, ?_⟩
    -- ahead + (0,)
    refine ⟨_, rfl, by show 1 ≤ sizeLine; decide, fun t nt => ?_⟩
    have s1 : Same H (upd H t (.tup [.int 0])) := same_new nt
    refine catA_use (sT s1 hA) SqT.new (by rw [List.length_map]; show x.length + 1 ≤ sizeLine; exact Nat.le_of_lt (small5 (by omega))) fun H2 p1 s2 h1 => ?_
    have s02 := s1.trans s2
    -- tuple([cut + base for base in behind])
    refine ⟨_, rfl, b, rfl, ⟨_, sT s02 hB⟩, fun D nD => lc_tup (K := K) (a := b) (xs := y.map V.int) (fun i H' => Same H2 H' ∧ H' D = some (.lst (((y.take i).map fun z => ((x.length : Nat) : Int) + 1 + z).map V.int)))
      ⟨same_new nD, upd_same⟩ (fun i H' _ hP => sT (s02.trans hP.1) hB) (fun i v H' hv hP => ?_) (fun H' hP => ?_)⟩
    · obtain ⟨s3, hD⟩ := hP
      obtain ⟨c, hc, rfl⟩ := get_int hv
      refine ⟨rfl, _, rfl, _, rfl, _, _, rfl, rfl, _, hD, ?_, same_put s3 nD, ?_⟩
      · rw [List.length_map, List.length_map]
        exact small5 (Nat.le_trans (List.length_take_le _ _) (by have := (List.getElem?_eq_some_iff.mp hc).1; omega))
      · rw [upd_same, List.take_add_one, hc, List.map_append, List.map_append]
        simp
    · obtain ⟨s3, hD⟩ := hP
      rw [List.length_map, List.take_length] at hD
      refine ⟨D, _, rfl, .inl ⟨SqL.of hD, fun l nl => ?_⟩⟩
      have s4 := same_new (o := HO.tup ((y.map fun z => ((x.length : Nat) : Int) + 1 + z).map V.int)) nl
      refine catA_use (sT (s3.trans s4) h1) SqT.new ?_ fun H5 p5 s5 h5 => ?_
      · rw [List.length_append, List.length_map, List.length_map, List.length_map]
        show x.length + 1 + y.length ≤ sizeLine
        exact Nat.le_of_lt (small5 (by omega))
      · refine q H5 p5 (s02.trans (s3.trans (s4.trans s5))) ?_
        have e : (putBesideM x y).map V.int = (x.map V.int ++ [V.int 0]) ++ ((y.map fun z => ((x.length : Nat) : Int) + 1 + z).map V.int) := by
          unfold putBesideM
          simp
        rw [e]
        exact h5
theorem ok_ahead_and_behind (D : DefAt K mg "ahead_and_behind" s_ahead_and_behind) (T : Txt mg) (h_last_full : Has P w K mg base CX0 2 "last_full" ["bases"] (spLastFull K)) : Has P w K mg base CX0 3 "ahead_and_behind" ["bases"] (spAB K) := by
  obtain ⟨f, fd, F, g⟩ := D.ex
  refine ⟨f, fd, ?_, g, F.kp, funLk F, F.binds fun _ _ _ _ _ _ us hl => match us, hl with | [_], _ => rfl⟩
  refine F.ok sc_ahead_and_behind (fun vs H Q E h => ?_) (fun cdv A outer s H vs Q E hr h => ?_)
  · obtain ⟨a, fs, rfl, _⟩ := h
    rfl
  · obtain ⟨a, fs, rfl, hS, hL, h1, q⟩ := h
    refine ⟨_, (pss_cons (ps_set (i := 1) sc_ahead_and_behind.nd rfl (Or.inr rfl) (callH h_last_full (hr.mono (by decide)) pass0 (by rfl) (pa_cons (pv 0) pa_nil)))
      (pss_cons (ps_set (i := 2) sc_ahead_and_behind.nd rfl (Or.inl rfl) (pe_slice sl_tupA (pv 0) po_none (po_some (pe_op op_sub (pv 1) pe_int))))
      (pss_cons (ps_set (i := 3) sc_ahead_and_behind.nd rfl (Or.inl rfl) (pe_callTy call_tuple_of (by rfl) T.tuple bt_tuple (pa_cons (pe_lc (own := [("base", 4)]) (g := gName 4) rfl sc_ahead_and_behind.nd (pi_tup (pe_slice sl_tupA (pv 0) (po_some (pv 1)) po_none)) (blkOk_by (own := [("base", 4)]) (N := N_ahead_and_behind) (sc := (defScope s_ahead_and_behind)) (by decide +kernel)) (fun _ _ _ _ _ => pg_name (i := 4) sc_ahead_and_behind.nd rfl (Or.inl rfl)) (fun _ _ _ _ _ => pts_nil) (fun _ _ _ _ _ => (pe_op op_sub (pv 4) (pv 1)))) pa_nil)))
      (pss_one (ps_ret (pe_tup (pa_cons (pv 2) (pa_cons (pv 3) pa_nil)))))))), ?_⟩
    refine ⟨_, rfl, a, fs, rfl, hS, fun H1 s1 => ?_⟩
    generalize hc : lastFullM fs = c at q h1 ⊢
    -- ahead = bases[:cut - 1]
    refine ⟨_, rfl, _, rfl, _, _, rfl, rfl, _, rfl, ?_⟩
    refine slA_use (sT s1 hS) fun H2 b s2 hb => ?_
    have ec : ((c : Nat) : Int) - 1 = ((c - 1 : Nat) : Int) := by omega
    rw [ec, cut_to, ← List.map_take] at hb
    -- behind
    refine ⟨_, rfl, _, rfl, _, rfl, ?_⟩
    unfold tNoPart
    refine slA_use (sT (s1.trans s2) hS) fun H3 d s3 hd => ?_
    rw [cut_from, ← List.map_drop] at hd
    refine ⟨d, rfl, ⟨_, hd⟩, fun D nD => lc_tup (K := K) (a := d) (xs := (fs.drop c).map V.int) (fun i H' => Same H3 H' ∧ H' D = some (.lst ((((fs.drop c).take i).map fun z => z - ((c : Nat) : Int)).map V.int)))
      ⟨same_new nD, upd_same⟩ (fun i H' _ hP => sT hP.1 hd) (fun i v H' hv hP => ?_) (fun H' hP => ?_)⟩
    · obtain ⟨s4, hD⟩ := hP
      obtain ⟨z, hz, rfl⟩ := get_int hv
      refine ⟨rfl, _, rfl, _, rfl, _, _, rfl, rfl, _, hD, ?_, same_put s4 nD, ?_⟩
      · rw [List.length_map, List.length_map]
        exact small5 (Nat.le_trans (List.length_take_le _ _) (by have := (List.getElem?_eq_some_iff.mp hz).1; rw [List.length_drop] at this; omega))
      · rw [upd_same, List.take_add_one, hz, List.map_append, List.map_append]
        simp
    · obtain ⟨s4, hD⟩ := hP
      rw [List.length_map, List.take_length] at hD
      refine ⟨D, _, rfl, .inl ⟨SqL.of hD, fun l nl => ?_⟩⟩
      refine ⟨_, rfl, _, rfl, by show 2 ≤ sizeLine; decide, fun p np => ?_⟩
      have s5 := same_new (o := HO.tup (((fs.drop c).map fun z => z - ((c : Nat) : Int)).map V.int)) nl
      have s6 := same_new (o := HO.tup [V.ref b, V.ref l]) np
      exact q _ p b l (s1.trans (s2.trans (s3.trans (s4.trans (s5.trans s6))))) SqT.new (sT (s3.trans (s4.trans (s5.trans s6))) hb) (sT s6 SqT.new)
end
end K26
namespace K26
open PySem PySem.Spec PyProof.Rows L2
/-! ### plain facts -/
theorem put_len (a b : List Int) : (putBesideM a b).length = a.length + b.length + 1 := by
  unfold putBesideM
  rw [List.length_append, List.length_cons, List.length_map]
  omega
theorem shM_len (c : Nat → Nat → Nat) : ∀ (f b l r : Nat) (x : List Int), shM c f b l r = some x → x.length + 1 = b
  | 0, _, _, _, _, h => by cases h
  | f + 1, b, l, r, x, h => by
    unfold shM at h
    by_cases h1 : b = 1
    · rw [if_pos h1] at h
      cases h
      rw [h1]
      rfl
    · rw [if_neg h1] at h
      by_cases h2 : 1 ≤ l ∧ 1 ≤ r ∧ c (l + r - 2) (r - 1) ≤ b
      · rw [if_pos h2] at h
        cases e1 : shM c f (min (c (l + r - 1) r) (b - c (l + r - 2) (r - 1))) (l - 1) r with
        | none => rw [e1] at h; cases h
        | some x1 =>
          rw [e1] at h
          dsimp only at h
          cases e2 : shM c f (b - min (c (l + r - 1) r) (b - c (l + r - 2) (r - 1))) l (r - 1) with
          | none => rw [e2] at h; cases h
          | some x2 =>
            rw [e2] at h
            cases h
            have i1 := shM_len c f _ _ _ _ e1
            have i2 := shM_len c f _ _ _ _ e2
            rw [put_len]
            omega
      · rw [if_neg h2] at h
        cases h
theorem track_len : ∀ (f : Nat) (st : List (List Int)) (s r : List Bool), trackGo f st s = some r → r.length ≤ s.length + f
  | _, [], s, r, h => by
    have e : s = r := by
      unfold trackGo at h
      exact Option.some.inj h
    rw [e]
    omega
  | 0, _ :: _, _, _, h => by cases h
  | f + 1, p :: st, s, r, h => by
    unfold trackGo at h
    split at h
    · have := track_len f _ _ _ h
      rw [List.length_append, List.length_singleton] at this
      omega
    · split at h
      · have := track_len f _ _ _ h
        rw [List.length_append, List.length_singleton] at this
        omega
      · cases h
/-! ### stacks of tuples -/
def TupAtI (K : PySem.W.Frag) (H : Hp) (v : V) (p : List Int) : Prop := ∃ a, v = .ref a ∧ SqT K H a (p.map V.int)
/-- xs (its top last) are the tuples st (the top first) -/
def Stack (K : PySem.W.Frag) (H : Hp) (xs : List V) (st : List (List Int)) : Prop := Paired (TupAtI K H) xs.reverse st
theorem paired_imp {α β : Type} {F G : α → β → Prop} (h : ∀ a b, F a b → G a b) : ∀ {xs : List α} {ys : List β}, Paired F xs ys → Paired G xs ys
  | _, _, .nil => .nil
  | _, _, .cons r t => .cons (h _ _ r) (paired_imp h t)
theorem Stack.same {K : PySem.W.Frag} {H H' : Hp} {xs : List V} {st : List (List Int)} (s : Same H H') (h : Stack K H xs st) : Stack K H' xs st :=
  paired_imp (fun _ _ ⟨a, e, q⟩ => ⟨a, e, sT s q⟩) h
/-- a list is written elsewhere: tuples stand -/
theorem sTl {K : PySem.W.Frag} {H : Hp} {a p : Addr} {xs zs : List V} {o : HO} (hp : H p = some (.lst zs)) (h : SqT K H a xs) : SqT K (upd H p o) a xs := by
  rcases h with (h | ⟨o2, h⟩) | h
  · exact .inl (.inl (by rw [upd_ne (ne_of h hp (by intro z; cases z))]; exact h))
  · exact .inl (.inr ⟨o2, by rw [upd_ne (ne_of h hp (by intro z; cases z))]; exact h⟩)
  · exact .inr h
theorem Stack.lst {K : PySem.W.Frag} {H : Hp} {p : Addr} {xs zs : List V} {st : List (List Int)} {o : HO} (hp : H p = some (.lst zs)) (h : Stack K H xs st) : Stack K (upd H p o) xs st :=
  paired_imp (fun _ _ ⟨a, e, q⟩ => ⟨a, e, sTl hp q⟩) h
theorem Stack.nil {K : PySem.W.Frag} {H : Hp} : Stack K H [] [] := Paired.nil
theorem Stack.push {K : PySem.W.Frag} {H : Hp} {xs : List V} {st : List (List Int)} {a : Addr} {p : List Int} (h : Stack K H xs st) (q : SqT K H a (p.map V.int)) : Stack K H (xs ++ [.ref a]) (p :: st) := by
  unfold Stack
  rw [List.reverse_append]
  exact .cons ⟨a, rfl, q⟩ h
theorem Stack.pop {K : PySem.W.Frag} {H : Hp} {xs : List V} {st : List (List Int)} {p : List Int} (h : Stack K H xs (p :: st)) : ∃ (ys : List V) (a : Addr), xs = ys ++ [.ref a] ∧ SqT K H a (p.map V.int) ∧ Stack K H ys st := by
  unfold Stack at h
  generalize e : xs.reverse = zs at h
  cases h with
  | cons r t =>
    rename_i v zs'
    obtain ⟨a, rfl, q⟩ := r
    refine ⟨zs'.reverse, a, ?_, q, ?_⟩
    · have := congrArg List.reverse e
      rw [List.reverse_reverse, List.reverse_cons] at this
      exact this
    · unfold Stack
      rw [List.reverse_reverse]
      exact t
theorem Stack.length {K : PySem.W.Frag} {H : Hp} {xs : List V} {st : List (List Int)} (h : Stack K H xs st) : xs.length = st.length := by
  have := Paired.length h
  rw [List.length_reverse] at this
  exact this
/-! ### tracks -/
def sg (b : Bool) : Nat := if b then 43 else 45
def trackS (s : List Bool) : Str := SX.S (s.map sg)
theorem rev_trackS (s : List Bool) : revS (trackS s) = trackS s.reverse := by
  unfold revS trackS
  rw [List.map_reverse]
theorem trackS_at {s : List Bool} {i : Nat} {c : Nat} (h : (trackS s).cps[i]? = some c) : ∃ b, s[i]? = some b ∧ c = sg b := by
  unfold trackS at h
  rw [List.getElem?_toArray, List.getElem?_map] at h
  cases e : s[i]? with
  | none => rw [e] at h; cases h
  | some b => rw [e] at h; exact ⟨b, rfl, (Option.some.inj h).symm⟩
theorem dec_minus : decide (V.str (⟨#[sg false]⟩ : Str) = V.str "-") = true := by decide +kernel
theorem dec_plus : decide (V.str (⟨#[sg true]⟩ : Str) = V.str "-") = false := by decide +kernel
theorem joinL_one (s : List Nat) : TL.joinL [] (s.map fun c => [c]) = s := by
  induction s with
  | nil => rfl
  | cons c r ih =>
    cases r with
    | nil => rfl
    | cons d r =>
      show [c] ++ ([] ++ TL.joinL [] ((d :: r).map fun c => [c])) = c :: d :: r
      rw [ih]
      rfl
def sgS (b : Bool) : V := .str (if b then "+" else "-")
theorem sgS_S (b : Bool) : (if b then ("+" : Str) else ("-" : Str)) = SX.S [sg b] := by cases b <;> decide +kernel
theorem signs_len (sn : List Bool) : ((sn.map fun b => if b then ("+" : Str) else ("-" : Str)).map (·.length)).sum = sn.length := by
  induction sn with
  | nil => rfl
  | cons b l ih =>
    rw [List.map_cons, List.map_cons, List.sum_cons, ih, sgS_S]
    show 1 + l.length = l.length + 1
    omega
abbrev s_built : Stmt := top 24
abbrev N_built : List Str := ["track", "is_mirrored", "held", "sign", "ahead", "behind"]
theorem sc_built : FnScope N_built ["track", "is_mirrored"] (defScope s_built) := ⟨rfl, rfl, rfl, by decide +kernel, rfl, by decide +kernel, by decide +kernel⟩
abbrev s_track_of : Stmt := top 25
abbrev N_track_of : List Str := ["bases", "signs", "waiting", "plan", "ahead", "behind"]
theorem sc_track_of : FnScope N_track_of ["bases"] (defScope s_track_of) := ⟨rfl, rfl, rfl, by decide +kernel, rfl, by decide +kernel, by decide +kernel⟩
abbrev s_mirrored : Stmt := top 26
abbrev N_mirrored : List Str := ["bases"]
theorem sc_mirrored : FnScope N_mirrored ["bases"] (defScope s_mirrored) := ⟨rfl, rfl, rfl, by decide +kernel, rfl, by decide +kernel, by decide +kernel⟩
def spBuilt (K : PySem.W.Frag) : Sp := fun vs H Q _ => ∃ (s : List Bool) (m : List Int), vs = [.str (trackS s), .bl true] ∧ s.length ≤ 900 ∧ builtM s = some m ∧ ∀ H' p, Same H H' → SqT K H' p (m.map V.int) → Q (.ref p) H'
section
variable {P : Program} {w : World} {K : PySem.W.Frag} {mg : Str → Option Value} {base : Heap}
theorem ok_built (D : DefAt K mg "_built" s_built) (T : Txt mg) (h_put_beside : Has P w K mg base CX0 2 "put_beside" ["ahead", "behind"] (spPB K)) : Has P w K mg base CX0 3 "_built" ["track", "is_mirrored"] (spBuilt K) := by
  obtain ⟨f, fd, F, g⟩ := D.ex
  refine ⟨f, fd, ?_, g, F.kp, funLk F, F.binds fun _ _ _ _ _ _ us hl => match us, hl with | [_, _], _ => rfl⟩
  refine F.ok sc_built (fun vs H Q E h => ?_) (fun cdv A outer s H vs Q E hr h => ?_)
  · obtain ⟨s, m, rfl, _⟩ := h
    rfl
  · obtain ⟨s, m, rfl, hL, hB, q⟩ := h
    refine ⟨_, (pss_cons (ps_set (i := 2) sc_built.nd rfl (Or.inl rfl) (pe_lst pa_nil))
      (pss_cons (ps_for PassesOwn.never rfl (pi_str (pe_revS (pv 0))) (pg_name (i := 3) sc_built.nd rfl (Or.inl rfl)) (pss_cons (ps_if (pt_cmpR op_eq (pv 3) pe_str (nomark _)) (pss_cons (ps_expr (pe_bm PySem.F.plainAttrs_list PySem.F.slot_list_append PySem.F.type_list_append mt_append (pv 2) (pa_cons (pe_tup pa_nil) pa_nil))) (pss_one ps_continue)) pss_nil) (pss_cons (ps_set (i := 4) sc_built.nd rfl (Or.inl rfl) (pe_bm0 PySem.F.plainAttrs_list PySem.F.slot_list_pop PySem.F.type_list_pop mt_pop (pv 2))) (pss_cons (ps_set (i := 5) sc_built.nd rfl (Or.inl rfl) (pe_bm0 PySem.F.plainAttrs_list PySem.F.slot_list_pop PySem.F.type_list_pop mt_pop (pv 2))) (pss_one (ps_if (pt_val (pv 1)) (pss_one (ps_expr (pe_bm PySem.F.plainAttrs_list PySem.F.slot_list_append PySem.F.type_list_append mt_append (pv 2) (pa_cons (callH h_put_beside (hr.mono (by decide)) pass0 (by rfl) (pa_cons (pv 5) (pa_cons (pv 4) pa_nil))) pa_nil)))) (pss_one (ps_expr (pe_bm PySem.F.plainAttrs_list PySem.F.slot_list_append PySem.F.type_list_append mt_append (pv 2) (pa_cons (callH h_put_beside (hr.mono (by decide)) pass0 (by rfl) (pa_cons (pv 4) (pa_cons (pv 5) pa_nil))) pa_nil))))))))))
      (pss_one (ps_ret (pe_ix ix_list (pv 2) pe_int (fun _ _ => rfl)))))), ?_⟩
    have hB2 : builtGo s.reverse [] = some [m] := by
      unfold builtM at hB
      split at hB
      · rename_i z e
        rw [e]
        rw [Option.some.inj hB]
      · cases hB
    refine ⟨Nat.zero_le _, fun p np => ?_⟩
    have hz : (trackS s).length ≤ sizeLine := by
      show (SX.S (s.map sg)).length ≤ sizeLine
      rw [SX.S_len, List.length_map]
      exact Nat.le_of_lt (small5 (by omega))
    refine ⟨_, rfl, _, rfl, hz, _, rfl, ?_⟩
    rw [rev_trackS]
    have hn : (trackS s.reverse).cps.size = s.length := by
      show (SX.S (s.reverse.map sg)).length = s.length
      rw [SX.S_len, List.length_map, List.length_reverse]
    refine for_it walk_str (fun i σ H' => ∃ (held : List (List Int)) (xs : List V) (y4 y5 y6 : Option V), σ = [some (.str (trackS s)), some (.bl true), some (.ref p), y4, y5, y6] ∧ Same H H' ∧ H' p = some (.lst xs) ∧ Stack K H' xs held ∧ builtGo (s.reverse.drop i) held = some [m] ∧ (held.map (·.length)).sum + held.length ≤ i)
      ⟨[], [], none, none, none, rfl, same_new np, upd_same, Stack.nil, hB2, Nat.le_refl _⟩ (fun _ _ _ _ _ => trivial) (fun i x σ H1 H2 hi hP hY => ?_) (fun σ H' hP => ?_)
    · obtain ⟨held, xs, y4, y5, y6, rfl, sm, hp, hst, hgo, hsz⟩ := hP
      obtain ⟨rfl, c, hc, rfl⟩ := hY
      obtain ⟨b, hb, rfl⟩ := trackS_at hc
      rw [hn] at hi
      rw [drop_at hb] at hgo
      have hlx := hst.length
      refine ⟨_, rfl, rfl, _, rfl, ?_⟩
      cases b with
      | false =>
        rw [dec_minus]
        refine iteT ?_
        refine ⟨_, rfl, .inl ⟨rfl, _, SqL.of hp⟩, Nat.zero_le _, fun t nt => ?_⟩
        have npt : p ≠ t := ne_of_none hp nt
        have hp2 : (upd H2 t (.tup [])) p = some (.lst xs) := by rw [upd_ne npt]; exact hp
        refine ⟨p, _, _, rfl, rfl, hp2, by rw [hlx]; exact small5 (by omega), ?_⟩
        refine ⟨[] :: held, _, _, y5, y6, rfl, same_put (sm.trans (same_new nt)) np, upd_same, ?_, hgo, ?_⟩
        · exact Stack.lst hp2 ((hst.same (same_new nt)).push SqT.new)
        · rw [List.map_cons, List.sum_cons, List.length_cons]
          show 0 + _ + (held.length + 1) ≤ i + 1
          omega
      | true =>
        rw [dec_plus]
        refine iteF ?_
        cases held with
        | nil => cases hgo
        | cons a held =>
        cases held with
        | nil => cases hgo
        | cons b held =>
        replace hgo : builtGo (s.reverse.drop (i + 1)) (putBesideM b a :: held) = some [m] := hgo
        obtain ⟨ys, ra, rfl, qa, hst1⟩ := hst.pop
        obtain ⟨zs, rb, rfl, qb, hst2⟩ := hst1.pop
        refine ⟨_, rfl, .inl ⟨rfl, _, SqL.of hp⟩, p, _, .ref ra, rfl, rfl, hp, pop_last, ?_⟩
        rw [List.dropLast_concat]
        have hp1 : (upd H2 p (.lst (zs ++ [V.ref rb]))) p = some (.lst (zs ++ [V.ref rb])) := upd_same
        refine ⟨_, rfl, .inl ⟨rfl, _, SqL.of hp1⟩, p, _, .ref rb, rfl, rfl, hp1, pop_last, ?_⟩
        rw [List.dropLast_concat]
        refine ⟨_, rfl, _, rfl, iteT ?_⟩
        have sm3 := same_put (o := .lst zs) (same_put (o := .lst (zs ++ [V.ref rb])) sm np) np
        have hp3 : (upd (upd H2 p (.lst (zs ++ [V.ref rb]))) p (.lst zs)) p = some (.lst zs) := upd_same
        refine ⟨_, rfl, .inl ⟨rfl, _, SqL.of hp3⟩, ?_⟩
        have hs1 : a.length + (b.length + (held.map (·.length)).sum) + (held.length + 1 + 1) ≤ i := hsz
        refine ⟨_, rfl, _, rfl, rb, ra, b, a, rfl, sTl hp1 (sTl hp qb), sTl hp1 (sTl hp qa), by omega, by omega, fun H4 t s4 h4 => ?_⟩
        have hp4 := s4 _ _ hp3
        refine ⟨p, _, _, rfl, rfl, hp4, ?_, ?_⟩
        · have := hst2.length
          rw [this]
          exact small5 (by omega)
        · refine ⟨putBesideM b a :: held, _, _, _, _, rfl, same_put (sm3.trans s4) np, upd_same, ?_, hgo, ?_⟩
          · exact Stack.lst hp4 (Stack.push (Stack.same s4 (Stack.lst hp1 (Stack.lst hp hst2))) h4)
          · rw [List.map_cons, List.sum_cons, List.length_cons, put_len]
            omega
    · obtain ⟨held, xs, y4, y5, y6, rfl, sm, hp, hst, hgo, hsz⟩ := hP
      rw [hn, List.drop_of_length_le (by rw [List.length_reverse]; exact Nat.le_refl _)] at hgo
      have eh : held = [m] := Option.some.inj hgo
      subst eh
      obtain ⟨ys, ra, rfl, qa, hst1⟩ := hst.pop
      have el := hst1.length
      cases ys with
      | cons _ _ => cases el
      | nil =>
        exact ⟨_, rfl, p, _, 0, _, rfl, rfl, SqL.of hp, atI_nat (j := 0) rfl, q H' ra sm qa⟩
/-! ### track_of, mirrored -/
end
def spTrack (K : PySem.W.Frag) : Sp := fun vs H Q _ => ∃ (a : Addr) (f : List Int) (s : List Bool), vs = [.ref a] ∧ SqT K H a (f.map V.int) ∧ nestedM f = true ∧ f.length ≤ 400 ∧ trackM f = some s ∧ ∀ H', Same H H' → Q (.str (trackS s)) H'
def spMirrored (K : PySem.W.Frag) : Sp := fun vs H Q _ => ∃ (a : Addr) (f m : List Int), vs = [.ref a] ∧ SqT K H a (f.map V.int) ∧ nestedM f = true ∧ f.length ≤ 400 ∧ mirM f = some m ∧ ∀ H' p, Same H H' → SqT K H' p (m.map V.int) → Q (.ref p) H'
section
variable {P : Program} {w : World} {K : PySem.W.Frag} {mg : Str → Option Value} {base : Heap}
theorem ok_track_of (D : DefAt K mg "track_of" s_track_of) (T : Txt mg) (h_need_plan : Has P w K mg base CX0 5 "need_plan" ["word", "thing"] (spNeedPlan K)) (h_ahead_and_behind : Has P w K mg base CX0 3 "ahead_and_behind" ["bases"] (spAB K)) : Has P w K mg base CX0 6 "track_of" ["bases"] (spTrack K) := by
  obtain ⟨f, fd, F, g⟩ := D.ex
  refine ⟨f, fd, ?_, g, F.kp, funLk F, F.binds fun _ _ _ _ _ _ us hl => match us, hl with | [_], _ => rfl⟩
  refine F.ok sc_track_of (fun vs H Q E h => ?_) (fun cdv A outer s H vs Q E hr h => ?_)
  · obtain ⟨a, fs, s, rfl, _⟩ := h
    rfl
  · obtain ⟨a, fs, r, rfl, hS, hN, hL, hT, q⟩ := h
    refine ⟨_, (pss_cons (ps_expr (callH h_need_plan (hr.mono (by decide)) pass0 (by rfl) (pa_cons pe_str (pa_cons (pv 0) pa_nil))))
      (pss_cons (ps_set (i := 1) sc_track_of.nd rfl (Or.inl rfl) (pe_lst pa_nil))
      (pss_cons (ps_set (i := 2) sc_track_of.nd rfl (Or.inl rfl) (pe_lst (pa_cons (pv 0) pa_nil)))
      (pss_cons (ps_while PassesOwn.never (pt_cmpR op_gt (pe_callB call_len_seq (by rfl) T.len bt_len (pa_cons (pv 2) pa_nil)) pe_int (nomark _)) (pss_cons (ps_set (i := 3) sc_track_of.nd rfl (Or.inl rfl) (pe_bm0 PySem.F.plainAttrs_list PySem.F.slot_list_pop PySem.F.type_list_pop mt_pop (pv 2))) (pss_cons (ps_if (pt_cmpR op_eq (pe_callB call_len_seq (by rfl) T.len bt_len (pa_cons (pv 3) pa_nil)) pe_int (nomark _)) (pss_cons (ps_expr (pe_bm PySem.F.plainAttrs_list PySem.F.slot_list_append PySem.F.type_list_append mt_append (pv 1) (pa_cons pe_str pa_nil))) (pss_one ps_continue)) pss_nil) (pss_cons (ps_asg (callH h_ahead_and_behind (hr.mono (by decide)) pass0 (by rfl) (pa_cons (pv 3) pa_nil)) (pg_tup rfl (pgs_cons (pg_name (i := 4) sc_track_of.nd rfl (Or.inl rfl)) (pgs_cons (pg_name (i := 5) sc_track_of.nd rfl (Or.inl rfl)) pgs_nil)))) (pss_cons (ps_expr (pe_bm PySem.F.plainAttrs_list PySem.F.slot_list_append PySem.F.type_list_append mt_append (pv 1) (pa_cons pe_str pa_nil))) (pss_cons (ps_expr (pe_bm PySem.F.plainAttrs_list PySem.F.slot_list_append PySem.F.type_list_append mt_append (pv 2) (pa_cons (pv 5) pa_nil))) (pss_one (ps_expr (pe_bm PySem.F.plainAttrs_list PySem.F.slot_list_append PySem.F.type_list_append mt_append (pv 2) (pa_cons (pv 4) pa_nil))))))))))
      (pss_one (ps_ret (pe_join pe_str (pv 1)))))))), ?_⟩
    refine ⟨_, rfl, _, a, fs, rfl, hS, hN, by omega, fun H1 s1 => ?_⟩
    -- signs = [], waiting = [bases]
    refine ⟨Nat.zero_le _, fun ps ns => ?_⟩
    refine ⟨_, rfl, by show 1 ≤ sizeLine; decide, fun pw nw => ?_⟩
    have hps : (upd H1 ps (.lst [])) ps = some (.lst []) := upd_same
    have npw : ps ≠ pw := ne_of_none hps nw
    have ns0 : H ps = none := s1.free ns
    have nw0 : H pw = none := (s1.trans (same_new ns)).free nw
    refine whileI (fun x : List (List Int) × List Bool × Nat × Option V × Option V × Option V => [some (.ref a), some (.ref ps), some (.ref pw), x.2.2.2.1, x.2.2.2.2.1, x.2.2.2.2.2])
      (fun x H' => Same H H' ∧ H' ps = some (.lst (x.2.1.map sgS)) ∧ (∃ xs, H' pw = some (.lst xs) ∧ Stack K H' xs x.1) ∧ trackGo x.2.2.1 x.1 x.2.1 = some r ∧ (∀ p ∈ x.1, p.length ≤ 400) ∧ x.1.length + x.2.2.1 ≤ 1000 ∧ x.2.1.length + x.2.2.1 ≤ 1000) (fun x => x.2.2.1) ([fs], [], 2 * fs.length + 2, none, none, none) rfl
      ⟨same_put (same_put s1 ns0) nw0, ?_, ⟨_, upd_same, ?_⟩, hT, ?_, ?_, ?_⟩ (fun x H' hP => ?_)
    · rw [upd_ne npw]
      exact upd_same
    · exact Stack.push (xs := []) Stack.nil (sT (s1.trans ((same_new ns).trans (same_new nw))) hS)
    · intro p hp
      rw [List.mem_singleton.mp hp]
      exact hL
    · show 1 + (2 * fs.length + 2) ≤ 1000
      omega
    · show 0 + (2 * fs.length + 2) ≤ 1000
      omega
    obtain ⟨st, sn, fu, y3, y4, y5⟩ := x
    obtain ⟨sm, hs, ⟨xs, hw, hst⟩, hgo, hle, hb1, hb2⟩ := hP
    replace hs : H' ps = some (.lst (sn.map sgS)) := hs
    replace hst : Stack K H' xs st := hst
    replace hgo : trackGo fu st sn = some r := hgo
    replace hb1 : st.length + fu ≤ 1000 := hb1
    replace hb2 : sn.length + fu ≤ 1000 := hb2
    replace hle : ∀ p ∈ st, p.length ≤ 400 := hle
    have hlx := hst.length
    refine ⟨_, rfl, pw, _, rfl, .inl (SqL.of hw), _, _, rfl, rfl, _, rfl, ?_⟩
    cases st with
    | nil =>
      rw [hlx]
      refine iteF ?_
      have er : sn = r := by
        unfold trackGo at hgo
        exact Option.some.inj hgo
      subst er
      have ey : sn.map sgS = (sn.map fun b => if b then ("+" : Str) else ("-" : Str)).map V.str := by
        rw [List.map_map]
        rfl
      rw [ey] at hs
      have hlen := signs_len sn
      refine ⟨⟨_, rfl⟩, _, rfl, _, ps, _, rfl, rfl, .inl (SqL.of hs), ?_, ?_⟩
      · rw [hlen]
        show sn.length + (sn.map _).length * 0 ≤ 16777216
        omega
      · have ej : Txt.join "" (sn.map fun b => if b then ("+" : Str) else ("-" : Str)) = trackS sn := by
          have e1 : (sn.map fun b => if b then ("+" : Str) else ("-" : Str)) = ((sn.map sg).map fun c => [c]).map SX.S := by
            rw [List.map_map, List.map_map]
            exact List.map_congr_left fun b _ => sgS_S b
          rw [e1]
          have e2 : ("" : Str) = SX.S [] := by decide +kernel
          rw [e2, SX.join_S, joinL_one]
          rfl
        rw [ej]
        exact q H' sm
    | cons p st =>
      rw [hlx]
      rw [show decide ((0 : Int) < (((p :: st).length : Nat) : Int)) = true from decide_eq_true (by rw [List.length_cons]; omega)]
      refine iteT (whileT ?_)
      obtain ⟨ys, ra, rfl, qa, hst1⟩ := hst.pop
      refine ⟨_, rfl, .inl ⟨rfl, _, SqL.of hw⟩, pw, _, .ref ra, rfl, rfl, hw, pop_last, ?_⟩
      rw [List.dropLast_concat]
      have hw1 : (upd H' pw (.lst ys)) pw = some (.lst ys) := upd_same
      have hs1 : (upd H' pw (.lst ys)) ps = some (.lst (sn.map sgS)) := by rw [upd_ne npw]; exact hs
      have sm1 : Same H (upd H' pw (.lst ys)) := same_put sm nw0
      have qa1 := sTl (o := .lst ys) hw qa
      have hst2 := Stack.lst (o := .lst ys) hw hst1
      have hp400 := hle p List.mem_cons_self
      cases fu with
      | zero => cases hgo
      | succ fu =>
      unfold trackGo at hgo
      refine ⟨_, rfl, ra, _, rfl, .inr qa1, rfl, _, rfl, ite2 (fun e => ?_) (fun e => ?_)⟩
      · have e0 : (((p.map V.int).length : Nat) : Int) = 0 := V.int.inj (of_decide_eq_true e)
        have e1 : p.length = 0 := by
          rw [List.length_map] at e0
          omega
        rw [if_pos e1] at hgo
        refine ⟨_, rfl, .inl ⟨rfl, _, SqL.of hs1⟩, ps, _, _, rfl, rfl, hs1, ?_, ?_⟩
        · rw [List.length_map]
          exact small5 (by omega)
        · refine ⟨(st, sn ++ [false], fu, some (.ref ra), y4, y5), rfl, ⟨same_put sm1 ns0, ?_, ⟨_, ?_, Stack.lst hs1 hst2⟩, hgo, fun z hz => hle z (List.mem_cons_of_mem _ hz), ?_, ?_⟩, Nat.lt_succ_self _⟩
          · show (upd (upd H' pw (.lst ys)) ps _) ps = some (.lst ((sn ++ [false]).map sgS))
            rw [upd_same, List.map_append]
            rfl
          · rw [upd_ne npw.symm]
            exact hw1
          · rw [List.length_cons] at hb1
            show st.length + fu ≤ 1000
            omega
          · show (sn ++ [false]).length + fu ≤ 1000
            rw [List.length_append, List.length_singleton]
            omega
      · have e1 : ¬ p.length = 0 := fun z => e (by
          have : (p.map V.int).length = 0 := by rw [List.length_map]; exact z
          rw [this]; rfl)
        rw [if_neg e1] at hgo
        by_cases hc : 1 ≤ lastFullM p
        · rw [if_pos hc] at hgo
          refine ⟨_, rfl, ra, p, rfl, qa1, by omega, hc, fun H2 t b c s2 ht hb hcc => ?_⟩
          refine ⟨t, _, rfl, ht, rfl, _, _, rfl, _, _, rfl, rfl, ?_⟩
          have hs2 := s2 _ _ hs1
          have hw2 := s2 _ _ hw1
          refine ⟨_, rfl, .inl ⟨rfl, _, SqL.of hs2⟩, ps, _, _, rfl, rfl, hs2, ?_, ?_⟩
          · rw [List.length_map]
            exact small5 (by omega)
          have hw3 : (upd H2 ps (.lst (sn.map sgS ++ [V.str "+"]))) pw = some (.lst ys) := by rw [upd_ne npw.symm]; exact hw2
          have hl1 := hst1.length
          rw [List.length_cons] at hb1
          refine ⟨_, rfl, .inl ⟨rfl, _, SqL.of hw3⟩, _, rfl, pw, _, _, rfl, rfl, hw3, ?_, ?_⟩
          · rw [hl1]
            exact small5 (by omega)
          have hw4 : (upd (upd H2 ps (.lst (sn.map sgS ++ [V.str "+"]))) pw (.lst (ys ++ [V.ref c]))) pw = some (.lst (ys ++ [V.ref c])) := upd_same
          refine ⟨_, rfl, .inl ⟨rfl, _, SqL.of hw4⟩, _, rfl, pw, _, _, rfl, rfl, hw4, ?_, ?_⟩
          · rw [List.length_append, hl1, List.length_singleton]
            exact small5 (by omega)
          refine ⟨((p.take (lastFullM p - 1)) :: ((p.drop (lastFullM p)).map fun z => z - ((lastFullM p : Nat) : Int)) :: st, sn ++ [true], fu, _, _, _), rfl, ⟨?_, ?_, ⟨_, upd_same, ?_⟩, hgo, ?_, ?_, ?_⟩, Nat.lt_succ_self _⟩
          · exact same_put (same_put (same_put (sm1.trans s2) ns0) nw0) nw0
          · show (upd (upd (upd H2 ps _) pw _) pw _) ps = some (.lst ((sn ++ [true]).map sgS))
            rw [upd_ne npw, upd_ne npw, upd_same, List.map_append]
            rfl
          · have h4 := Stack.lst (o := .lst (sn.map sgS ++ [V.str "+"])) hs2 (Stack.same s2 hst2)
            have h5 := Stack.lst (o := .lst (ys ++ [V.ref c])) hw3 h4
            have h6 := Stack.push h5 (sTl hw3 (sTl hs2 hcc))
            have h7 := Stack.push h6 (sTl hw3 (sTl hs2 hb))
            exact Stack.lst hw4 h7
          · intro z hz
            rcases List.mem_cons.mp hz with rfl | hz
            · rw [List.length_take]
              omega
            · rcases List.mem_cons.mp hz with rfl | hz
              · rw [List.length_map, List.length_drop]
                omega
              · exact hle z (List.mem_cons_of_mem _ hz)
          · show st.length + 1 + 1 + fu ≤ 1000
            omega
          · show (sn ++ [true]).length + fu ≤ 1000
            rw [List.length_append, List.length_singleton]
            omega
        · rw [if_neg hc] at hgo
          cases hgo
theorem ok_mirrored (D : DefAt K mg "mirrored" s_mirrored) (h_track_of : Has P w K mg base CX0 6 "track_of" ["bases"] (spTrack K)) (h_built : Has P w K mg base CX0 3 "_built" ["track", "is_mirrored"] (spBuilt K)) : Has P w K mg base CX0 7 "mirrored" ["bases"] (spMirrored K) := by
  obtain ⟨f, fd, F, g⟩ := D.ex
  refine ⟨f, fd, ?_, g, F.kp, funLk F, F.binds fun _ _ _ _ _ _ us hl => match us, hl with | [_], _ => rfl⟩
  refine F.ok sc_mirrored (fun vs H Q E h => ?_) (fun cdv A outer s H vs Q E hr h => ?_)
  · obtain ⟨a, fs, m, rfl, _⟩ := h
    rfl
  · obtain ⟨a, fs, m, rfl, hS, hN, hL, hM, q⟩ := h
    refine ⟨_, (pss_one (ps_ret (callH h_built (hr.mono (by decide)) pass0 (by rfl) (pa_cons (callH h_track_of (hr.mono (by decide)) pass0 (by rfl) (pa_cons (pv 0) pa_nil)) (pa_cons pe_bl pa_nil))))), ?_⟩
    unfold mirM at hM
    cases e : trackM fs with
    | none => rw [e] at hM; cases hM
    | some s =>
      rw [e] at hM
      have hl : s.length ≤ 900 := by
        have := track_len _ _ _ _ e
        simp only [List.length_nil] at this
        omega
      refine ⟨_, rfl, a, fs, s, rfl, hS, hN, hL, e, fun H1 s1 => ?_⟩
      exact ⟨s, m, rfl, hl, hM, fun H2 p s2 hp => q H2 p (s1.trans s2) hp⟩
end
end K26
namespace K26
open PySem PySem.Spec PyProof.Rows L2
abbrev s_shaped : Stmt := top 28
abbrev N_shaped : List Str := ["buds", "lefts", "rights", "least_behind", "most_ahead", "ahead", "first", "second"]
theorem sc_shaped : FnScope N_shaped ["buds", "lefts", "rights"] (defScope s_shaped) := ⟨rfl, rfl, rfl, by decide +kernel, rfl, by decide +kernel, by decide +kernel⟩
abbrev s_full_plan : Stmt := top 29
abbrev N_full_plan : List Str := ["width", "reach"]
theorem sc_full_plan : FnScope N_full_plan ["width", "reach"] (defScope s_full_plan) := ⟨rfl, rfl, rfl, by decide +kernel, rfl, by decide +kernel, by decide +kernel⟩
abbrev s_best_plan : Stmt := top 30
abbrev N_best_plan : List Str := ["many", "reach"]
theorem sc_best_plan : FnScope N_best_plan ["many", "reach"] (defScope s_best_plan) := ⟨rfl, rfl, rfl, by decide +kernel, rfl, by decide +kernel, by decide +kernel⟩
abbrev s_best_for_writes : Stmt := top 31
abbrev N_best_for_writes : List Str := ["many", "width"]
theorem sc_best_for_writes : FnScope N_best_for_writes ["many", "width"] (defScope s_best_for_writes) := ⟨rfl, rfl, rfl, by decide +kernel, rfl, by decide +kernel, by decide +kernel⟩
def spShaped (K : PySem.W.Frag) (n : Nat) : Sp := fun vs H Q _ => ∃ (b l r : Nat) (x : List Int), vs = [.int b, .int l, .int r] ∧ shM ch n b l r = some x ∧ b ≤ 1000 ∧ l + r ≤ 9000 ∧ ∀ H' p, Same H H' → SqT K H' p (x.map V.int) → Q (.ref p) H'
def nmFull (K : PySem.W.Frag) : Nat → Nat → Hp → VK → Prop := fun w q H Q => ∃ x : List Int, shM ch 24 (ch (w + q) q) w q = some x ∧ ch (w + q) q ≤ 1000 ∧ w + q ≤ 9000 ∧ ∀ H' p, Same H H' → SqT K H' p (x.map V.int) → Q (.ref p) H'
def nmBest (K : PySem.W.Frag) : Nat → Nat → Hp → VK → Prop := fun n q H Q => ∃ x : List Int, shM ch 24 (n + 1) (u q n) q = some x ∧ n ≤ 400 ∧ q ≤ 8000 ∧ ∀ H' p, Same H H' → SqT K H' p (x.map V.int) → Q (.ref p) H'
def nmWrites (K : PySem.W.Frag) : Nat → Nat → Hp → VK → Prop := fun n q H Q => ∃ x m : List Int, shM ch 24 (n + 1) (u q n) q = some x ∧ nestedM x = true ∧ mirM x = some m ∧ n ≤ 400 ∧ q ≤ 8000 ∧ ∀ H' p, Same H H' → SqT K H' p (m.map V.int) → Q (.ref p) H'
section
variable {P : Program} {w : World} {K : PySem.W.Frag} {mg : Str → Option Value} {base : Heap}
theorem ok_shaped (D : DefAt K mg "_shaped" s_shaped) (T : Txt mg) (h_choose : Has P w K mg base CX0 4 "choose" ["top", "few"] spChoose) (h_put_beside : Has P w K mg base CX0 2 "put_beside" ["ahead", "behind"] (spPB K)) :
    ∀ n, Has P w K mg base CX0 (5 + n) "_shaped" ["buds", "lefts", "rights"] (spShaped K n)
  | 0 => by
    obtain ⟨f, fd, F, g⟩ := D.ex
    refine ⟨f, fd, ?_, g, F.kp, funLk F, F.binds fun _ _ _ _ _ _ us hl => match us, hl with | [_, _, _], _ => rfl⟩
    refine F.ok sc_shaped (fun vs H Q E h => ?_) (fun cdv A outer s H vs Q E hr h => ?_)
    · obtain ⟨b, l, r, x, rfl, _⟩ := h
      rfl
    · obtain ⟨b, l, r, x, rfl, h, _⟩ := h
      cases h
  | n + 1 => by
    have h_shaped := ok_shaped D T h_choose h_put_beside n
    obtain ⟨f, fd, F, g⟩ := D.ex
    refine ⟨f, fd, ?_, g, F.kp, funLk F, F.binds fun _ _ _ _ _ _ us hl => match us, hl with | [_, _, _], _ => rfl⟩
    refine F.ok (k := 5 + n) sc_shaped (fun vs H Q E h => ?_) (fun cdv A outer s H vs Q E hr h => ?_)
    · obtain ⟨b, l, r, x, rfl, _⟩ := h
      rfl
    · obtain ⟨b, l, r, x, rfl, h, hb, hlr, q⟩ := h
      have hr4 : Room 4 _ := hr.mono (by omega)
      have hr2 : Room 2 _ := hr.mono (by omega)
      refine ⟨_, (pss_cons (ps_if (pt_cmpR op_eq (pv 0) pe_int (nomark _)) (pss_one (ps_ret (pe_tup pa_nil))) pss_nil)
      (pss_cons (ps_set (i := 3) sc_shaped.nd rfl (Or.inl rfl) (callH h_choose (hr.mono (by omega)) pass0 (by rfl) (pa_cons (pe_op op_sub (pe_op op_add (pv 1) (pv 2)) pe_int) (pa_cons (pe_op op_sub (pv 2) pe_int) pa_nil))))
      (pss_cons (ps_set (i := 4) sc_shaped.nd rfl (Or.inl rfl) (callH h_choose (hr.mono (by omega)) pass0 (by rfl) (pa_cons (pe_op op_sub (pe_op op_add (pv 1) (pv 2)) pe_int) (pa_cons (pv 2) pa_nil))))
      (pss_cons (ps_set (i := 5) sc_shaped.nd rfl (Or.inl rfl) (pe_callB (call_min2 rfl) (by rfl) T.min bt_min (pa_cons (pv 4) (pa_cons (pe_op op_sub (pv 0) (pv 3)) pa_nil))))
      (pss_cons (ps_set (i := 6) sc_shaped.nd rfl (Or.inl rfl) (callH h_shaped (hr.mono (by omega)) pass0 (by rfl) (pa_cons (pv 5) (pa_cons (pe_op op_sub (pv 1) pe_int) (pa_cons (pv 2) pa_nil)))))
      (pss_cons (ps_set (i := 7) sc_shaped.nd rfl (Or.inl rfl) (callH h_shaped (hr.mono (by omega)) pass0 (by rfl) (pa_cons (pe_op op_sub (pv 0) (pv 5)) (pa_cons (pv 1) (pa_cons (pe_op op_sub (pv 2) pe_int) pa_nil)))))
      (pss_one (ps_ret (callH h_put_beside (hr.mono (by omega)) pass0 (by rfl) (pa_cons (pv 6) (pa_cons (pv 7) pa_nil))))))))))), ?_⟩
      unfold shM at h
      refine ⟨_, rfl, rfl, _, rfl, ite2 (fun e => ?_) (fun e => ?_)⟩
      · have e0 : (b : Int) = 1 := V.int.inj (of_decide_eq_true e)
        have e1 : b = 1 := by omega
        rw [if_pos e1] at h
        cases h
        exact ⟨Nat.zero_le _, fun p np => q _ p (same_new np) SqT.new⟩
      · have e1 : ¬ b = 1 := fun z => e (by rw [z]; rfl)
        rw [if_neg e1] at h
        by_cases hc : 1 ≤ l ∧ 1 ≤ r ∧ ch (l + r - 2) (r - 1) ≤ b
        · rw [if_pos hc] at h
          obtain ⟨hl1, hr1, hcb⟩ := hc
          generalize hlb : ch (l + r - 2) (r - 1) = lb at h hcb
          generalize hma : ch (l + r - 1) r = ma at h
          -- least_behind
          refine ⟨_, rfl, _, rfl, _, _, rfl, rfl, _, _, rfl, rfl, _, rfl, _, _, rfl, rfl, l + r - 2, r - 1, int2 ?_ ?_, by omega, by omega, ?_⟩
          · show (l : Int) + (r : Int) - 2 = _
            omega
          · show (r : Int) - 1 = _
            omega
          rw [hlb]
          -- most_ahead
          refine ⟨_, rfl, _, rfl, _, _, rfl, rfl, _, _, rfl, rfl, _, rfl, l + r - 1, r, int2 ?_ rfl, by omega, by omega, ?_⟩
          · show (l : Int) + (r : Int) - 1 = _
            omega
          rw [hma]
          -- ahead
          refine ⟨_, rfl, _, rfl, _, rfl, _, _, rfl, rfl, _, _, rfl, ?_⟩
          have emin : (if (b : Int) - (lb : Int) < (ma : Int) then (b : Int) - (lb : Int) else (ma : Int)) = ((min ma (b - lb) : Nat) : Int) := by
            split <;> omega
          show gName 5 (V.int (if (b : Int) - (lb : Int) < (ma : Int) then (b : Int) - (lb : Int) else (ma : Int))) _ _ _
          rw [emin]
          generalize ha : min ma (b - lb) = ah at h
          have hab : ah ≤ b := by omega
          cases e2 : shM ch n ah (l - 1) r with
          | none => rw [e2] at h; cases h
          | some x1 =>
            rw [e2] at h
            dsimp only at h
            cases e3 : shM ch n (b - ah) l (r - 1) with
            | none => rw [e3] at h; cases h
            | some x2 =>
              rw [e3] at h
              cases h
              have i1 := shM_len ch _ _ _ _ _ e2
              have i2 := shM_len ch _ _ _ _ _ e3
              refine ⟨_, rfl, _, rfl, _, _, rfl, rfl, _, rfl, ah, l - 1, r, x1, ?_, e2, by omega, by omega, fun H1 p1 s1 h1 => ?_⟩
              · show [V.int (ah : Int), V.int ((l : Int) - 1), V.int (r : Int)] = _
                rw [show (l : Int) - 1 = ((l - 1 : Nat) : Int) by omega]
              refine ⟨_, rfl, _, rfl, _, _, rfl, rfl, _, rfl, _, rfl, _, _, rfl, rfl, b - ah, l, r - 1, x2, ?_, e3, by omega, by omega, fun H2 p2 s2 h2 => ?_⟩
              · show [V.int ((b : Int) - (ah : Int)), V.int (l : Int), V.int ((r : Int) - 1)] = _
                rw [show (r : Int) - 1 = ((r - 1 : Nat) : Int) by omega, show (b : Int) - (ah : Int) = ((b - ah : Nat) : Int) by omega]
              exact ⟨_, rfl, _, rfl, p1, p2, x1, x2, rfl, sT s2 h1, h2, by omega, by omega, fun H3 p3 s3 h3 => q H3 p3 (s1.trans (s2.trans s3)) h3⟩
        · rw [if_neg hc] at h
          cases h
theorem ok_full_plan {C : Addr} (D : DefAt K mg "full_plan" s_full_plan) (h_need_natural : Has P w K mg base (L2.CX P w) 5 "need_natural" ["word", "thing"] (spNeed K C isP)) (h_choose : Has P w K mg base CX0 4 "choose" ["top", "few"] spChoose)
    (h_shaped : Has P w K mg base CX0 29 "_shaped" ["buds", "lefts", "rights"] (spShaped K 24)) : Has P w K mg base (L2.CX P w) 30 "full_plan" ["width", "reach"] (sp2 K C "width" isP "reach" isP (nmFull K)) := by
  obtain ⟨f, fd, F, g⟩ := D.ex
  refine ⟨f, fd, ?_, g, F.kp, funLk F, F.binds fun _ _ _ _ _ _ us hl => match us, hl with | [_, _], _ => rfl⟩
  refine F.okX sc_full_plan (fun vs H Q E h => ?_) (fun cdv A outer s H vs Q E hr h => ?_)
  · obtain ⟨v1, v2, rfl, _⟩ := h
    rfl
  · obtain ⟨v1, v2, rfl, k1, k2, r1, r2, q⟩ := h
    refine ⟨_, (pss_cons (ps_expr (callH h_need_natural (hr.mono (by decide)) passX (by rfl) (pa_cons pe_str (pa_cons (pv 0) pa_nil))))
      (pss_cons (ps_expr (callH h_need_natural (hr.mono (by decide)) passX (by rfl) (pa_cons pe_str (pa_cons (pv 1) pa_nil))))
      (pss_one (ps_ret (callH h_shaped (hr.mono (by decide)) pass0 (by rfl) (pa_cons (callH h_choose (hr.mono (by decide)) pass0 (by rfl) (pa_cons (pe_op op_add (pv 0) (pv 1)) (pa_cons (pv 1) pa_nil))) (pa_cons (pv 0) (pa_cons (pv 1) pa_nil)))))))), ?_⟩
    refine ⟨_, rfl, _, _, rfl, k1, fun g1 => ?_, r1⟩
    refine ⟨_, rfl, _, _, rfl, k2, fun g2 => ?_, r2 g1⟩
    obtain ⟨n, m, rfl, rfl, x, hx, hb, hw, q⟩ := q g1 g2
    refine ⟨_, rfl, _, rfl, _, _, rfl, rfl, _, rfl, n + m, m, int2 (show (n : Int) + (m : Int) = _ by omega) rfl, by omega, by omega, ?_⟩
    exact ⟨_, rfl, _, rfl, ch (n + m) m, n, m, x, rfl, hx, hb, hw, q⟩
theorem ok_best_plan {C : Addr} (D : DefAt K mg "best_plan" s_best_plan) (h_need_number : Has P w K mg base (L2.CX P w) 5 "need_number" ["word", "thing"] (spNeed K C isN)) (h_need_natural : Has P w K mg base (L2.CX P w) 5 "need_natural" ["word", "thing"] (spNeed K C isP))
    (h_least_greatest : Has P w K mg base (L2.CX P w) 6 "least_greatest" ["many", "reach"] (sp2 K C "many" isN "reach" isP nmGreat))
    (h_shaped : Has P w K mg base CX0 29 "_shaped" ["buds", "lefts", "rights"] (spShaped K 24)) : Has P w K mg base (L2.CX P w) 30 "best_plan" ["many", "reach"] (sp2 K C "many" isN "reach" isP (nmBest K)) := by
  obtain ⟨f, fd, F, g⟩ := D.ex
  refine ⟨f, fd, ?_, g, F.kp, funLk F, F.binds fun _ _ _ _ _ _ us hl => match us, hl with | [_, _], _ => rfl⟩
  refine F.okX sc_best_plan (fun vs H Q E h => ?_) (fun cdv A outer s H vs Q E hr h => ?_)
  · obtain ⟨v1, v2, rfl, _⟩ := h
    rfl
  · obtain ⟨v1, v2, rfl, k1, k2, r1, r2, q⟩ := h
    refine ⟨_, (pss_cons (ps_expr (callH h_need_number (hr.mono (by decide)) passX (by rfl) (pa_cons pe_str (pa_cons (pv 0) pa_nil))))
      (pss_cons (ps_expr (callH h_need_natural (hr.mono (by decide)) passX (by rfl) (pa_cons pe_str (pa_cons (pv 1) pa_nil))))
      (pss_one (ps_ret (callH h_shaped (hr.mono (by decide)) pass0 (by rfl) (pa_cons (pe_op op_add (pv 0) pe_int) (pa_cons (callH h_least_greatest (hr.mono (by decide)) passX (by rfl) (pa_cons (pv 0) (pa_cons (pv 1) pa_nil))) (pa_cons (pv 1) pa_nil)))))))), ?_⟩
    refine ⟨_, rfl, _, _, rfl, k1, fun g1 => ?_, r1⟩
    refine ⟨_, rfl, _, _, rfl, k2, fun g2 => ?_, r2 g1⟩
    obtain ⟨n, m, rfl, rfl, x, hx, hn, hm, q⟩ := q g1 g2
    have h1 := isP_nat g2
    have hu := u_le m n h1
    refine ⟨_, rfl, _, _, rfl, rfl, _, rfl, _, rfl, _, _, rfl, k1, k2, r1, r2, fun _ _ => ⟨n, m, rfl, rfl, hm, by omega, ?_⟩⟩
    exact ⟨_, rfl, n + 1, u m n, m, x, rfl, hx, by omega, by omega, q⟩
theorem ok_best_for_writes {C : Addr} (D : DefAt K mg "best_for_writes" s_best_for_writes) (h_need_number : Has P w K mg base (L2.CX P w) 5 "need_number" ["word", "thing"] (spNeed K C isN)) (h_need_natural : Has P w K mg base (L2.CX P w) 5 "need_natural" ["word", "thing"] (spNeed K C isP))
    (h_best_plan : Has P w K mg base (L2.CX P w) 30 "best_plan" ["many", "reach"] (sp2 K C "many" isN "reach" isP (nmBest K)))
    (h_mirrored : Has P w K mg base CX0 7 "mirrored" ["bases"] (spMirrored K)) : Has P w K mg base (L2.CX P w) 31 "best_for_writes" ["many", "width"] (sp2 K C "many" isN "width" isP (nmWrites K)) := by
  obtain ⟨f, fd, F, g⟩ := D.ex
  refine ⟨f, fd, ?_, g, F.kp, funLk F, F.binds fun _ _ _ _ _ _ us hl => match us, hl with | [_, _], _ => rfl⟩
  refine F.okX sc_best_for_writes (fun vs H Q E h => ?_) (fun cdv A outer s H vs Q E hr h => ?_)
  · obtain ⟨v1, v2, rfl, _⟩ := h
    rfl
  · obtain ⟨v1, v2, rfl, k1, k2, r1, r2, q⟩ := h
    refine ⟨_, (pss_cons (ps_expr (callH h_need_number (hr.mono (by decide)) passX (by rfl) (pa_cons pe_str (pa_cons (pv 0) pa_nil))))
      (pss_cons (ps_expr (callH h_need_natural (hr.mono (by decide)) passX (by rfl) (pa_cons pe_str (pa_cons (pv 1) pa_nil))))
      (pss_one (ps_ret (callH h_mirrored (hr.mono (by decide)) pass0 (by rfl) (pa_cons (callH h_best_plan (hr.mono (by decide)) passX (by rfl) (pa_cons (pv 0) (pa_cons (pv 1) pa_nil))) pa_nil)))))), ?_⟩
    refine ⟨_, rfl, _, _, rfl, k1, fun g1 => ?_, r1⟩
    refine ⟨_, rfl, _, _, rfl, k2, fun g2 => ?_, r2 g1⟩
    obtain ⟨n, m, rfl, rfl, x, y, hx, hN, hM, hn, hm, q⟩ := q g1 g2
    have hl := shM_len ch _ _ _ _ _ hx
    refine ⟨_, rfl, _, rfl, _, _, rfl, k1, k2, r1, fun _ e => absurd (g2.symm.trans e) (by decide), fun _ _ => ⟨n, m, rfl, rfl, x, hx, hn, hm, fun H1 p1 s1 h1 => ?_⟩⟩
    exact ⟨p1, x, y, rfl, h1, hN, by omega, hM, fun H2 p2 s2 h2 => q H2 p2 (s1.trans s2) h2⟩
end
end K26
namespace K26
open PySem PySem.Spec PyProof.Rows L2
/-! ### the hand -/
structure HandAt (H : Hp) (hd l : Addr) (ns : List Int) (i b c d : Int) : Prop where
  ne : l ≠ hd
  cell : H hd = some (.lst [.ref l, .int i, .int b, .int c, .int d])
  ls : H l = some (.lst (ns.map V.int))
def Hand (H : Hp) (hd : Addr) : Prop := ∃ l ns i b c d, HandAt H hd l ns i b c d ∧ 0 ≤ i
/-- all but what stands at hd is kept -/
def Kept (hd : Addr) (H H' : Hp) : Prop := ∀ b o, b ≠ hd → H b = some o → H' b = some o
theorem Kept.refl (hd : Addr) (H : Hp) : Kept hd H H := fun _ _ _ e => e
theorem Kept.trans {hd : Addr} {H H1 H2 : Hp} (a : Kept hd H H1) (b : Kept hd H1 H2) : Kept hd H H2 := fun x o n e => b x o n (a x o n e)
theorem Kept.same {hd : Addr} {H H1 : Hp} (a : Same H H1) : Kept hd H H1 := fun x o _ e => a x o e
theorem Kept.put {hd : Addr} {H H1 : Hp} {o : HO} (a : Kept hd H H1) : Kept hd H (upd H1 hd o) := fun x u n e => by
  rw [upd_ne n]
  exact a x u n e
theorem Hand.same {H H' : Hp} {hd : Addr} (s : Same H H') (h : Hand H hd) : Hand H' hd := by
  obtain ⟨l, ns, i, b, c, d, h, h0⟩ := h
  exact ⟨l, ns, i, b, c, d, ⟨h.ne, s _ _ h.cell, s _ _ h.ls⟩, h0⟩
theorem Hand.lst {H : Hp} {hd : Addr} (h : Hand H hd) : ∃ xs, H hd = some (.lst xs) := by
  obtain ⟨l, ns, i, b, c, d, h, h0⟩ := h
  exact ⟨_, h.cell⟩
theorem kT {K : PySem.W.Frag} {H H' : Hp} {hd a : Addr} {xs : List V} (h : Hand H hd) (k : Kept hd H H') (q : SqT K H a xs) : SqT K H' a xs := by
  obtain ⟨zs, e⟩ := h.lst
  rcases q with (q | ⟨o, q⟩) | q
  · exact .inl (.inl (k _ _ (ne_of q e (by intro z; cases z)) q))
  · exact .inl (.inr ⟨o, k _ _ (ne_of q e (by intro z; cases z)) q⟩)
  · exact .inr q
theorem HandAt.put {H : Hp} {hd l : Addr} {ns : List Int} {i b c d i' b' c' d' : Int} (h : HandAt H hd l ns i b c d) : HandAt (upd H hd (.lst [.ref l, .int i', .int b', .int c', .int d'])) hd l ns i' b' c' d' :=
  ⟨h.ne, upd_same, by rw [upd_ne h.ne]; exact h.ls⟩
abbrev s_law_hand : Stmt := top 33
abbrev N_law_hand : List Str := ["_law_script"]
theorem sc_law_hand : FnScope N_law_hand ["_law_script"] (defScope s_law_hand) := ⟨rfl, rfl, rfl, by decide +kernel, rfl, by decide +kernel, by decide +kernel⟩
abbrev s_law_take : Stmt := top 34
abbrev N_law_take : List Str := ["_law_hand_here", "_law_most", "_law_cell", "_law_digit", "_law_mixed"]
theorem sc_law_take : FnScope N_law_take ["_law_hand_here", "_law_most"] (defScope s_law_take) := ⟨rfl, rfl, rfl, by decide +kernel, rfl, by decide +kernel, by decide +kernel⟩
def spHand (K : PySem.W.Frag) : Sp := fun vs H Q _ => ∃ (a : Addr) (ns : List Int), vs = [.ref a] ∧ SqL K H a (ns.map V.int) ∧ ∀ H' hd, Same H H' → H hd = none → Hand H' hd → Q (.ref hd) H'
def spTake : Sp := fun vs H Q _ => ∃ (hd : Addr) (m : Int), vs = [.ref hd, .int m] ∧ Hand H hd ∧ 1 ≤ m ∧ m ≤ 10 ^ 21 ∧ ∀ H' (r : Int), Kept hd H H' → Hand H' hd → 0 ≤ r → r < m → Q (.int r) H'
section
variable {P : Program} {w : World} {K : PySem.W.Frag} {mg : Str → Option Value} {base : Heap}
theorem ok_hand (D : DefAt K mg "_law_hand" s_law_hand) (T : Txt mg) : Has P w K mg base CX0 2 "_law_hand" ["_law_script"] (spHand K) := by
  obtain ⟨f, fd, F, g⟩ := D.ex
  refine ⟨f, fd, ?_, g, F.kp, funLk F, F.binds fun _ _ _ _ _ _ us hl => match us, hl with | [_], _ => rfl⟩
  refine F.ok sc_law_hand (fun vs H Q E h => ?_) (fun cdv A outer s H vs Q E hr h => ?_)
  · obtain ⟨a, ns, rfl, _⟩ := h
    rfl
  · obtain ⟨a, ns, rfl, hS, q⟩ := h
    refine ⟨_, (pss_one (ps_ret (pe_lst (pa_cons (pe_callTy call_list_of (by rfl) T.list bt_list (pa_cons (pv 0) pa_nil)) (pa_cons pe_int (pa_cons pe_int (pa_cons pe_int (pa_cons pe_int pa_nil)))))))), ?_⟩
    refine ⟨_, rfl, a, _, rfl, .inl hS, fun l nl => ?_⟩
    refine ⟨by show 5 ≤ sizeLine; decide, fun hd nh => ?_⟩
    have hl : (upd H l (.lst (ns.map V.int))) l = some (.lst (ns.map V.int)) := upd_same
    have ne : l ≠ hd := ne_of_none hl nh
    have s1 := same_new (o := HO.lst (ns.map V.int)) nl
    refine q _ hd (s1.trans (same_new nh)) (s1.free nh) ⟨l, ns, 0, 0, 0, 0, ⟨ne, upd_same, ?_⟩, Int.le_refl 0⟩
    rw [upd_ne ne]
    exact hl
theorem ok_take (D : DefAt K mg "_law_take" s_law_take) (T : Txt mg) : Has P w K mg base CX0 2 "_law_take" ["_law_hand_here", "_law_most"] spTake := by
  obtain ⟨f, fd, F, g⟩ := D.ex
  refine ⟨f, fd, ?_, g, F.kp, funLk F, F.binds fun _ _ _ _ _ _ us hl => match us, hl with | [_, _], _ => rfl⟩
  refine F.ok sc_law_take (fun vs H Q E h => ?_) (fun cdv A outer s H vs Q E hr h => ?_)
  · obtain ⟨hd, m, rfl, _⟩ := h
    rfl
  · obtain ⟨hd, m, rfl, ⟨l, ns, i, b, c, d, h, h0⟩, hm, hm2, q⟩ := h
    refine ⟨_, (pss_cons (ps_asg (pe_op op_add (pe_ix ix_list (pv 0) pe_int (fun _ _ => rfl)) pe_int) (pg_sub (pv 0) pe_int set_list))
      (pss_cons (ps_if (pt_cmpR op_eq (pe_callB call_len_seq (by rfl) T.len bt_len (pa_cons (pe_ix ix_list (pv 0) pe_int (fun _ _ => rfl)) pa_nil)) pe_int (nomark _)) (pss_one (ps_ret (pe_op op_mod (pe_callTy call_int1 (by rfl) T.int bt_int (pa_cons (pe_op op_add pe_int (pe_ix ix_list (pv 0) pe_int (fun _ _ => rfl))) pa_nil)) (pv 1)))) pss_nil)
      (C8.pss_cut (ps_if (PW.pt (pw_and (pt_cmpR op_eq (pe_ix ix_list (pv 0) pe_int (fun _ _ => rfl)) pe_int (nomark _)) (pw_and1 (pt_cmpR op_lt (pe_ix ix_list (pv 0) pe_int (fun _ _ => rfl)) (pe_callB call_len_seq (by rfl) T.len bt_len (pa_cons (pe_ix ix_list (pv 0) pe_int (fun _ _ => rfl)) pa_nil)) (nomark _))))) (pss_cons (ps_set (i := 2) sc_law_take.nd rfl (Or.inl rfl) (pe_ix ix_list (pe_ix ix_list (pv 0) pe_int (fun _ _ => rfl)) (pe_ix ix_list (pv 0) pe_int (fun _ _ => rfl)) (fun _ _ => rfl))) (pss_cons (ps_asg (pe_op op_add (pe_ix ix_list (pv 0) pe_int (fun _ _ => rfl)) pe_int) (pg_sub (pv 0) pe_int set_list)) (pss_cons (ps_asg (pe_op op_mod (pe_callTy call_int1 (by rfl) T.int bt_int (pa_cons (pe_op op_add (pe_op op_add (pe_op op_mul (pe_ix ix_list (pv 0) pe_int (fun _ _ => rfl)) pe_int) (pv 2)) pe_int) pa_nil)) pe_int) (pg_sub (pv 0) pe_int set_list)) (pss_one (ps_if (pt_cmpR op_ge (pe_callB call_abs (by rfl) T.abs bt_abs (pa_cons (pv 2) pa_nil)) (pe_op op_pow pe_int pe_int) (nomark _)) (pss_one (ps_asg (pe_op op_mod (pe_callTy call_int1 (by rfl) T.int bt_int (pa_cons (pe_callB call_abs (by rfl) T.abs bt_abs (pa_cons (pv 2) pa_nil)) pa_nil)) (pe_op op_pow pe_int pe_int)) (pg_sub (pv 0) pe_int set_list))) pss_nil))))) pss_nil)
      (pss_cons (ps_if (pt_cmpR op_gt (pe_ix ix_list (pv 0) pe_int (fun _ _ => rfl)) pe_int (nomark _)) (pss_cons (ps_set (i := 3) sc_law_take.nd rfl (Or.inl rfl) (pe_op op_mod (pe_callTy call_int1 (by rfl) T.int bt_int (pa_cons (pe_ix ix_list (pv 0) pe_int (fun _ _ => rfl)) pa_nil)) (pv 1))) (pss_cons (ps_asg (pe_op op_fdivW (pe_ix ix_list (pv 0) pe_int (fun _ _ => rfl)) (pv 1)) (pg_sub (pv 0) pe_int set_list)) (pss_one (ps_ret (pv 3))))) pss_nil)
      (pss_cons (ps_set (i := 4) sc_law_take.nd rfl (Or.inl rfl) (pe_op op_mod (pe_callTy call_int1 (by rfl) T.int bt_int (pa_cons (pe_op op_mul (pe_op op_add (pe_ix ix_list (pv 0) pe_int (fun _ _ => rfl)) (pe_op op_mul (pe_ix ix_list (pv 0) pe_int (fun _ _ => rfl)) pe_int)) pe_int) pa_nil)) pe_int))
      (pss_cons (ps_set (i := 4) sc_law_take.nd rfl (Or.inl rfl) (pe_op op_mod (pe_callTy call_int1 (by rfl) T.int bt_int (pa_cons (pe_op op_add (pe_op op_mul (pv 4) (pv 4)) (pe_op op_mul pe_int (pe_ix ix_list (pv 0) pe_int (fun _ _ => rfl)))) pa_nil)) pe_int))
      (pss_one (ps_ret (pe_op op_mod (pe_callTy call_int1 (by rfl) T.int bt_int (pa_cons (pe_op op_fdivW (pe_op op_mod (pe_callTy call_int1 (by rfl) T.int bt_int (pa_cons (pe_op op_add (pe_op op_mul (pv 4) pe_int) (pe_ix ix_list (pv 0) pe_int (fun _ _ => rfl))) pa_nil)) pe_int) pe_int) pa_nil)) (pv 1)))))))))), ?_⟩
    have fin : ∀ (H' : Hp) (i b c d z : Int), Kept hd H H' → HandAt H' hd l ns i b c d → 0 ≤ i → Q (.int (z % m)) H' := fun H' i b c d z k h h0 =>
      q H' _ k ⟨l, ns, i, b, c, d, h, h0⟩ (Int.emod_nonneg _ (by omega)) (Int.emod_lt_of_pos _ (by omega))
    -- hand[4] = hand[4] + 1
    refine ⟨_, rfl, hd, _, _, _, rfl, rfl, SqL.of h.cell, atI_nat (j := 4) rfl, _, _, rfl, rfl, ?_⟩
    refine ⟨_, rfl, hd, _, 4, 4, rfl, rfl, h.cell, rfl, ?_⟩
    generalize hH1 : upd H hd _ = H1
    have k1 : Kept hd H H1 := by rw [← hH1]; exact (Kept.refl hd H).put
    have h1 : HandAt H1 hd l ns i b c (d + 1) := by rw [← hH1]; exact h.put
    generalize d + 1 = d1 at h1
    -- if len(hand[0]) == 0
    have hls : SqL K H1 l (ns.map V.int) := SqL.of h1.ls
    refine ⟨_, rfl, hd, _, _, _, rfl, rfl, SqL.of h1.cell, atI_nat (j := 0) rfl, l, _, rfl, .inl hls, rfl, _, rfl, ite2 (fun e => ?_) (fun e => ?_)⟩
    · refine ⟨_, rfl, hd, _, _, _, rfl, rfl, SqL.of h1.cell, atI_nat (j := 4) rfl, _, _, rfl, rfl, .inl ⟨_, rfl, _, rfl, _, _, rfl, rfl, by omega, ?_⟩⟩
      exact fin H1 i b c d1 _ k1 h1 h0
    -- the middle, then the rest
    refine ⟨fun σ' H' => ∃ (i b c d : Int) (y : Option V), σ' = [some (.ref hd), some (.int m), y, none, none] ∧ Kept hd H H' ∧ HandAt H' hd l ns i b c d ∧ 0 ≤ i, ?_, fun σ' H' hP => ?_⟩
    · refine ⟨_, rfl, hd, _, _, _, rfl, rfl, SqL.of h1.cell, atI_nat (j := 2) rfl, rfl, _, rfl, ite2 (fun e2 => ?_) (fun e2 => ?_)⟩
      · refine ⟨_, rfl, hd, _, _, _, rfl, rfl, SqL.of h1.cell, atI_nat (j := 1) rfl, _, rfl, hd, _, _, _, rfl, rfl, SqL.of h1.cell, atI_nat (j := 0) rfl, l, _, rfl, .inl hls, _, _, rfl, rfl, _, rfl, ite2 (fun e3 => ?_) (fun e3 => ?_)⟩
        · have hlt : i < ((ns.map V.int).length : Int) := of_decide_eq_true e3
          rw [List.length_map] at hlt
          obtain ⟨j, rfl⟩ : ∃ j : Nat, i = (j : Int) := ⟨i.toNat, by omega⟩
          have hj : j < ns.length := by omega
          have hat : (ns.map V.int)[j]? = some (V.int ns[j]) := by
            rw [List.getElem?_map, List.getElem?_eq_getElem hj]
            rfl
          generalize hz : ns[j] = z at hat
          -- cell = hand[0][hand[1]]
          refine ⟨_, rfl, hd, _, _, _, rfl, rfl, SqL.of h1.cell, atI_nat (j := 0) rfl, _, rfl, hd, _, _, _, rfl, rfl, SqL.of h1.cell, atI_nat (j := 1) rfl, l, _, _, _, rfl, rfl, hls, atI_nat hat, ?_⟩
          -- hand[1] = hand[1] + 1
          refine ⟨_, rfl, hd, _, _, _, rfl, rfl, SqL.of h1.cell, atI_nat (j := 1) rfl, _, _, rfl, rfl, ?_⟩
          refine ⟨_, rfl, hd, _, 1, 1, rfl, rfl, h1.cell, rfl, ?_⟩
          generalize hH2 : upd H1 hd _ = H2
          have k2 : Kept hd H H2 := by rw [← hH2]; exact k1.put
          have h2 : HandAt H2 hd l ns ((j : Int) + 1) b c d1 := by rw [← hH2]; exact h1.put
          -- hand[3] = int(hand[3] * 191 + cell + 26) % 2147483563
          refine ⟨_, rfl, hd, _, _, _, rfl, rfl, SqL.of h2.cell, atI_nat (j := 3) rfl, _, _, rfl, rfl, .inr ⟨by decide, by decide⟩, _, rfl, _, _, rfl, rfl, _, _, rfl, rfl, .inl ⟨_, rfl, _, _, rfl, rfl, (by show (0 : Int) < 2147483563; decide), ?_⟩⟩
          refine ⟨_, rfl, hd, _, 3, 3, rfl, rfl, h2.cell, rfl, ?_⟩
          generalize hH3 : upd H2 hd _ = H3
          have k3 : Kept hd H H3 := by rw [← hH3]; exact k2.put
          have h3 : HandAt H3 hd l ns ((j : Int) + 1) b ((c * 191 + z + 26) % 2147483563) d1 := by rw [← hH3]; exact h2.put
          generalize (c * 191 + z + 26) % 2147483563 = c1 at h3
          -- if abs(cell) >= 10 ** 18
          refine ⟨_, rfl, _, rfl, _, _, rfl, rfl, ⟨by decide, by decide, by decide⟩, _, _, rfl, rfl, _, rfl, ite2 (fun e4 => ?_) (fun e4 => ?_)⟩
          · refine ⟨_, rfl, _, rfl, .inl ⟨_, rfl, _, _, rfl, rfl, ⟨by decide, by decide, by decide⟩, _, _, rfl, rfl, (by show (0 : Int) < 10 ^ 60; decide), ?_⟩⟩
            refine ⟨_, rfl, hd, _, 2, 2, rfl, rfl, h3.cell, rfl, ?_⟩
            generalize hH4 : upd H3 hd _ = H4
            have k4 : Kept hd H H4 := by rw [← hH4]; exact k3.put
            refine ⟨(j : Int) + 1, _, c1, d1, some (.int z), rfl, k4, by rw [← hH4]; exact h3.put, by omega⟩
          · exact ⟨(j : Int) + 1, b, c1, d1, some (.int z), rfl, k3, h3, by omega⟩
        · exact ⟨i, b, c, d1, none, rfl, k1, h1, h0⟩
      · exact ⟨i, b, c, d1, none, rfl, k1, h1, h0⟩
    · obtain ⟨i, b, c, d, y, rfl, k2, h2, h0⟩ := hP
      -- if hand[2] > 0
      refine ⟨_, rfl, hd, _, _, _, rfl, rfl, SqL.of h2.cell, atI_nat (j := 2) rfl, _, _, rfl, rfl, _, rfl, ite2 (fun e2 => ?_) (fun e2 => ?_)⟩
      · refine ⟨_, rfl, hd, _, _, _, rfl, rfl, SqL.of h2.cell, atI_nat (j := 2) rfl, .inl ⟨_, rfl, _, rfl, _, _, rfl, rfl, by omega, ?_⟩⟩
        have hlog : m.natAbs < 2 ^ 100 := by
          have : m.natAbs ≤ 10 ^ 21 := by omega
          exact Nat.lt_of_le_of_lt this (by decide)
        refine ⟨_, rfl, hd, _, _, _, rfl, rfl, SqL.of h2.cell, atI_nat (j := 2) rfl, _, rfl, _, _, rfl, rfl, wide_div (b := 100) (by omega) hlog (by decide) (by decide), ?_⟩
        refine ⟨_, rfl, hd, _, 2, 2, rfl, rfl, h2.cell, rfl, ?_⟩
        generalize hH3 : upd H' hd _ = H3
        have k3 : Kept hd H H3 := by rw [← hH3]; exact k2.put
        have h3 : HandAt H3 hd l ns i (b / m) c d := by rw [← hH3]; exact h2.put
        exact ⟨_, rfl, fin H3 i _ c d _ k3 h3 h0⟩
      · -- the mixture
        refine ⟨_, rfl, hd, _, _, _, rfl, rfl, SqL.of h2.cell, atI_nat (j := 3) rfl, _, rfl, hd, _, _, _, rfl, rfl, SqL.of h2.cell, atI_nat (j := 4) rfl, _, _, rfl, rfl, .inr ⟨by decide, by decide⟩, _, _, rfl, rfl, _, _, rfl, rfl, .inr ⟨by decide, by decide⟩, .inl ⟨_, rfl, _, _, rfl, rfl, (by show (0 : Int) < 2147483647; decide), ?_⟩⟩
        show gName 4 (V.int ((c + d * 61403) * 16807 % 2147483647)) _ _ _
        have hx0 : 0 ≤ (c + d * 61403) * 16807 % 2147483647 := Int.emod_nonneg _ (by decide)
        have hx1 : (c + d * 61403) * 16807 % 2147483647 < 2147483647 := Int.emod_lt_of_pos _ (by decide)
        generalize (c + d * 61403) * 16807 % 2147483647 = x at hx0 hx1
        refine ⟨_, rfl, _, rfl, _, _, rfl, rfl, .inl ⟨by omega, by omega⟩, _, rfl, hd, _, _, _, rfl, rfl, SqL.of h2.cell, atI_nat (j := 4) rfl, _, _, rfl, rfl, .inl ⟨by decide, by decide⟩, _, _, rfl, rfl, .inl ⟨_, rfl, _, _, rfl, rfl, (by show (0 : Int) < 1000037; decide), ?_⟩⟩
        show gName 4 (V.int ((x * x + 5 * d) % 1000037)) _ _ _
        generalize (x * x + 5 * d) % 1000037 = x2
        refine ⟨_, rfl, _, _, rfl, rfl, .inr ⟨by decide, by decide⟩, _, rfl, hd, _, _, _, rfl, rfl, SqL.of h2.cell, atI_nat (j := 3) rfl, _, _, rfl, rfl, .inl ⟨_, rfl, _, _, rfl, rfl, (by show (0 : Int) < 998244319; decide), _, _, rfl, rfl, ⟨by decide, by decide⟩, .inl ⟨_, rfl, _, rfl, _, _, rfl, rfl, by omega, ?_⟩⟩⟩
        exact fin H' i b c d _ k2 h2 h0
end
end K26
namespace K26
open PySem PySem.Spec PyProof.Rows L2
/-! ### _law_same -/
abbrev s_law_same : Stmt := top 35
abbrev N_law_same : List Str := ["_law_told", "_law_due", "_law_left", "_law_right"]
theorem sc_law_same : FnScope N_law_same ["_law_told", "_law_due"] (defScope s_law_same) := ⟨rfl, rfl, rfl, by decide +kernel, rfl, by decide +kernel, by decide +kernel⟩
def spSame (K : PySem.W.Frag) (n : Nat) : Sp := fun vs H Q _ => (1 ≤ n ∧ ∃ i : Int, vs = [.int i, .int i] ∧ Q (.bl true) H) ∨
  (2 ≤ n ∧ ∃ (a b : Addr) (ns : List Int), vs = [.ref a, .ref b] ∧ SqT K H a (ns.map V.int) ∧ SqT K H b (ns.map V.int) ∧ ∀ H', Same H H' → Q (.bl true) H')
section
variable {P : Program} {w : World} {K : PySem.W.Frag} {mg : Str → Option Value} {base : Heap}
theorem ok_same (D : DefAt K mg "_law_same" s_law_same) (T : Txt mg) : ∀ n, Has P w K mg base CX0 (2 + n) "_law_same" ["_law_told", "_law_due"] (spSame K n)
  | 0 => by
    obtain ⟨f, fd, F, g⟩ := D.ex
    refine ⟨f, fd, ?_, g, F.kp, funLk F, F.binds fun _ _ _ _ _ _ us hl => match us, hl with | [_, _], _ => rfl⟩
    refine F.ok sc_law_same (fun vs H Q E h => ?_) (fun cdv A outer s H vs Q E hr h => ?_)
    · rcases h with ⟨h, _⟩ | ⟨h, _⟩ <;> omega
    · rcases h with ⟨h, _⟩ | ⟨h, _⟩ <;> omega
  | n + 1 => by
    have h_law_same := ok_same D T n
    obtain ⟨f, fd, F, g⟩ := D.ex
    refine ⟨f, fd, ?_, g, F.kp, funLk F, F.binds fun _ _ _ _ _ _ us hl => match us, hl with | [_, _], _ => rfl⟩
    refine F.ok (k := 2 + n) sc_law_same (fun vs H Q E h => ?_) (fun cdv A outer s H vs Q E hr h => ?_)
    · rcases h with ⟨_, i, rfl, _⟩ | ⟨_, a, b, ns, rfl, _⟩ <;> rfl
    · refine ⟨_, (pss_cons (ps_if (pt_val (pe_callB call_isi (by rfl) T.isinstance bt_isinstance (pa_cons (pv 1) (pa_cons (pe_bltn (v := .ty "tuple") (by rfl) T.tuple bt_tuple rfl) pa_nil)))) (pss_cons (ps_if (PW.pt (pw_or (pt_not (pt_val (pe_callB call_isi (by rfl) T.isinstance bt_isinstance (pa_cons (pv 0) (pa_cons (pe_bltn (v := .ty "tuple") (by rfl) T.tuple bt_tuple rfl) pa_nil))))) (pw_or1 (pt_cmpR op_ne (pe_callB call_len_seq (by rfl) T.len bt_len (pa_cons (pv 0) pa_nil)) (pe_callB call_len_seq (by rfl) T.len bt_len (pa_cons (pv 1) pa_nil)) (nomark _))))) (pss_one (ps_ret pe_bl)) pss_nil) (pss_cons (ps_for PassesOwn.never rfl (RZ.pi_zipA (by rfl) T.zip (pa_cons (pv 0) (pa_cons (pv 1) pa_nil))) (pg_tup rfl (pgs_cons (pg_name (i := 2) sc_law_same.nd rfl (Or.inl rfl)) (pgs_cons (pg_name (i := 3) sc_law_same.nd rfl (Or.inl rfl)) pgs_nil))) (pss_one (ps_if (pt_not (pt_val (callH h_law_same (hr.mono (by omega)) pass0 (by rfl) (pa_cons (pv 2) (pa_cons (pv 3) pa_nil))))) (pss_one (ps_ret pe_bl)) pss_nil))) (pss_one (ps_ret pe_bl)))) pss_nil)
      (pss_one (ps_ret (pe_and (pe_callB call_isi (by rfl) T.isinstance bt_isinstance (pa_cons (pv 0) (pa_cons (pe_bltn (v := .ty "int") (by rfl) T.int bt_int rfl) pa_nil))) (pe_and (pe_not (pe_callB call_isi (by rfl) T.isinstance bt_isinstance (pa_cons (pv 0) (pa_cons (pe_bltn (v := .ty "bool") (by rfl) T.bool bt_bool rfl) pa_nil)))) (pe_one (pe_cmpR op_eq (pv 0) (pv 1) (nomark _)))))))), ?_⟩
      rcases h with ⟨_, i, rfl, q⟩ | ⟨hn, a, b, ns, rfl, hA, hB, q⟩
      · refine ⟨_, rfl, _, _, _, _, _, rfl, .ty _, .base (.int i), kit_int_tup, _, rfl, iteF ?_⟩
        refine ⟨_, rfl, _, _, _, _, _, rfl, .ty _, .base (.int i), kit_int, _, rfl, iteT ?_⟩
        refine ⟨_, rfl, _, _, _, _, _, rfl, .ty _, .base (.int i), kit_int_bool, _, rfl, _, rfl, iteT ?_⟩
        refine ⟨_, rfl, _, rfl, rfl, ?_⟩
        rw [decide_eq_true rfl]
        exact q
      · refine ⟨_, rfl, _, _, _, _, _, rfl, .ty _, tupX hB, kit_tup, _, rfl, iteT ?_⟩
        refine ⟨_, rfl, _, _, _, _, _, rfl, .ty _, tupX hA, kit_tup, _, rfl, iteF ?_⟩
        refine ⟨_, rfl, a, _, rfl, .inr hA, _, rfl, b, _, rfl, .inr hB, rfl, _, rfl, iteNS rfl ?_⟩
        refine ⟨_, rfl, _, rfl, a, b, _, _, rfl, .inr ⟨hA, hB, RZ.for_zipT (K := K) (a := a) (b := b) (xs := ns.map V.int) (ys := ns.map V.int) rfl (fun i σ H' => ∃ y2 y3, σ = [some (.ref a), some (.ref b), y2, y3] ∧ Same H H')
          ⟨none, none, rfl, Same.refl H⟩ (fun i σ H' hP => ?_) (fun i x y T0 σ H' hx hy hP nT => ?_) (fun σ H' hP => ?_)⟩⟩
        · obtain ⟨_, _, _, sm⟩ := hP
          exact ⟨sT sm hA, sT sm hB⟩
        · obtain ⟨y2, y3, rfl, sm⟩ := hP
          obtain ⟨z, hz, rfl⟩ := get_int hx
          obtain ⟨z', hz', rfl⟩ := get_int hy
          obtain rfl := Option.some.inj (hz.symm.trans hz')
          refine ⟨T0, _, rfl, SqT.new, rfl, _, _, rfl, _, _, rfl, rfl, ?_⟩
          refine ⟨_, rfl, _, rfl, .inl ⟨by omega, z, rfl, _, rfl, iteF ?_⟩⟩
          exact ⟨_, _, rfl, sm.trans (same_new nT)⟩
        · obtain ⟨y2, y3, rfl, sm⟩ := hP
          exact q H' sm
end
/-! ### _law_chain -/
abbrev s_law_chain : Stmt := top 36
abbrev N_law_chain : List Str := ["_law_found", "_law_chain_here", "_law_v"]
theorem sc_law_chain : FnScope N_law_chain ["_law_found"] (defScope s_law_chain) := ⟨rfl, rfl, rfl, by decide +kernel, rfl, by decide +kernel, by decide +kernel⟩
def spChain (K : PySem.W.Frag) : Sp := fun vs H Q _ => ∃ (a : Addr) (f : List Int), vs = [.ref a] ∧ SqT K H a (f.map V.int) ∧ Good f ∧ f.length ≤ 1000 ∧ ∀ H' p, Same H H' → H p = none → H' p = some (.lst ((chainM f).map V.int)) → Q (.ref p) H'
section
variable {P : Program} {w : World} {K : PySem.W.Frag} {mg : Str → Option Value} {base : Heap}
theorem ok_chain (D : DefAt K mg "_law_chain" s_law_chain) (T : Txt mg) : Has P w K mg base CX0 2 "_law_chain" ["_law_found"] (spChain K) := by
  obtain ⟨f, fd, F, g⟩ := D.ex
  refine ⟨f, fd, ?_, g, F.kp, funLk F, F.binds fun _ _ _ _ _ _ us hl => match us, hl with | [_], _ => rfl⟩
  refine F.ok sc_law_chain (fun vs H Q E h => ?_) (fun cdv A outer s H vs Q E hr h => ?_)
  · obtain ⟨a, fs, rfl, _⟩ := h
    rfl
  · obtain ⟨a, fs, rfl, hS, hG, hL, q⟩ := h
    refine ⟨_, (pss_cons (ps_set (i := 1) sc_law_chain.nd rfl (Or.inl rfl) (pe_lst pa_nil))
      (pss_cons (ps_set (i := 2) sc_law_chain.nd rfl (Or.inl rfl) (pe_callB call_len_seq (by rfl) T.len bt_len (pa_cons (pv 0) pa_nil)))
      (pss_cons (ps_while PassesOwn.never (pt_cmpR op_gt (pv 2) pe_int (nomark _)) (pss_cons (ps_expr (pe_bm PySem.F.plainAttrs_list PySem.F.slot_list_append PySem.F.type_list_append mt_append (pv 1) (pa_cons (pv 2) pa_nil))) (pss_one (ps_set (i := 2) sc_law_chain.nd rfl (Or.inl rfl) (pe_ix ix_tup (pv 0) (pe_op op_sub (pv 2) pe_int) (fun _ _ => rfl))))))
      (pss_one (ps_ret (pe_op op_cat (pv 1) (pe_lst (pa_cons pe_int pa_nil)))))))), ?_⟩
    refine ⟨Nat.zero_le _, fun p np => ?_⟩
    have s1 := same_new (o := HO.lst []) np
    refine ⟨_, rfl, a, _, rfl, .inr (sT s1 hS), ?_⟩
    refine whileI (fun x : Nat × List Int => [some (.ref a), some (.ref p), some (.int ((x.1 : Nat) : Int))]) (fun x H' => Same H H' ∧ H' p = some (.lst (x.2.map V.int)) ∧ x.1 ≤ fs.length ∧ chainM fs = x.2 ++ chainAt fs x.1 x.1 ∧ x.2.length + x.1 ≤ fs.length) (fun x => x.1) (fs.length, []) (by rw [List.length_map]; rfl)
      ⟨s1, upd_same, Nat.le_refl _, rfl, by show 0 + fs.length ≤ fs.length; omega⟩ (fun x H' hP => ?_)
    obtain ⟨v, acc⟩ := x
    obtain ⟨sm, hp, hv, hc, hl⟩ := hP
    replace hp : H' p = some (.lst (acc.map V.int)) := hp
    replace hv : v ≤ fs.length := hv
    replace hc : chainM fs = acc ++ chainAt fs v v := hc
    replace hl : acc.length + v ≤ fs.length := hl
    refine ⟨_, rfl, _, _, rfl, rfl, _, rfl, ?_⟩
    cases v with
    | zero =>
      refine iteF ?_
      refine ⟨_, rfl, by show 1 ≤ sizeLine; decide, fun z nz => ?_⟩
      have hpz : p ≠ z := ne_of_none hp nz
      have hp2 : (upd H' z (.lst [.int 0])) p = some (.lst (acc.map V.int)) := by rw [upd_ne hpz]; exact hp
      refine ⟨p, z, _, _, rfl, rfl, hp2, upd_same, ?_, fun r nr => ?_⟩
      · rw [List.length_map]
        show acc.length + 1 ≤ sizeLine
        exact Nat.le_of_lt (small5 (by omega))
      · have s2 := sm.trans (same_new (o := HO.lst [.int 0]) nz)
        refine q _ r (s2.trans (same_new nr)) (s2.free nr) ?_
        rw [upd_same, hc, List.map_append]
        rfl
    | succ v =>
      rw [show decide ((0 : Int) < (((v + 1 : Nat) : Nat) : Int)) = true from decide_eq_true (by omega)]
      refine iteT (whileT ?_)
      refine ⟨_, rfl, .inl ⟨rfl, _, SqL.of hp⟩, _, rfl, p, _, _, rfl, rfl, hp, by rw [List.length_map]; exact small5 (by omega), ?_⟩
      have hg := hG v (by omega)
      have s2 := same_put (o := HO.lst (acc.map V.int ++ [V.int ((v + 1 : Nat) : Int)])) sm np
      have hat : (fs.map V.int)[v]? = some (V.int (fs.getD v 0)) := by
        rw [List.getElem?_map, List.getD_eq_getElem?_getD, List.getElem?_eq_getElem (show v < fs.length by omega)]
        rfl
      refine ⟨_, rfl, _, rfl, _, _, rfl, rfl, a, _, _, _, rfl, rfl, sT s2 hS, at_of (j := v) (by show ((v + 1 : Nat) : Int) - 1 = (v : Int); omega) hat, ?_⟩
      refine ⟨((fs.getD v 0).toNat, acc ++ [((v + 1 : Nat) : Int)]), ?_, ⟨s2, ?_, by show (fs.getD v 0).toNat ≤ _; omega, ?_, ?_⟩, by show (fs.getD v 0).toNat < v + 1; omega⟩
      · show [some (V.ref a), some (V.ref p), some (V.int (fs.getD v 0))] = [some (V.ref a), some (V.ref p), some (V.int (((fs.getD v 0).toNat : Nat) : Int))]
        rw [Int.toNat_of_nonneg hg.1]
      · rw [upd_same, List.map_append]
        rfl
      · show chainM fs = (acc ++ [((v + 1 : Nat) : Int)]) ++ chainAt fs (fs.getD v 0).toNat (fs.getD v 0).toNat
        rw [hc, List.append_assoc]
        congr 1
        show chainAt fs (v + 1) (v + 1) = ((v + 1 : Nat) : Int) :: chainAt fs (fs.getD v 0).toNat (fs.getD v 0).toNat
        conv => lhs; unfold chainAt
        rw [if_neg (by omega), Nat.add_sub_cancel]
        rw [chain_fuel hG v (fs.getD v 0).toNat _ (by omega) (Nat.le_refl _) (by omega)]
      · show (acc ++ [((v + 1 : Nat) : Int)]).length + (fs.getD v 0).toNat ≤ fs.length
        rw [List.length_append, List.length_singleton]
        omega
end
end K26
namespace K26
open PySem PySem.Spec PyProof.Rows L2
/-! ### rules with the written part named (in a comprehension's block) -/
section
variable {X : Cx}
theorem kv_ixL (K : PySem.W.Frag) (h : X.K = K := by rfl) : IxR X (rIxL K) := by subst h; exact ix_list
theorem kv_ixT (K : PySem.W.Frag) (h : X.K = K := by rfl) : IxR X (rIxT K) := by subst h; exact ix_tup
theorem kv_slA (K : PySem.W.Frag) (h : X.K = K := by rfl) : SlR X (rSlA K) := by subst h; exact sl_tupA
theorem kv_sum (K : PySem.W.Frag) (hc : X.calm = true) (h : X.K = K := by rfl) : CallR X (.builtin "sum") (rSum K) := by subst h; exact cr_sum hc
theorem kv_min (K : PySem.W.Frag) (hc : X.calm = true) (h : X.K = K := by rfl) : CallR X (.builtin "min") (rMin K) := by subst h; exact cr_min hc
theorem kv_piL {tg l : Expr} {tl : TE} (K : PySem.W.Frag) (hl : PE X l tl) (h : X.K = K := by rfl) : PI X tg l (iList K tl) := by subst h; exact pi_list hl
theorem kv_eqD (K : PySem.W.Frag) (hu : X.A.units + 64 < cLine) (h : X.K = K := by rfl) : OpR X (compareOp .Eq) (rEqD K) := by subst h; exact op_eqD hu
end
/-! ### _law_plan -/
abbrev s_law_plan : Stmt := top 37
abbrev N_law_plan : List Str := ["_law_hand_here", "_law_size", "_law_found", "_law_v", "_law_chain_here"]
theorem sc_law_plan : FnScope N_law_plan ["_law_hand_here", "_law_size"] (defScope s_law_plan) := ⟨rfl, rfl, rfl, by decide +kernel, rfl, by decide +kernel, by decide +kernel⟩
def spPlan (K : PySem.W.Frag) : Sp := fun vs H Q _ => ∃ (hd : Addr) (n : Nat), vs = [.ref hd, .int n] ∧ Hand H hd ∧ n ≤ 500 ∧ ∀ H' p f, Kept hd H H' → Hand H' hd → SqT K H' p (f.map V.int) → Plan f → f.length = n → Q (.ref p) H'
section
variable {P : Program} {w : World} {K : PySem.W.Frag} {mg : Str → Option Value} {base : Heap}
theorem ok_plan (D : DefAt K mg "_law_plan" s_law_plan) (T : Txt mg) (h_law_chain : Has P w K mg base CX0 2 "_law_chain" ["_law_found"] (spChain K)) (h_law_take : Has P w K mg base CX0 2 "_law_take" ["_law_hand_here", "_law_most"] spTake) :
    Has P w K mg base CX0 3 "_law_plan" ["_law_hand_here", "_law_size"] (spPlan K) := by
  obtain ⟨f, fd, F, g⟩ := D.ex
  refine ⟨f, fd, ?_, g, F.kp, funLk F, F.binds fun _ _ _ _ _ _ us hl => match us, hl with | [_, _], _ => rfl⟩
  refine F.ok sc_law_plan (fun vs H Q E h => ?_) (fun cdv A outer s H vs Q E hr h => ?_)
  · obtain ⟨hd, n, rfl, _⟩ := h
    rfl
  · obtain ⟨hd, n, rfl, hH, hn, q⟩ := h
    refine ⟨_, (pss_cons (ps_set (i := 2) sc_law_plan.nd rfl (Or.inl rfl) (pe_tup pa_nil))
      (pss_cons (ps_for PassesOwn.never rfl (pi_range1 (by rfl) T.range (pa_cons (pv 1) pa_nil)) (pg_name (i := 3) sc_law_plan.nd rfl (Or.inl rfl)) (pss_cons (ps_set (i := 4) sc_law_plan.nd rfl (Or.inl rfl) (callH h_law_chain (hr.mono (by decide)) pass0 (by rfl) (pa_cons (pv 2) pa_nil))) (pss_one (ps_set (i := 2) sc_law_plan.nd rfl (Or.inl rfl) (pe_op op_catA (pv 2) (pe_tup (pa_cons (pe_ix ix_list (pv 4) (callH h_law_take (hr.mono (by decide)) pass0 (by rfl) (pa_cons (pv 0) (pa_cons (pe_callB call_len_seq (by rfl) T.len bt_len (pa_cons (pv 4) pa_nil)) pa_nil))) (fun _ _ => rfl)) pa_nil)))))))
      (pss_one (ps_ret (pv 2))))), ?_⟩
    refine ⟨Nat.zero_le _, fun a0 na => ?_⟩
    refine ⟨_, rfl, n, rfl, by omega, by omega, ?_⟩
    rw [Int.toNat_natCast]
    refine for_range (lo := 0) (n := n) (fun i σ H' => ∃ a fs y3 y4, σ = [some (.ref hd), some (.int n), some (.ref a), y3, y4] ∧ Kept hd H H' ∧ Hand H' hd ∧ SqT K H' a (fs.map V.int) ∧ Plan fs ∧ fs.length = i)
      ⟨a0, [], none, none, rfl, Kept.same (same_new na), hH.same (same_new na), SqT.new, plan_nil, rfl⟩ (fun i σ H' hi hP => ?_) (fun σ H' hP => ?_)
    · obtain ⟨a, fs, y3, y4, rfl, kp, hh, hS, hp, hl⟩ := hP
      refine ⟨_, rfl, a, fs, rfl, hS, hp.good, by omega, fun H1 c s1 nc hc => ?_⟩
      have hh1 := hh.same s1
      have hcd : c ≠ hd := by
        intro z
        obtain ⟨zs, e⟩ := hh.lst
        rw [← z, nc] at e
        cases e
      have hlen : (chainM fs).length ≤ 501 := by
        have := chain_len (f := fs) fs.length fs.length
        show (chainAt fs fs.length fs.length).length ≤ 501
        omega
      have hpos : 1 ≤ (chainM fs).length := chain_pos _ _
      refine ⟨_, rfl, _, rfl, _, rfl, _, rfl, c, _, rfl, .inl (SqL.of hc), ?_⟩
      rw [List.length_map]
      refine ⟨hd, _, rfl, hh1, by omega, by omega, fun H2 r k2 hh2 r0 r1 => ?_⟩
      obtain ⟨j, rfl⟩ : ∃ j : Nat, r = (j : Int) := ⟨r.toNat, by omega⟩
      have hj : j < (chainM fs).length := by omega
      have hat : ((chainM fs).map V.int)[j]? = some (V.int (chainM fs)[j]) := by
        rw [List.getElem?_map, List.getElem?_eq_getElem hj]
        rfl
      have hb : (chainM fs)[j] ∈ chainM fs := List.getElem_mem hj
      generalize (chainM fs)[j] = b at hat hb
      refine ⟨c, _, _, _, rfl, rfl, SqL.of (k2 c _ hcd hc), atI_nat hat, by show 1 ≤ sizeLine; decide, fun t nt => ?_⟩
      have s3 := same_new (o := HO.tup [V.int b]) nt
      refine catA_use (sT s3 (kT hh1 k2 (sT s1 hS))) SqT.new (by rw [List.length_map]; show fs.length + 1 ≤ sizeLine; exact Nat.le_of_lt (small5 (by omega))) fun H4 p4 s4 h4 => ?_
      refine ⟨p4, fs ++ [b], _, _, rfl, kp.trans ((Kept.same s1).trans (k2.trans (Kept.same (s3.trans s4)))), (hh2.same s3).same s4, ?_, plan_snoc hp hb, by rw [List.length_append, hl]; rfl⟩
      rw [List.map_append]
      exact h4
    · obtain ⟨a, fs, y3, y4, rfl, kp, hh, hS, hp, hl⟩ := hP
      exact ⟨_, rfl, q H' a fs kp hh hS hp hl⟩
end
/-! ### _law_is_plan -/
abbrev s_law_is_plan : Stmt := top 39
abbrev N_law_is_plan : List Str := ["_law_found", "_law_size", "_law_z"]
theorem sc_law_is_plan : FnScope N_law_is_plan ["_law_found", "_law_size"] (defScope s_law_is_plan) := ⟨rfl, rfl, rfl, by decide +kernel, rfl, by decide +kernel, by decide +kernel⟩
def spIsPlan (K : PySem.W.Frag) : Sp := fun vs H Q _ => ∃ (a : Addr) (f : List Int), vs = [.ref a, .int f.length] ∧ SqT K H a (f.map V.int) ∧ Plan f ∧ f.length ≤ 1000 ∧ ∀ H', Same H H' → Q (.bl true) H'
theorem inV_mem {b : Int} {l : List Int} (h : b ∈ l) : inV (.int b) (l.map V.int) = true := by
  unfold inV
  rw [List.any_map, List.any_eq_true]
  exact ⟨b, h, beq_self_eq_true b⟩
theorem all_flat (l : List Int) : (l.map V.int).all flatV = true := by
  rw [List.all_map, List.all_eq_true]
  intro x _
  rfl
section
variable {P : Program} {w : World} {K : PySem.W.Frag} {mg : Str → Option Value} {base : Heap}
theorem ok_is_plan (D : DefAt K mg "_law_is_plan" s_law_is_plan) (T : Txt mg) (h_law_chain : Has P w K mg base CX0 2 "_law_chain" ["_law_found"] (spChain K)) :
    Has P w K mg base CX0 3 "_law_is_plan" ["_law_found", "_law_size"] (spIsPlan K) := by
  obtain ⟨f, fd, F, g⟩ := D.ex
  refine ⟨f, fd, ?_, g, F.kp, funLk F, F.binds fun _ _ _ _ _ _ us hl => match us, hl with | [_, _], _ => rfl⟩
  refine F.ok sc_law_is_plan (fun vs H Q E h => ?_) (fun cdv A outer s H vs Q E hr h => ?_)
  · obtain ⟨a, fs, rfl, _⟩ := h
    rfl
  · obtain ⟨a, fs, rfl, hS, hp, hL, q⟩ := h
    refine ⟨_, (pss_cons (ps_if (PW.pt (pw_or (pt_not (pt_val (pe_callB call_isi (by rfl) T.isinstance bt_isinstance (pa_cons (pv 0) (pa_cons (pe_bltn (v := .ty "tuple") (by rfl) T.tuple bt_tuple rfl) pa_nil))))) (pw_or1 (pt_cmpR op_ne (pe_callB call_len_seq (by rfl) T.len bt_len (pa_cons (pv 0) pa_nil)) (pv 1) (nomark _))))) (pss_one (ps_ret pe_bl)) pss_nil)
      (pss_cons (ps_for PassesOwn.never rfl (pi_range1 (by rfl) T.range (pa_cons (pv 1) pa_nil)) (pg_name (i := 2) sc_law_is_plan.nd rfl (Or.inl rfl)) (pss_cons (ps_if (pt_not (pt_val (pe_callB call_isi (by rfl) T.isinstance bt_isinstance (pa_cons (pe_ix ix_tup (pv 0) (pv 2) (fun _ _ => rfl)) (pa_cons (pe_bltn (v := .ty "int") (by rfl) T.int bt_int rfl) pa_nil))))) (pss_one (ps_ret pe_bl)) pss_nil) (pss_cons (ps_if (pt_val (pe_callB call_isi (by rfl) T.isinstance bt_isinstance (pa_cons (pe_ix ix_tup (pv 0) (pv 2) (fun _ _ => rfl)) (pa_cons (pe_bltn (v := .ty "bool") (by rfl) T.bool bt_bool rfl) pa_nil)))) (pss_one (ps_ret pe_bl)) pss_nil) (pss_one (ps_if (pt_cmpR op_notIn_seq (pe_ix ix_tup (pv 0) (pv 2) (fun _ _ => rfl)) (callH h_law_chain (hr.mono (by decide)) pass0 (by rfl) (pa_cons (pe_slice sl_tupA (pv 0) po_none (po_some (pv 2))) pa_nil)) (by rfl)) (pss_one (ps_ret pe_bl)) pss_nil)))))
      (pss_one (ps_ret pe_bl)))), ?_⟩
    refine ⟨_, rfl, _, _, _, _, _, rfl, .ty _, tupX hS, kit_tup, _, rfl, iteF ?_⟩
    refine ⟨_, rfl, a, _, rfl, .inr hS, _, rfl, rfl, _, rfl, ?_⟩
    rw [List.length_map]
    refine iteNS rfl ?_
    refine ⟨_, rfl, fs.length, rfl, by omega, by omega, ?_⟩
    rw [Int.toNat_natCast]
    refine for_range (lo := 0) (n := fs.length) (fun i σ H' => ∃ y, σ = [some (.ref a), some (.int fs.length), y] ∧ Same H H') ⟨none, rfl, Same.refl H⟩ (fun i σ H' hi hP => ?_) (fun σ H' hP => ?_)
    · obtain ⟨y, rfl, sm⟩ := hP
      have hat : (fs.map V.int)[i]? = some (V.int (fs.getD i 0)) := by
        rw [List.getElem?_map, List.getD_eq_getElem?_getD, List.getElem?_eq_getElem hi]
        rfl
      have hm := hp i hi
      generalize fs.getD i 0 = b at hat hm
      have hix : ∀ {Q : VK} {H' : Hp}, Same H H' → Q (.int b) H' → rIxT K (.ref a) (.int (0 + (i : Int))) H' Q := fun sm q => ⟨a, _, _, _, rfl, rfl, sT sm hS, at_of (by omega) hat, q⟩
      refine ⟨_, rfl, _, rfl, hix sm ?_⟩
      refine ⟨_, _, _, _, _, rfl, .ty _, .base (.int b), kit_int, _, rfl, iteF ?_⟩
      refine ⟨_, rfl, _, rfl, hix sm ?_⟩
      refine ⟨_, _, _, _, _, rfl, .ty _, .base (.int b), kit_int_bool, _, rfl, iteF ?_⟩
      refine ⟨_, rfl, _, rfl, hix sm ?_⟩
      refine ⟨_, rfl, _, rfl, _, rfl, ?_⟩
      refine slA_use (sT sm hS) fun H2 t s2 ht => ?_
      rw [show (0 : Int) + (i : Int) = ((i : Nat) : Int) by omega, cut_to, ← List.map_take] at ht
      refine ⟨t, _, rfl, ht, hp.good.take i, by rw [List.length_take]; omega, fun H3 c s3 nc hc => ?_⟩
      refine ⟨c, _, rfl, .inl (SqL.of hc), rfl, all_flat _, _, rfl, ?_⟩
      rw [inV_mem hm]
      exact iteF ⟨_, rfl, sm.trans (s2.trans s3)⟩
    · obtain ⟨y, rfl, sm⟩ := hP
      exact q H' sm
end
/-! ### _law_least -/
abbrev s_law_least : Stmt := top 41
abbrev N_law_least : List Str := ["_law_size", "_law_far", "_law_found", "_law_column", "_law_full"]
theorem sc_law_least : FnScope N_law_least ["_law_size", "_law_far"] (defScope s_law_least) := ⟨rfl, rfl, rfl, by decide +kernel, rfl, by decide +kernel, by decide +kernel⟩
def spLeast : Sp := fun vs H Q _ => ∃ n q : Nat, vs = [.int n, .int q] ∧ 1 ≤ q ∧ q ≤ 8000 ∧ n ≤ 1000 ∧ ∀ H' p, Same H H' → H' p = some (.lst ((leastL q n).map V.int)) → Q (.ref p) H'
section
variable {P : Program} {w : World} {K : PySem.W.Frag} {mg : Str → Option Value} {base : Heap}
theorem ok_least (D : DefAt K mg "_law_least" s_law_least) (T : Txt mg) : Has P w K mg base CX0 2 "_law_least" ["_law_size", "_law_far"] spLeast := by
  obtain ⟨f, fd, F, g⟩ := D.ex
  refine ⟨f, fd, ?_, g, F.kp, funLk F, F.binds fun _ _ _ _ _ _ us hl => match us, hl with | [_, _], _ => rfl⟩
  refine F.ok sc_law_least (fun vs H Q E h => ?_) (fun cdv A outer s H vs Q E hr h => ?_)
  · obtain ⟨n, m, rfl, _⟩ := h
    rfl
  · obtain ⟨n, m, rfl, h1, hm, hn, q⟩ := h
    refine ⟨_, (pss_cons (ps_set (i := 2) sc_law_least.nd rfl (Or.inl rfl) (pe_lst pa_nil))
      (pss_cons (ps_set (i := 3) sc_law_least.nd rfl (Or.inl rfl) pe_int)
      (pss_cons (ps_set (i := 4) sc_law_least.nd rfl (Or.inl rfl) pe_int)
      (pss_cons (ps_while PassesOwn.never (pt_cmpR op_lt (pe_callB call_len_seq (by rfl) T.len bt_len (pa_cons (pv 2) pa_nil)) (pv 0) (nomark _)) (pss_cons (ps_set (i := 4) sc_law_least.nd rfl (Or.inl rfl) (pe_op op_fdivW (pe_op op_mul (pv 4) (pe_op op_add (pv 3) (pv 1))) (pv 3))) (pss_cons (ps_while PassesOwn.never (PW.pt (pw_and (pt_cmpR op_lt (pe_callB call_len_seq (by rfl) T.len bt_len (pa_cons (pv 2) pa_nil)) (pv 0) (nomark _)) (pw_and1 (pt_cmpR op_lt (pe_op op_add (pe_callB call_len_seq (by rfl) T.len bt_len (pa_cons (pv 2) pa_nil)) pe_int) (pv 4) (nomark _))))) (pss_one (ps_expr (pe_bm PySem.F.plainAttrs_list PySem.F.slot_list_append PySem.F.type_list_append mt_append (pv 2) (pa_cons (pv 3) pa_nil))))) (pss_one (ps_set (i := 3) sc_law_least.nd rfl (Or.inl rfl) (pe_op op_add (pv 3) pe_int))))))
      (pss_one (ps_ret (pv 2))))))), ?_⟩
    refine ⟨Nat.zero_le _, fun p np => ?_⟩
    refine whileI (fun x : Nat × Nat => [some (.int n), some (.int m), some (.ref p), some (.int ((x.2 + 1 : Nat) : Int)), some (.int ((cp x.2 m : Nat) : Int))]) (fun x H' => Same H H' ∧ H' p = some (.lst ((leastL m x.1).map V.int)) ∧ x.1 ≤ n ∧ (cp x.2 m = x.1 + 1 ∨ x.1 = n)) (fun x => n - x.1) (0, 0) (by rw [cp_zero]; rfl)
      ⟨same_new np, upd_same, Nat.zero_le _, .inl (cp_zero m)⟩ (fun x H' hP => ?_)
    obtain ⟨k, c⟩ := x
    obtain ⟨sm, hp, hk, hc⟩ := hP
    replace hp : H' p = some (.lst ((leastL m k).map V.int)) := hp
    replace hk : k ≤ n := hk
    replace hc : cp c m = k + 1 ∨ k = n := hc
    refine ⟨_, rfl, p, _, rfl, .inl (SqL.of hp), _, rfl, _, _, rfl, rfl, _, rfl, ?_⟩
    rw [List.length_map, leastL_len]
    by_cases hkn : k < n
    · rw [decide_eq_true (show ((k : Nat) : Int) < (n : Int) by omega)]
      refine iteT (whileT ?_)
      have hc' : cp c m = k + 1 := by omega
      have hcc := cp_ge c m h1
      -- full = full * (column + far) // column
      refine ⟨_, rfl, _, rfl, _, rfl, _, _, rfl, rfl, _, _, rfl, rfl, .inl ⟨?_, ?_⟩, _, rfl, _, _, rfl, rfl, ⟨?_, ?_⟩, ?_⟩
      · show -(2 ^ 64) < ((cp c m : Nat) : Int)
        omega
      · show ((cp c m : Nat) : Int) < 2 ^ 64
        omega
      · show (0 : Int) < ((c + 1 : Nat) : Int)
        omega
      · show (((c + 1 : Nat) : Int)).natAbs.log2 < 9000
        rw [Int.natAbs_natCast]
        exact Nat.lt_of_le_of_lt (Nat.log2_le_self _) (by omega)
      have ef : ((cp c m : Nat) : Int) * (((c + 1 : Nat) : Int) + (m : Int)) / ((c + 1 : Nat) : Int) = ((cp (c + 1) m : Nat) : Int) := by
        have e := cp_next c m h1
        have e2 : ((cp c m : Nat) : Int) * (((c + 1 : Nat) : Int) + (m : Int)) = ((cp (c + 1) m : Nat) : Int) * ((c + 1 : Nat) : Int) := by
          rw [← Int.natCast_add, ← Int.natCast_mul, ← Int.natCast_mul, e]
        rw [e2]
        exact Int.mul_ediv_cancel _ (by omega)
      show gName 4 (V.int (((cp c m : Nat) : Int) * (((c + 1 : Nat) : Int) + (m : Int)) / ((c + 1 : Nat) : Int))) _ _ _
      rw [ef]
      have hcn := cp_lt c m h1
      -- the inner while
      refine whileI (fun k : Nat => [some (.int n), some (.int m), some (.ref p), some (.int ((c + 1 : Nat) : Int)), some (.int ((cp (c + 1) m : Nat) : Int))]) (fun j H2 => Same H H2 ∧ H2 p = some (.lst ((leastL m j).map V.int)) ∧ k ≤ j ∧ j ≤ n ∧ j + 1 ≤ cp (c + 1) m) (fun j => n - j) k rfl
        ⟨sm, hp, Nat.le_refl _, hk, by omega⟩ (fun j H2 hP => ?_)
      obtain ⟨sm2, hp2, hkj, hjn, hjc⟩ := hP
      have exit : (j = n ∨ j + 1 = cp (c + 1) m) → ∃ y : Nat × Nat, [some (V.int (n : Int)), some (V.int (m : Int)), some (V.ref p), some (V.int (((c + 1 : Nat) : Int) + 1)), some (V.int ((cp (c + 1) m : Nat) : Int))] = [some (V.int (n : Int)), some (V.int (m : Int)), some (V.ref p), some (V.int ((y.2 + 1 : Nat) : Int)), some (V.int ((cp y.2 m : Nat) : Int))] ∧
          (Same H H2 ∧ H2 p = some (.lst ((leastL m y.1).map V.int)) ∧ y.1 ≤ n ∧ (cp y.2 m = y.1 + 1 ∨ y.1 = n)) ∧ n - y.1 < n - k := by
        intro hx
        refine ⟨(j, c + 1), ?_, ⟨sm2, hp2, hjn, ?_⟩, ?_⟩
        · rw [show (((c + 1 : Nat) : Int) + 1) = ((c + 1 + 1 : Nat) : Int) by omega]
        · show cp (c + 1) m = j + 1 ∨ j = n
          omega
        · show n - j < n - k
          omega
      refine ⟨_, rfl, p, _, rfl, .inl (SqL.of hp2), _, rfl, _, _, rfl, rfl, _, rfl, ?_⟩
      rw [List.length_map, leastL_len]
      by_cases hj : j < n
      · rw [decide_eq_true (show ((j : Nat) : Int) < (n : Int) by omega)]
        refine iteT ?_
        refine ⟨_, rfl, p, _, rfl, .inl (SqL.of hp2), _, _, rfl, rfl, _, rfl, _, _, rfl, rfl, _, rfl, ?_⟩
        rw [List.length_map, leastL_len]
        by_cases hj2 : j + 1 < cp (c + 1) m
        · rw [decide_eq_true (show ((j : Nat) : Int) + 1 < ((cp (c + 1) m : Nat) : Int) by omega)]
          refine iteT (whileT ?_)
          have eu : u m (j + 1) = c + 1 := u_eq h1 ⟨hj2, fun d hd => by have := cp_mono (w := d) (v := c) m (by omega); omega⟩
          refine ⟨_, rfl, .inl ⟨rfl, _, SqL.of hp2⟩, _, rfl, p, _, _, rfl, rfl, hp2, by rw [List.length_map, leastL_len]; exact small5 (by omega), ?_⟩
          refine ⟨j + 1, rfl, ⟨same_put sm2 np, ?_, by omega, by omega, by omega⟩, by show n - (j + 1) < n - j; omega⟩
          rw [upd_same, leastL_succ, List.map_append, eu]
          rfl
        · rw [decide_eq_false (show ¬ ((j : Nat) : Int) + 1 < ((cp (c + 1) m : Nat) : Int) by omega)]
          refine iteF ?_
          exact ⟨_, rfl, _, _, rfl, rfl, exit (.inr (by omega))⟩
      · rw [decide_eq_false (show ¬ ((j : Nat) : Int) < (n : Int) by omega)]
        refine iteF (iteF ?_)
        exact ⟨_, rfl, _, _, rfl, rfl, exit (.inl (by omega))⟩
    · rw [decide_eq_false (show ¬ ((k : Nat) : Int) < (n : Int) by omega)]
      refine iteF ?_
      have e : k = n := by omega
      subst e
      exact ⟨_, rfl, q H' p sm hp⟩
end
/-! ### _law_capacity -/
abbrev s_law_capacity : Stmt := top 42
abbrev N_law_capacity : List Str := ["_law_wide", "_law_far", "_law_full", "_law_k"]
theorem sc_law_capacity : FnScope N_law_capacity ["_law_wide", "_law_far"] (defScope s_law_capacity) := ⟨rfl, rfl, rfl, by decide +kernel, rfl, by decide +kernel, by decide +kernel⟩
def spCap : Sp := fun vs H Q _ => ∃ v q : Nat, vs = [.int v, .int q] ∧ v < 2 ^ 110 ∧ q ≤ 40 ∧ Q (.int ((cp v q : Nat) : Int)) H
theorem cp_le_pow (v : Nat) (hv : v < 2 ^ 110) : ∀ k, k ≤ 40 → cp v k < 2 ^ (111 * k + 1)
  | 0, _ => by
    have e : cp v 0 = 1 := ch_zero _
    rw [e]
    decide
  | k + 1, hk => by
    have ih := cp_le_pow v hv k (by omega)
    have e := cp_next_r v k
    have h1 : v + (k + 1) ≤ 2 ^ 111 := by omega
    have h2 : cp v (k + 1) ≤ cp v (k + 1) * (k + 1) := Nat.le_mul_of_pos_right _ (by omega)
    have h3 : cp v k * (v + (k + 1)) ≤ cp v k * 2 ^ 111 := Nat.mul_le_mul (Nat.le_refl _) h1
    have h4 : cp v k * 2 ^ 111 < 2 ^ (111 * k + 1) * 2 ^ 111 := (Nat.mul_lt_mul_right (by decide)).mpr ih
    rw [← Nat.pow_add] at h4
    have e5 : 111 * k + 1 + 111 = 111 * (k + 1) + 1 := by omega
    rw [e5] at h4
    omega
section
variable {P : Program} {w : World} {K : PySem.W.Frag} {mg : Str → Option Value} {base : Heap}
theorem ok_capacity (D : DefAt K mg "_law_capacity" s_law_capacity) (T : Txt mg) : Has P w K mg base CX0 2 "_law_capacity" ["_law_wide", "_law_far"] spCap := by
  obtain ⟨f, fd, F, g⟩ := D.ex
  refine ⟨f, fd, ?_, g, F.kp, funLk F, F.binds fun _ _ _ _ _ _ us hl => match us, hl with | [_, _], _ => rfl⟩
  refine F.ok sc_law_capacity (fun vs H Q E h => ?_) (fun cdv A outer s H vs Q E hr h => ?_)
  · obtain ⟨n, m, rfl, _⟩ := h
    rfl
  · obtain ⟨v, m, rfl, hv, hm, q⟩ := h
    refine ⟨_, (pss_cons (ps_set (i := 2) sc_law_capacity.nd rfl (Or.inl rfl) pe_int)
      (pss_cons (ps_for PassesOwn.never rfl (pi_range2 (by rfl) T.range (pa_cons pe_int (pa_cons (pe_op op_add (pv 1) pe_int) pa_nil))) (pg_name (i := 3) sc_law_capacity.nd rfl (Or.inl rfl)) (pss_one (ps_set (i := 2) sc_law_capacity.nd rfl (Or.inl rfl) (pe_op op_fdivW (pe_op op_mulW (pv 2) (pe_op op_add (pv 0) (pv 3))) (pv 3)))))
      (pss_one (ps_ret (pv 2))))), ?_⟩
    refine ⟨_, rfl, _, _, rfl, rfl, 1, (m : Int) + 1, rfl, ⟨by decide, by decide, by omega, by omega⟩, ?_⟩
    have en : ((m : Int) + 1 - 1).toNat = m := by omega
    rw [en]
    refine for_range (lo := 1) (n := m) (fun i σ H' => ∃ y, σ = [some (.int v), some (.int m), some (.int ((cp v i : Nat) : Int)), y] ∧ H' = H) ⟨none, ?_, rfl⟩ (fun i σ H' hi hP => ?_) (fun σ H' hP => ?_)
    · rw [show cp v 0 = 1 from ch_zero _]
      rfl
    · obtain ⟨y, rfl, rfl⟩ := hP
      have hb := cp_le_pow v hv i (by omega)
      have ev : (v : Int) + (1 + (i : Int)) = ((v + (i + 1) : Nat) : Int) := by omega
      have hb2 : ((cp v i : Nat) : Int).natAbs < 2 ^ 4442 := by
        rw [Int.natAbs_natCast]
        exact Nat.lt_of_lt_of_le hb (Nat.pow_le_pow_right (by decide) (by omega))
      have hb3 : ((v : Int) + (1 + (i : Int))).natAbs < 2 ^ 112 := by
        rw [ev, Int.natAbs_natCast]
        omega
      refine ⟨_, rfl, _, rfl, _, rfl, _, _, rfl, rfl, _, _, rfl, rfl, wide_mul hb2 hb3 (by decide) (by decide) (by decide), _, rfl, _, _, rfl, rfl, ⟨?_, ?_⟩, ?_⟩
      · show (0 : Int) < 1 + (i : Int)
        omega
      · show (1 + (i : Int)).natAbs.log2 < 9000
        exact Nat.lt_of_le_of_lt (Nat.log2_le_self _) (by omega)
      · refine ⟨some (.int (1 + (i : Int))), ?_, rfl⟩
        have ef : ((cp v i : Nat) : Int) * ((v : Int) + (1 + (i : Int))) / (1 + (i : Int)) = ((cp v (i + 1) : Nat) : Int) := by
          rw [ev, ← Int.natCast_mul, cp_next_r v i, Int.natCast_mul]
          have e1 : (1 : Int) + (i : Int) = ((i + 1 : Nat) : Int) := by omega
          rw [e1]
          exact Int.mul_ediv_cancel _ (by omega)
        show [some (V.int (v : Int)), some (V.int (m : Int)), some (V.int (((cp v i : Nat) : Int) * ((v : Int) + (1 + (i : Int))) / (1 + (i : Int)))), some (V.int (1 + (i : Int)))] = _
        rw [ef]
    · obtain ⟨y, rfl, rfl⟩ := hP
      exact ⟨_, rfl, q⟩
end
/-! ### _law_none_less, _law_widest -/
abbrev s_law_none_less : Stmt := top 43
abbrev N_law_none_less : List Str := ["_law_counts", "_law_due", "_law_k"]
theorem sc_law_none_less : FnScope N_law_none_less ["_law_counts", "_law_due"] (defScope s_law_none_less) := ⟨rfl, rfl, rfl, by decide +kernel, rfl, by decide +kernel, by decide +kernel⟩
abbrev s_law_widest : Stmt := top 46
abbrev N_law_widest : List Str := ["_law_far"]
theorem sc_law_widest : FnScope N_law_widest ["_law_far"] (defScope s_law_widest) := ⟨rfl, rfl, rfl, by decide +kernel, rfl, by decide +kernel, by decide +kernel⟩
def spNoneLess (K : PySem.W.Frag) : Sp := fun vs H Q _ => ∃ (a b : Addr) (xs ys : List Int), vs = [.ref a, .ref b] ∧ SqL K H a (xs.map V.int) ∧ SqL K H b (ys.map V.int) ∧ xs.length = ys.length ∧ ys.length ≤ 1000 ∧ (∀ (i : Nat) x y, xs[i]? = some x → ys[i]? = some y → y ≤ x) ∧ ∀ H', Same H H' → Q (.bl true) H'
def spWidest : Sp := fun vs H Q _ => ∃ q : Nat, vs = [.int q] ∧ ∀ r : Nat, 1 ≤ r → r ≤ 10 ^ 20 → Q (.int ((r : Nat) : Int)) H
section
variable {P : Program} {w : World} {K : PySem.W.Frag} {mg : Str → Option Value} {base : Heap}
theorem ok_none_less (D : DefAt K mg "_law_none_less" s_law_none_less) (T : Txt mg) : Has P w K mg base CX0 2 "_law_none_less" ["_law_counts", "_law_due"] (spNoneLess K) := by
  obtain ⟨f, fd, F, g⟩ := D.ex
  refine ⟨f, fd, ?_, g, F.kp, funLk F, F.binds fun _ _ _ _ _ _ us hl => match us, hl with | [_, _], _ => rfl⟩
  refine F.ok sc_law_none_less (fun vs H Q E h => ?_) (fun cdv A outer s H vs Q E hr h => ?_)
  · obtain ⟨a, b, xs, ys, rfl, _⟩ := h
    rfl
  · obtain ⟨a, b, xs, ys, rfl, hA, hB, hl, hL, hle, q⟩ := h
    refine ⟨_, (pss_one (ps_ret (pe_cmpR op_eq (pe_callB call_len_seq (by rfl) T.len bt_len (pa_cons (pe_lc (own := [("_law_k", 2)]) (g := gName 2) rfl sc_law_none_less.nd (pi_range1 (by rfl) T.range (pa_cons (pe_callB call_len_seq (by rfl) T.len bt_len (pa_cons (pv 1) pa_nil)) pa_nil)) (blkOk_by (own := [("_law_k", 2)]) (N := N_law_none_less) (sc := (defScope s_law_none_less)) (by decide +kernel)) (fun _ _ _ _ _ => pg_name (i := 2) sc_law_none_less.nd rfl (Or.inl rfl)) (fun _ _ _ _ _ => pts_one (pt_cmpR op_lt (pe_ix (kv_ixL K) (pv 0) (pv 2) (fun _ _ => rfl)) (pe_ix (kv_ixL K) (pv 1) (pv 2) (fun _ _ => rfl)) (nomark _))) (fun _ _ _ _ _ => (pv 2))) pa_nil)) pe_int (nomark _)))), ?_⟩
    refine ⟨_, rfl, b, _, rfl, .inl hB, ?_⟩
    rw [List.length_map]
    refine ⟨ys.length, rfl, by omega, by omega, fun D nD => ?_⟩
    rw [Int.toNat_natCast]
    refine lc_range (lo := 0) (n := ys.length) (fun i H' => Same H H' ∧ H' D = some (.lst [])) ⟨same_new nD, upd_same⟩ (fun i H' hi hP => ?_) (fun H' hP => ?_)
    · obtain ⟨sm, hD⟩ := hP
      have hx : (xs.map V.int)[i]? = some (V.int xs[i]) := by
        rw [List.getElem?_map, List.getElem?_eq_getElem (show i < xs.length by omega)]
        rfl
      have hy : (ys.map V.int)[i]? = some (V.int ys[i]) := by
        rw [List.getElem?_map, List.getElem?_eq_getElem hi]
        rfl
      have hi2 : i < xs.length := by omega
      have hxy : ys[i] ≤ xs[i] := hle i _ _ (List.getElem?_eq_getElem hi2) (List.getElem?_eq_getElem hi)
      refine ⟨rfl, _, rfl, _, rfl, a, _, _, _, rfl, rfl, sm.seq hA, at_of (j := i) (by omega) hx, _, rfl, _, rfl, b, _, _, _, rfl, rfl, sm.seq hB, at_of (j := i) (by omega) hy, _, _, rfl, rfl, _, rfl, ?_⟩
      rw [decide_eq_false (by omega)]
      refine iteF ⟨sm, hD⟩
    · obtain ⟨sm, hD⟩ := hP
      refine ⟨D, _, rfl, .inl (SqL.of hD), rfl, ?_⟩
      exact q H' sm
theorem ok_widest (D : DefAt K mg "_law_widest" s_law_widest) (T : Txt mg) : Has P w K mg base CX0 2 "_law_widest" ["_law_far"] spWidest := by
  obtain ⟨f, fd, F, g⟩ := D.ex
  refine ⟨f, fd, ?_, g, F.kp, funLk F, F.binds fun _ _ _ _ _ _ us hl => match us, hl with | [_], _ => rfl⟩
  refine F.ok sc_law_widest (fun vs H Q E h => ?_) (fun cdv A outer s H vs Q E hr h => ?_)
  · obtain ⟨m, rfl, _⟩ := h
    rfl
  · obtain ⟨m, rfl, q⟩ := h
    refine ⟨_, (pss_cons (ps_if (pt_cmpR op_eq (pv 0) pe_int (nomark _)) (pss_one (ps_ret (pe_op op_pow pe_int pe_int))) pss_nil)
      (pss_cons (ps_if (pt_cmpR op_lt (pv 0) pe_int (nomark _)) (pss_one (ps_ret (pe_op op_pow pe_int pe_int))) pss_nil)
      (pss_cons (ps_if (pt_cmpR op_lt (pv 0) pe_int (nomark _)) (pss_one (ps_ret (pe_op op_pow pe_int pe_int))) pss_nil)
      (pss_cons (ps_if (pt_cmpR op_lt (pv 0) pe_int (nomark _)) (pss_one (ps_ret pe_int)) pss_nil)
      (pss_cons (ps_if (pt_cmpR op_lt (pv 0) pe_int (nomark _)) (pss_one (ps_ret pe_int)) pss_nil)
      (pss_one (ps_ret pe_int))))))), ?_⟩
    refine ⟨_, rfl, rfl, _, rfl, ite2 (fun _ => ⟨_, _, rfl, rfl, ⟨by decide, by decide, by decide⟩, q (10 ^ 20) (by decide) (by decide)⟩) fun _ => ?_⟩
    refine ⟨_, rfl, _, _, rfl, rfl, _, rfl, ite2 (fun _ => ⟨_, _, rfl, rfl, ⟨by decide, by decide, by decide⟩, q (10 ^ 9) (by decide) (by decide)⟩) fun _ => ?_⟩
    refine ⟨_, rfl, _, _, rfl, rfl, _, rfl, ite2 (fun _ => ⟨_, _, rfl, rfl, ⟨by decide, by decide, by decide⟩, q (10 ^ 6) (by decide) (by decide)⟩) fun _ => ?_⟩
    refine ⟨_, rfl, _, _, rfl, rfl, _, rfl, ite2 (fun _ => q 2900 (by decide) (by decide)) fun _ => ?_⟩
    refine ⟨_, rfl, _, _, rfl, rfl, _, rfl, ite2 (fun _ => q 200 (by decide) (by decide)) fun _ => ?_⟩
    exact q 60 (by decide) (by decide)
end
end K26
namespace K26
open PySem PySem.Spec PyProof.Rows L2
/-! ### _law_sorted -/
abbrev s_law_sorted : Stmt := top 40
abbrev N_law_sorted : List Str := ["_law_found", "_law_reads", "_law_base", "_law_size", "_law_writes", "_law_z", "_law_e"]
theorem sc_law_sorted : FnScope N_law_sorted ["_law_found"] (defScope s_law_sorted) := ⟨rfl, rfl, rfl, by decide +kernel, rfl, by decide +kernel, by decide +kernel⟩
def spSorted (K : PySem.W.Frag) : Sp := fun vs H Q _ => ∃ (a : Addr) (f : List Int), vs = [.ref a] ∧ SqT K H a (f.map V.int) ∧ Good f ∧ f.length ≤ 60 ∧
  ∀ H' p b c, Same H H' → H p = none → H b = none → H c = none → H' p = some (.tup [.ref b, .ref c]) → H' b = some (.lst ((sortW f).map V.int)) → H' c = some (.lst ((sortR f).map V.int)) → Q (.ref p) H'
theorem none_back {H H' : Hp} {a : Addr} (s : Same H H') (h : H' a = none) : H a = none := by
  cases e : H a with
  | none => rfl
  | some o =>
    have := s a o e
    rw [h] at this
    cases this
def wrAt (f : List Int) (e : Nat) (b : Int) : Int := if b < ((e : Nat) : Int) + 1 then (1 : Int) else 0
theorem writes_take (f : List Int) (i : Nat) (h : i < f.length) : (writesOf f).take (i + 1) = (writesOf f).take i ++ [((f.drop i).map (wrAt f i)).sum] := by
  rw [List.take_add_one]
  congr 1
  unfold writesOf
  rw [List.getElem?_map, List.getElem?_range h]
  rfl
section
variable {P : Program} {w : World} {K : PySem.W.Frag} {mg : Str → Option Value} {base : Heap}
theorem ok_sorted (D : DefAt K mg "_law_sorted" s_law_sorted) (T : Txt mg) : Has P w K mg base CX0 2 "_law_sorted" ["_law_found"] (spSorted K) := by
  obtain ⟨f, fd, F, g⟩ := D.ex
  refine ⟨f, fd, ?_, g, F.kp, funLk F, F.binds fun _ _ _ _ _ _ us hl => match us, hl with | [_], _ => rfl⟩
  refine F.ok sc_law_sorted (fun vs H Q E h => ?_) (fun cdv A outer s H vs Q E hr h => ?_)
  · obtain ⟨a, fs, rfl, _⟩ := h
    rfl
  · obtain ⟨a, fs, rfl, hS, hG, hL, q⟩ := h
    refine ⟨_, (pss_cons (ps_set (i := 1) sc_law_sorted.nd rfl (Or.inl rfl) (pe_lst (pa_cons pe_int pa_nil)))
      (pss_cons (ps_for PassesOwn.never rfl (pi_tup (pv 0)) (pg_name (i := 2) sc_law_sorted.nd rfl (Or.inl rfl)) (pss_one (ps_expr (pe_bm PySem.F.plainAttrs_list PySem.F.slot_list_append PySem.F.type_list_append mt_append (pv 1) (pa_cons (pe_op op_add (pe_ix ix_list (pv 1) (pv 2) (fun _ _ => rfl)) pe_int) pa_nil)))))
      (pss_cons (ps_set (i := 3) sc_law_sorted.nd rfl (Or.inr rfl) (pe_callB call_len_seq (by rfl) T.len bt_len (pa_cons (pv 0) pa_nil)))
      (pss_cons (ps_setLc (i := 4) (own := [("_law_e", 6)]) (g := gName 6) rfl sc_law_sorted.nd rfl rfl (sw_true rfl rfl rfl (by decide +kernel)) (pi_range2 (by rfl) T.range (pa_cons pe_int (pa_cons (pe_op op_add (pv 3) pe_int) pa_nil))) (blkOk_by (own := [("_law_e", 6)]) (N := N_law_sorted) (sc := (defScope s_law_sorted)) (by decide +kernel)) (fun _ _ _ _ _ => pg_name (i := 6) sc_law_sorted.nd rfl (Or.inr rfl)) (fun _ _ _ _ _ => pts_nil) (fun _ _ _ _ _ => (pe_callB (kv_sum K rfl) (by rfl) T.sum bt_sum (pa_cons (pe_lc (own := [("_law_z", 5)]) (g := gName 5) rfl sc_law_sorted.nd (pi_range2 (by rfl) T.range (pa_cons (pv 6) (pa_cons (pe_op op_add (pv 3) pe_int) pa_nil))) (blkOk_by (own := [("_law_z", 5)]) (N := N_law_sorted) (sc := (relS (lcSc (asgVal ((defBody s_law_sorted).getD 3 (.Pass ⟨0, 0, 0, 0⟩)))) (defScope s_law_sorted))) (by decide +kernel)) (fun _ _ _ _ _ => pg_name (i := 5) sc_law_sorted.nd rfl (Or.inl rfl)) (fun _ _ _ _ _ => pts_nil) (fun _ _ _ _ _ => (pe_callTy call_int1 (by rfl) T.int bt_int (pa_cons (pe_cmpR op_lt (pe_ix (kv_ixT K) (pv 0) (pe_op op_sub (pv 5) pe_int) (fun _ _ => rfl)) (pv 6) (nomark _)) pa_nil)))) pa_nil))))
      (pss_one (ps_ret (pe_tup (pa_cons (pe_callB cr_sorted (by rfl) T.sorted bt_sorted (pa_cons (pv 4) pa_nil)) (pa_cons (pe_callB cr_sorted (by rfl) T.sorted bt_sorted (pa_cons (pe_slice sl_list (pv 1) (po_some pe_int) po_none) pa_nil)) pa_nil))))))))), ?_⟩
    refine ⟨by show 1 ≤ sizeLine; decide, fun p np => ?_⟩
    have s1 := same_new (o := HO.lst [.int 0]) np
    refine ⟨_, rfl, a, rfl, ⟨_, sT s1 hS⟩, for_tup (K := K) (a := a) (xs := fs.map V.int)
      (fun i σ H' => ∃ acc y, σ = [some (.ref a), some (.ref p), y, none, none, none, none] ∧ Same H H' ∧ H' p = some (.lst (acc.map V.int)) ∧ readsGo acc (fs.drop i) = readsOf fs ∧ acc.length = i + 1)
      ⟨[0], none, rfl, s1, upd_same, rfl, rfl⟩ (fun i σ H' _ ⟨_, _, _, sm, _⟩ => sT sm hS) (fun i x σ H' hx hP => ?_) (fun σ H' hP => ?_)⟩
    · obtain ⟨acc, y, rfl, sm, hp, hgo, hl⟩ := hP
      obtain ⟨b, hb, rfl⟩ := get_int hx
      obtain ⟨hi, eb⟩ := List.getElem?_eq_some_iff.mp hb
      rw [drop_at hb] at hgo
      have hg := hG i hi
      rw [List.getD_eq_getElem?_getD, hb] at hg
      have hg0 : 0 ≤ b := hg.1
      have hg1 : b ≤ (i : Int) := hg.2
      have hat : (acc.map V.int)[b.toNat]? = some (V.int (acc.getD b.toNat 0)) := by
        rw [List.getElem?_map, List.getD_eq_getElem?_getD, List.getElem?_eq_getElem (show b.toNat < acc.length by omega)]
        rfl
      refine ⟨_, rfl, .inl ⟨rfl, _, SqL.of hp⟩, _, rfl, _, rfl, p, _, _, _, rfl, rfl, SqL.of hp, at_of (j := b.toNat) (by omega) hat, _, _, rfl, rfl, p, _, _, rfl, rfl, hp, by rw [List.length_map]; exact small5 (by omega), ?_⟩
      refine ⟨acc ++ [acc.getD b.toNat 0 + 1], some (.int b), rfl, same_put sm np, ?_, hgo, by rw [List.length_append, hl]; rfl⟩
      rw [upd_same, List.map_append]
      rfl
    · obtain ⟨acc, y, rfl, sm, hp, hgo, hl⟩ := hP
      rw [List.length_map] at hl hgo
      rw [List.drop_of_length_le (Nat.le_refl _)] at hgo
      have eacc : acc = readsOf fs := hgo
      subst eacc
      -- size = len(found)
      refine ⟨_, rfl, a, _, rfl, .inr (sT sm hS), ?_⟩
      rw [List.length_map]
      -- writes
      refine ⟨_, rfl, _, _, rfl, rfl, 1, _, rfl, ⟨by decide, by decide, by omega, by omega⟩, fun D nD => ?_⟩
      rw [show ((fs.length : Int) + 1 - 1).toNat = fs.length by omega]
      refine lc_range (lo := 1) (n := fs.length) (fun i H2 => Same H' H2 ∧ H2 D = some (.lst (((writesOf fs).take i).map V.int))) ⟨same_new nD, upd_same⟩ (fun i H2 hi hP => ?_) (fun H2 hP => ?_)
      · obtain ⟨s2, hD⟩ := hP
        refine ⟨rfl, _, rfl, _, rfl, _, _, rfl, rfl, _, _, rfl, ⟨?_, ?_, ?_, ?_⟩, fun D2 nD2 => ?_⟩
        · omega
        · omega
        · omega
        · omega
        rw [show ((fs.length : Int) + 1 - (1 + (i : Int))).toNat = fs.length - i by omega]
        refine lc_range (lo := 1 + (i : Int)) (n := fs.length - i) (fun k H3 => Same H2 H3 ∧ H3 D2 = some (.lst ((((fs.drop i).take k).map (wrAt fs i)).map V.int))) ⟨same_new nD2, upd_same⟩ (fun k H3 hk hP => ?_) (fun H3 hP => ?_)
        · obtain ⟨s3, hD2⟩ := hP
          have hik : i + k < fs.length := by omega
          have hat : (fs.map V.int)[i + k]? = some (V.int fs[i + k]) := by
            rw [List.getElem?_map, List.getElem?_eq_getElem hik]
            rfl
          have hdr : (fs.drop i)[k]? = some fs[i + k] := by
            rw [List.getElem?_drop, List.getElem?_eq_getElem hik]
          generalize fs[i + k] = b at hat hdr
          refine ⟨rfl, _, rfl, _, rfl, _, _, rfl, rfl, a, _, _, _, rfl, rfl, sT (sm.trans (s2.trans s3)) hS, at_of (j := i + k) (by show 1 + (i : Int) + (k : Int) - 1 = _; omega) hat, _, rfl, _, _, rfl, rfl, .inr ⟨_, rfl, _, hD2, ?_, same_put s3 nD2, ?_⟩⟩
          · rw [List.length_map, List.length_map, List.length_take]
            exact small5 (by omega)
          · rw [upd_same, List.take_add_one, hdr, List.map_append, List.map_append]
            have ew : (if decide (b < 1 + (i : Int)) = true then (1 : Int) else 0) = wrAt fs i b := by
              unfold wrAt
              by_cases hb : b < 1 + (i : Int)
              · rw [decide_eq_true hb, if_pos rfl, if_pos (by omega)]
              · rw [decide_eq_false hb, if_neg Bool.false_ne_true, if_neg (by omega)]
            show some (HO.lst (_ ++ [V.int (if decide (b < 1 + (i : Int)) = true then (1 : Int) else 0)])) = _
            rw [ew]
            rfl
        · obtain ⟨s3, hD2⟩ := hP
          rw [List.take_of_length_le (by rw [List.length_drop]; exact Nat.le_refl _)] at hD2
          refine ⟨D2, _, rfl, SqL.of hD2, _, s3 _ _ hD, ?_, same_put (s2.trans s3) nD, ?_⟩
          · rw [List.length_map, List.length_take]
            exact small5 (by omega)
          · rw [upd_same, writes_take fs i hi, List.map_append]
            rfl
      · obtain ⟨s2, hD⟩ := hP
        rw [List.take_of_length_le (by rw [writes_len]; exact Nat.le_refl _)] at hD
        -- return
        refine ⟨_, rfl, D, _, rfl, SqL.of hD, by rw [writes_len]; omega, fun ws b pw sw nb => ?_⟩
        have ew : ws = sortW fs := isort_eq pw sw
        subst ew
        have s3 := same_new (o := HO.lst ((sortW fs).map V.int)) nb
        have hp3 := s3 _ _ (s2 _ _ hp)
        refine ⟨_, rfl, _, rfl, ?_⟩
        unfold tNoPart
        refine ⟨p, _, rfl, SqL.of hp3, fun z nz => ?_⟩
        have ec : cutV ((readsOf fs).map V.int) (some 1) none = ((readsOf fs).drop 1).map V.int := by
          rw [show (1 : Int) = ((1 : Nat) : Int) from rfl, cut_from, List.map_drop]
        rw [ec]
        have s4 := same_new (o := HO.lst (((readsOf fs).drop 1).map V.int)) nz
        refine ⟨z, _, rfl, SqL.new, by rw [List.length_drop, reads_len]; omega, fun rs c pr sr nc => ?_⟩
        have er : rs = sortR fs := isort_eq pr sr
        subst er
        have s5 := same_new (o := HO.lst ((sortR fs).map V.int)) nc
        refine ⟨by show 2 ≤ sizeLine; decide, fun t nt => ?_⟩
        have s6 := same_new (o := HO.tup [V.ref b, V.ref c]) nt
        exact q _ t b c (sm.trans (s2.trans (s3.trans (s4.trans (s5.trans s6))))) (none_back (sm.trans (s2.trans (s3.trans (s4.trans s5)))) nt) (none_back (sm.trans s2) nb) (none_back (sm.trans (s2.trans (s3.trans s4))) nc) upd_same (s6 _ _ (s5 _ _ (s4 _ _ upd_same))) (s6 _ _ upd_same)
end
end K26
namespace K26
open PySem PySem.Spec PyProof.Rows L2
/-! ### _law_all -/
abbrev s_law_all : Stmt := top 38
abbrev N_law_all : List Str := ["_law_size", "_law_plans", "_law_v", "_law_grown", "_law_found", "_law_base"]
theorem sc_law_all : FnScope N_law_all ["_law_size"] (defScope s_law_all) := ⟨rfl, rfl, rfl, by decide +kernel, rfl, by decide +kernel, by decide +kernel⟩
def TupsAt (K : PySem.W.Frag) (H : Hp) (xs : List V) (ps : List (List Int)) : Prop := Paired (TupAtI K H) xs ps
theorem TupsAt.same {K : PySem.W.Frag} {H H' : Hp} {xs : List V} {ps : List (List Int)} (s : Same H H') (h : TupsAt K H xs ps) : TupsAt K H' xs ps :=
  paired_imp (fun _ _ ⟨a, e, q⟩ => ⟨a, e, sT s q⟩) h
theorem TupsAt.lst {K : PySem.W.Frag} {H : Hp} {p : Addr} {xs zs : List V} {ps : List (List Int)} {o : HO} (hp : H p = some (.lst zs)) (h : TupsAt K H xs ps) : TupsAt K (upd H p o) xs ps :=
  paired_imp (fun _ _ ⟨a, e, q⟩ => ⟨a, e, sTl hp q⟩) h
theorem paired_snoc {α β : Type} {F : α → β → Prop} {a : α} {b : β} (r : F a b) : ∀ {xs : List α} {ys : List β}, Paired F xs ys → Paired F (xs ++ [a]) (ys ++ [b])
  | _, _, .nil => .cons r .nil
  | _, _, .cons q t => .cons q (paired_snoc r t)
theorem paired_get {α β : Type} {F : α → β → Prop} : ∀ {xs : List α} {ys : List β} {i : Nat} {x : α}, Paired F xs ys → xs[i]? = some x → ∃ y, ys[i]? = some y ∧ F x y
  | _, _, _, _, .nil, h => by simp at h
  | _, _, 0, x, .cons r _, h => by
    have e := Option.some.inj h
    subst e
    exact ⟨_, rfl, r⟩
  | _, _, i + 1, x, .cons _ t, h => paired_get (i := i) t h
theorem all_small : ∀ i, i < 7 → (allM i).length ≤ 1000 := by decide +kernel
def grow (f : List Int) : List (List Int) := (chainM f).map fun b => f ++ [b]
theorem allM_succ (n : Nat) : allM (n + 1) = (allM n).flatMap grow := rfl
theorem flat_take {l : List (List Int)} {j : Nat} {f : List Int} (h : l[j]? = some f) : (l.take (j + 1)).flatMap grow = (l.take j).flatMap grow ++ grow f := by
  rw [List.take_add_one, h, List.flatMap_append]
  simp
theorem flat_len {l : List (List Int)} {j : Nat} {f : List Int} (h : l[j]? = some f) : ((l.take j).flatMap grow).length + (chainM f).length ≤ (l.flatMap grow).length := by
  have e : l = l.take (j + 1) ++ l.drop (j + 1) := (List.take_append_drop _ _).symm
  have e2 : (l.flatMap grow).length = ((l.take (j + 1)).flatMap grow).length + ((l.drop (j + 1)).flatMap grow).length := by
    conv => lhs; rw [e]
    rw [List.flatMap_append, List.length_append]
  rw [e2, flat_take h, List.length_append]
  unfold grow
  rw [List.length_map]
  omega
def spAll (K : PySem.W.Frag) : Sp := fun vs H Q _ => ∃ n : Nat, vs = [.int n] ∧ n ≤ 6 ∧ ∀ H' p xs, Same H H' → H' p = some (.lst xs) → TupsAt K H' xs (allM n) → Q (.ref p) H'
section
variable {P : Program} {w : World} {K : PySem.W.Frag} {mg : Str → Option Value} {base : Heap}
theorem ok_all (D : DefAt K mg "_law_all" s_law_all) (T : Txt mg) (h_law_chain : Has P w K mg base CX0 2 "_law_chain" ["_law_found"] (spChain K)) : Has P w K mg base CX0 3 "_law_all" ["_law_size"] (spAll K) := by
  obtain ⟨f, fd, F, g⟩ := D.ex
  refine ⟨f, fd, ?_, g, F.kp, funLk F, F.binds fun _ _ _ _ _ _ us hl => match us, hl with | [_], _ => rfl⟩
  refine F.ok sc_law_all (fun vs H Q E h => ?_) (fun cdv A outer s H vs Q E hr h => ?_)
  · obtain ⟨n, rfl, _⟩ := h
    rfl
  · obtain ⟨n, rfl, hn, q⟩ := h
    refine ⟨_, (pss_cons (ps_set (i := 1) sc_law_all.nd rfl (Or.inl rfl) (pe_lst (pa_cons (pe_tup pa_nil) pa_nil)))
      (pss_cons (ps_for PassesOwn.never rfl (pi_range1 (by rfl) T.range (pa_cons (pv 0) pa_nil)) (pg_name (i := 2) sc_law_all.nd rfl (Or.inl rfl)) (pss_cons (ps_set (i := 3) sc_law_all.nd rfl (Or.inl rfl) (pe_lst pa_nil)) (pss_cons (ps_for PassesOwn.never rfl (pi_list (pe_callTy call_list_of (by rfl) T.list bt_list (pa_cons (pv 1) pa_nil))) (pg_name (i := 4) sc_law_all.nd rfl (Or.inl rfl)) (pss_one (ps_for PassesOwn.never rfl (pi_list (callH h_law_chain (hr.mono (by decide)) pass0 (by rfl) (pa_cons (pv 4) pa_nil))) (pg_name (i := 5) sc_law_all.nd rfl (Or.inl rfl)) (pss_one (ps_expr (pe_bm PySem.F.plainAttrs_list PySem.F.slot_list_append PySem.F.type_list_append mt_append (pv 3) (pa_cons (pe_op op_catA (pv 4) (pe_tup (pa_cons (pv 5) pa_nil))) pa_nil))))))) (pss_one (ps_set (i := 1) sc_law_all.nd rfl (Or.inl rfl) (pv 3))))))
      (pss_one (ps_ret (pv 1))))), ?_⟩
    refine ⟨Nat.zero_le _, fun t nt => ⟨by show 1 ≤ sizeLine; decide, fun p0 np0 => ?_⟩⟩
    have st := same_new (o := HO.tup []) nt
    refine ⟨_, rfl, n, rfl, by omega, by omega, ?_⟩
    rw [Int.toNat_natCast]
    refine for_range (lo := 0) (n := n) (fun i σ H' => ∃ pl xs y2 y3 y4 y5, σ = [some (.int n), some (.ref pl), y2, y3, y4, y5] ∧ Same H H' ∧ H' pl = some (.lst xs) ∧ TupsAt K H' xs (allM i))
      ⟨p0, _, none, none, none, none, rfl, st.trans (same_new np0), upd_same, .cons ⟨t, rfl, sT (same_new np0) SqT.new⟩ .nil⟩ (fun i σ H1 hi hP => ?_) (fun σ H1 hP => ?_)
    · obtain ⟨pl, xs, y2, y3, y4, y5, rfl, sm, hpl, hT⟩ := hP
      have hsm := all_small (i + 1) (by omega)
      rw [allM_succ] at hsm
      -- grown = []
      refine ⟨Nat.zero_le _, fun gr ng => ?_⟩
      have sg := same_new (o := HO.lst []) ng
      -- list(plans)
      refine ⟨_, rfl, pl, _, rfl, .inl (SqL.of (sg _ _ hpl)), fun c nc => ?_⟩
      have scn := same_new (o := HO.lst xs) nc
      have hgr : (upd (upd H1 gr (.lst [])) c (.lst xs)) gr = some (.lst []) := scn _ _ upd_same
      have ngc : gr ≠ c := by
        intro z
        rw [← z, upd_same] at nc
        cases nc
      have s02 : Same H1 (upd (upd H1 gr (.lst [])) c (.lst xs)) := sg.trans scn
      refine ⟨c, rfl, ⟨_, SqL.new⟩, for_list (K := K) (a := c) (xs := xs) (fun j σ H2 => ∃ ys y4 y5, σ = [some (.int n), some (.ref pl), some (.int (0 + (i : Int))), some (.ref gr), y4, y5] ∧ Same H1 H2 ∧ H2 c = some (.lst xs) ∧ H2 gr = some (.lst ys) ∧ TupsAt K H2 ys (((allM i).take j).flatMap grow))
        ⟨[], _, _, rfl, s02, upd_same, hgr, .nil⟩ (fun j σ H2 _ ⟨_, _, _, _, _, h, _⟩ => SqL.of h) (fun j x σ H2 hx hP => ?_) (fun σ H2 hP => ?_)⟩
      · obtain ⟨ys, y4, y5, rfl, s2, hc, hg2, hT2⟩ := hP
        obtain ⟨fs, hfs, a, rfl, ha⟩ := paired_get hT hx
        have ha2 := sT s2 ha
        obtain ⟨pfs, lfs⟩ := allM_plan i fs (List.mem_of_getElem? hfs)
        have hfl := flat_len hfs
        refine ⟨_, rfl, a, fs, rfl, ha2, pfs.good, by omega, fun H3 d s3 nd hd => ?_⟩
        have hdg : d ≠ gr := fun z => by
          rw [z, hg2] at nd
          cases nd
        have hg3 := s3 _ _ hg2
        have hc3 := s3 _ _ hc
        have hdc : d ≠ c := fun z => by
          rw [z, hc] at nd
          cases nd
        refine ⟨d, rfl, ⟨_, SqL.of hd⟩, for_list (K := K) (a := d) (xs := (chainM fs).map V.int) (fun k σ H4 => ∃ ys y5, σ = [some (.int n), some (.ref pl), some (.int (0 + (i : Int))), some (.ref gr), some (.ref a), y5] ∧ Same H1 H4 ∧ H4 c = some (.lst xs) ∧ H4 d = some (.lst ((chainM fs).map V.int)) ∧ H4 gr = some (.lst ys) ∧ SqT K H4 a (fs.map V.int) ∧
            TupsAt K H4 ys (((allM i).take j).flatMap grow ++ ((chainM fs).take k).map fun b => fs ++ [b]))
          ⟨ys, _, rfl, s2.trans s3, hc3, hd, hg3, sT s3 ha2, by rw [List.take_zero, List.map_nil, List.append_nil]; exact hT2.same s3⟩ (fun k σ H4 _ ⟨_, _, _, _, _, h, _⟩ => SqL.of h) (fun k x σ H4 hx hP => ?_) (fun σ H4 hP => ?_)⟩
        · obtain ⟨ys, y5, rfl, s4, hc4, hd4, hg4, ha4, hT4⟩ := hP
          obtain ⟨b, hb, rfl⟩ := get_int hx
          have hk : k < (chainM fs).length := (List.getElem?_eq_some_iff.mp hb).1
          have hyl : ys.length = ((allM i).take j |>.flatMap grow).length + k := by
            have := Paired.length hT4
            rw [this, List.length_append, List.length_map, List.length_take]
            omega
          refine ⟨_, rfl, .inl ⟨rfl, _, SqL.of hg4⟩, _, rfl, _, rfl, by show 1 ≤ sizeLine; decide, fun t2 nt2 => ?_⟩
          have s5 := same_new (o := HO.tup [V.int b]) nt2
          refine catA_use (sT s5 ha4) SqT.new (by rw [List.length_map]; show fs.length + 1 ≤ sizeLine; exact Nat.le_of_lt (small5 (by omega))) fun H6 p6 s6 h6 => ?_
          have s46 := s5.trans s6
          have hg6 := s46 _ _ hg4
          refine ⟨gr, _, _, rfl, rfl, hg6, small5 (by omega), ?_⟩
          refine ⟨ys ++ [.ref p6], some (.int b), rfl, ?_, ?_, ?_, upd_same, sTl hg6 (sT s46 ha4), ?_⟩
          · exact same_put (s4.trans s46) ng
          · rw [upd_ne ngc.symm]
            exact s46 _ _ hc4
          · rw [upd_ne hdg]
            exact s46 _ _ hd4
          · have ht6 : TupAtI K H6 (.ref p6) (fs ++ [b]) := ⟨p6, rfl, by rw [List.map_append]; exact h6⟩
            have h7 := paired_snoc ht6 (TupsAt.same s46 hT4)
            rw [List.take_add_one, hb, List.map_append, ← List.append_assoc]
            exact TupsAt.lst hg6 h7
        · obtain ⟨ys, y5, rfl, s4, hc4, hd4, hg4, ha4, hT4⟩ := hP
          rw [List.length_map, List.take_length] at hT4
          refine ⟨ys, _, _, rfl, s4, hc4, hg4, ?_⟩
          rw [flat_take hfs]
          exact hT4
      · obtain ⟨ys, y4, y5, rfl, s2, hc, hg2, hT2⟩ := hP
        have hxl : xs.length = (allM i).length := Paired.length hT
        rw [hxl, List.take_length] at hT2
        exact ⟨_, rfl, gr, ys, _, _, _, _, rfl, sm.trans s2, hg2, hT2⟩
    · obtain ⟨pl, xs, y2, y3, y4, y5, rfl, sm, hpl, hT⟩ := hP
      exact ⟨_, rfl, q H1 pl xs sm hpl hT⟩
end
end K26
namespace K26
open PySem PySem.Spec PyProof.Rows L2
/-! ### data of ints -/
def dL (ns : List Int) : PyData := .list (ns.map PyData.int)
theorem dpAll {K : PySem.W.Frag} {H : Hp} : ∀ ns : List Int, DpAll K H (ns.map V.int) (ns.map PyData.int)
  | [] => .nil
  | n :: ns => .cons (.int n) (dpAll ns)
theorem dpL {K : PySem.W.Frag} {H : Hp} {a : Addr} {ns : List Int} (h : SqL K H a (ns.map V.int)) : Dp K H (.ref a) (dL ns) := .lst h (dpAll ns)
theorem lay_ints : ∀ ns : List Int, PyData.canLayAll0 (ns.map PyData.int) = true
  | [] => by simp [PyData.canLayAll0]
  | n :: ns => by simp [PyData.canLayAll0, PyData.canLay0, lay_ints ns]
theorem depth_ints : ∀ ns : List Int, PyData.depthAll (ns.map PyData.int) ≤ 1
  | [] => by simp [PyData.depthAll]
  | n :: ns => by
    have h := depth_ints ns
    simp only [List.map_cons, PyData.depthAll, PyData.depth]
    omega
theorem shL (ns : List Int) : SeqAt.shaped (dL ns) = true := by
  unfold SeqAt.shaped dL
  rw [Bool.and_eq_true]
  refine ⟨lay_ints ns, decide_eq_true ?_⟩
  have := depth_ints ns
  simp only [PyData.depth]
  omega
theorem eqv_ints : ∀ ns ms : List Int, PyData.eqvAll (ns.map PyData.int) (ms.map PyData.int) = decide (ns = ms)
  | [], [] => rfl
  | [], m :: ms => by simp [PyData.eqvAll]
  | n :: ns, [] => by simp [PyData.eqvAll]
  | n :: ns, m :: ms => by
    simp only [List.map_cons, PyData.eqvAll, PyData.eqv, eqv_ints ns ms]
    by_cases h1 : n = m
    · by_cases h2 : ns = ms
      · simp [h1, h2]
      · simp [h1, h2]
    · simp [h1]
theorem eqvL (ns ms : List Int) : PyData.eqv (dL ns) (dL ms) = decide (ns = ms) := by
  unfold dL
  rw [PyData.eqv]
  exact eqv_ints ns ms
/-- two lists of ints, not unequal -/
theorem neL_use {K : PySem.W.Frag} {H : Hp} {a b : Addr} {ns : List Int} {Q : VK} (ha : SqL K H a (ns.map V.int)) (hb : SqL K H b (ns.map V.int)) (q : Q (.bl false) H) : rNeD K (.ref a) (.ref b) H Q := by
  refine ⟨dL ns, dL ns, dpL ha, dpL hb, shL ns, shL ns, ?_⟩
  rw [eqvL, decide_eq_true rfl]
  exact q
theorem eqL_use {K : PySem.W.Frag} {H : Hp} {a b : Addr} {ns : List Int} {Q : VK} (ha : SqL K H a (ns.map V.int)) (hb : SqL K H b (ns.map V.int)) (q : Q (.bl true) H) : rEqD K (.ref a) (.ref b) H Q := by
  refine ⟨dL ns, dL ns, dpL ha, dpL hb, shL ns, shL ns, ?_⟩
  rw [eqvL, decide_eq_true rfl]
  exact q
theorem isN_nat (n : Nat) : isN (.int (n : Int)) = true := decide_eq_true (Int.natCast_nonneg n)
theorem isP_pos {n : Nat} (h : 1 ≤ n) : isP (.int (n : Int)) = true := decide_eq_true (by omega)
/-- the defs of two numbers at numbers that they take -/
theorem sp2_N {K : PySem.W.Frag} {C : Addr} {w1 w2 : Str} {norm : Nat → Nat → Hp → VK → Prop} {n q : Nat} {H : Hp} {Q : VK} {E : XK} (hq : 1 ≤ q) (h : norm n q H Q) : sp2 K C w1 isN w2 isP norm [.int n, .int q] H Q E :=
  ⟨_, _, rfl, trivial, trivial, fun e => absurd (e.symm.trans (isN_nat n)) (by decide), fun _ e => absurd (e.symm.trans (isP_pos hq)) (by decide), fun _ _ => ⟨n, q, rfl, rfl, h⟩⟩
theorem sp2_P {K : PySem.W.Frag} {C : Addr} {w1 w2 : Str} {norm : Nat → Nat → Hp → VK → Prop} {n q : Nat} {H : Hp} {Q : VK} {E : XK} (hn : 1 ≤ n) (hq : 1 ≤ q) (h : norm n q H Q) : sp2 K C w1 isP w2 isP norm [.int n, .int q] H Q E :=
  ⟨_, _, rfl, trivial, trivial, fun e => absurd (e.symm.trans (isP_pos hn)) (by decide), fun _ e => absurd (e.symm.trans (isP_pos hq)) (by decide), fun _ _ => ⟨n, q, rfl, rfl, h⟩⟩
/-! ### _law_best_hold -/
abbrev s_law_best_hold : Stmt := top 45
abbrev N_law_best_hold : List Str := ["_law_size", "_law_bound", "_law_due", "_law_told", "_law_writes", "_law_reads"]
theorem sc_law_best_hold : FnScope N_law_best_hold ["_law_size", "_law_bound", "_law_due"] (defScope s_law_best_hold) := ⟨rfl, rfl, rfl, by decide +kernel, rfl, by decide +kernel, by decide +kernel⟩
def spBestHold (K : PySem.W.Frag) : Sp := fun vs H Q _ => ∃ (n q : Nat) (d : Addr), vs = [.int n, .int q, .ref d] ∧ SqL K H d ((leastL q n).map V.int) ∧ n ≤ 20 ∧ 1 ≤ q ∧ q ≤ 40 ∧ ∀ H', Same H H' → Q (.bl true) H'
section
variable {P : Program} {w : World} {K : PySem.W.Frag} {mg : Str → Option Value} {base : Heap}
theorem ok_best_hold {C : Addr} (D : DefAt K mg "_law_best_hold" s_law_best_hold) (T : Txt mg) (h_best_plan : Has P w K mg base (L2.CX P w) 30 "best_plan" ["many", "reach"] (sp2 K C "many" isN "reach" isP (nmBest K)))
    (h_best_for_writes : Has P w K mg base (L2.CX P w) 31 "best_for_writes" ["many", "width"] (sp2 K C "many" isN "width" isP (nmWrites K))) (h_law_is_plan : Has P w K mg base CX0 3 "_law_is_plan" ["_law_found", "_law_size"] (spIsPlan K))
    (h_law_sorted : Has P w K mg base CX0 2 "_law_sorted" ["_law_found"] (spSorted K)) : Has P w K mg base CX0 32 "_law_best_hold" ["_law_size", "_law_bound", "_law_due"] (spBestHold K) := by
  obtain ⟨f, fd, F, g⟩ := D.ex
  refine ⟨f, fd, ?_, g, F.kp, funLk F, F.binds fun _ _ _ _ _ _ us hl => match us, hl with | [_, _, _], _ => rfl⟩
  refine F.ok sc_law_best_hold (fun vs H Q E h => ?_) (fun cdv A outer s H vs Q E hr h => ?_)
  · obtain ⟨n, m, d, rfl, _⟩ := h
    rfl
  · obtain ⟨n, m, d, rfl, hd, hn, h1, hm, q⟩ := h
    refine ⟨_, (pss_cons (ps_set (i := 3) sc_law_best_hold.nd rfl (Or.inl rfl) (callH h_best_plan (hr.mono (by decide)) passL (by rfl) (pa_cons (pv 0) (pa_cons (pv 1) pa_nil))))
      (pss_cons (ps_if (pt_not (pt_val (callH h_law_is_plan (hr.mono (by decide)) pass0 (by rfl) (pa_cons (pv 3) (pa_cons (pv 0) pa_nil))))) (pss_one (ps_ret pe_bl)) pss_nil)
      (pss_cons (ps_asg (callH h_law_sorted (hr.mono (by decide)) pass0 (by rfl) (pa_cons (pv 3) pa_nil)) (pg_tup rfl (pgs_cons (pg_name (i := 4) sc_law_best_hold.nd rfl (Or.inl rfl)) (pgs_cons (pg_name (i := 5) sc_law_best_hold.nd rfl (Or.inl rfl)) pgs_nil))))
      (pss_cons (ps_if (PW.pt (pw_or (pt_cmpR (op_neD hr.units) (pv 4) (pv 2) (nomark _)) (pw_or1 (pt_cmpR op_gt (pe_callB (cr_max rfl) (by rfl) T.max bt_max (pa_cons (pe_op op_cat (pe_lst (pa_cons pe_int pa_nil)) (pv 5)) pa_nil)) (pv 1) (nomark _))))) (pss_one (ps_ret pe_bl)) pss_nil)
      (pss_cons (ps_set (i := 3) sc_law_best_hold.nd rfl (Or.inl rfl) (callH h_best_for_writes (hr.mono (by decide)) passL (by rfl) (pa_cons (pv 0) (pa_cons (pv 1) pa_nil))))
      (pss_cons (ps_if (pt_not (pt_val (callH h_law_is_plan (hr.mono (by decide)) pass0 (by rfl) (pa_cons (pv 3) (pa_cons (pv 0) pa_nil))))) (pss_one (ps_ret pe_bl)) pss_nil)
      (pss_cons (ps_asg (callH h_law_sorted (hr.mono (by decide)) pass0 (by rfl) (pa_cons (pv 3) pa_nil)) (pg_tup rfl (pgs_cons (pg_name (i := 4) sc_law_best_hold.nd rfl (Or.inl rfl)) (pgs_cons (pg_name (i := 5) sc_law_best_hold.nd rfl (Or.inl rfl)) pgs_nil))))
      (pss_one (ps_ret (pe_and (pe_cmpR (op_eqD hr.units) (pv 5) (pv 2) (nomark _)) (pe_one (pe_cmpR op_le (pe_callB (cr_max rfl) (by rfl) T.max bt_max (pa_cons (pe_op op_cat (pe_lst (pa_cons pe_int pa_nil)) (pv 4)) pa_nil)) (pv 1) (nomark _))))))))))))), ?_⟩
    obtain ⟨p, r, B⟩ := best_use n m hn h1 hm
    have hl := B.len
    have hl2 := B.lenM
    -- best_plan
    refine ⟨_, rfl, _, rfl, sp2_N h1 ⟨p, B.sh, by omega, by omega, fun H1 a s1 ha => ?_⟩⟩
    refine ⟨_, rfl, _, rfl, a, p, by rw [hl], ha, B.plan, by omega, fun H2 s2 => ⟨_, rfl, iteF ?_⟩⟩
    refine ⟨_, rfl, a, p, rfl, sT s2 ha, B.plan.good, by omega, fun H3 t b c s3 _ _ _ ht hb hc => ?_⟩
    refine ⟨t, _, rfl, SqT.of ht, rfl, _, _, rfl, _, _, rfl, rfl, ?_⟩
    have s13 := s1.trans (s2.trans s3)
    rw [B.w] at hb
    refine ⟨_, rfl, _, rfl, neL_use (SqL.of hb) (s13.seq hd) ⟨_, rfl, iteF ?_⟩⟩
    refine ⟨by show 1 ≤ sizeLine; decide, fun z nz => ?_⟩
    have sz := same_new (o := HO.lst [.int 0]) nz
    refine ⟨_, rfl, z, c, [.int 0], _, rfl, rfl, upd_same, sz _ _ hc, by rw [List.length_map, sortR_len]; show 1 + p.length ≤ sizeLine; exact Nat.le_of_lt (small5 (by omega)), fun y ny => ?_⟩
    have sy := same_new (o := HO.lst ([V.int 0] ++ (sortR p).map V.int)) ny
    refine ⟨y, (0 : Int) :: sortR p, rfl, SqL.new, Nat.succ_pos _, fun mx hmx _ => ?_⟩
    have hmx2 : mx ≤ ((m : Nat) : Int) := by
      rcases List.mem_cons.mp hmx with e | hmx
      · omega
      · exact B.r mx hmx
    refine ⟨_, rfl, _, _, rfl, rfl, _, rfl, ?_⟩
    rw [decide_eq_false (show ¬ ((m : Nat) : Int) < mx by omega)]
    refine iteF ?_
    have s4 := s13.trans (sz.trans sy)
    -- best_for_writes
    refine ⟨_, rfl, _, rfl, sp2_N h1 ⟨p, r, B.sh, B.nest, B.mir, by omega, by omega, fun H5 a5 s5 ha5 => ?_⟩⟩
    refine ⟨_, rfl, _, rfl, a5, r, by rw [hl2], ha5, B.planM, by omega, fun H6 s6 => ⟨_, rfl, iteF ?_⟩⟩
    refine ⟨_, rfl, a5, r, rfl, sT s6 ha5, B.planM.good, by omega, fun H7 t7 b7 c7 s7 _ _ _ ht7 hb7 hc7 => ?_⟩
    refine ⟨t7, _, rfl, SqT.of ht7, rfl, _, _, rfl, _, _, rfl, rfl, ?_⟩
    have s17 := s4.trans (s5.trans (s6.trans s7))
    rw [B.rM] at hc7
    refine ⟨_, rfl, _, rfl, eqL_use (SqL.of hc7) (s17.seq hd) ⟨_, rfl, iteT ?_⟩⟩
    refine ⟨by show 1 ≤ sizeLine; decide, fun z nz => ?_⟩
    have sz := same_new (o := HO.lst [.int 0]) nz
    refine ⟨_, rfl, z, b7, [.int 0], _, rfl, rfl, upd_same, sz _ _ hb7, by rw [List.length_map, sortW_len]; show 1 + r.length ≤ sizeLine; exact Nat.le_of_lt (small5 (by omega)), fun y ny => ?_⟩
    have sy := same_new (o := HO.lst ([V.int 0] ++ (sortW r).map V.int)) ny
    refine ⟨y, (0 : Int) :: sortW r, rfl, SqL.new, Nat.succ_pos _, fun mx hmx _ => ?_⟩
    have hmx2 : mx ≤ ((m : Nat) : Int) := by
      rcases List.mem_cons.mp hmx with e | hmx
      · omega
      · exact B.wM mx hmx
    refine ⟨_, rfl, _, _, rfl, rfl, ?_⟩
    show Q (V.bl (decide (mx ≤ ((m : Nat) : Int)))) _
    rw [decide_eq_true hmx2]
    exact q _ (s17.trans (sz.trans sy))
end
/-! ### _law_line_least -/
abbrev s_law_line_least : Stmt := top 51
abbrev N_law_line_least : List Str := ["_law_size", "_law_far", "_law_due"]
theorem sc_law_line_least : FnScope N_law_line_least ["_law_size", "_law_far"] (defScope s_law_line_least) := ⟨rfl, rfl, rfl, by decide +kernel, rfl, by decide +kernel, by decide +kernel⟩
def spLine (K : PySem.W.Frag) : Sp := fun vs H Q _ => ∃ (n q : Nat), vs = [.int n, .int q] ∧ n ≤ 20 ∧ 1 ≤ q ∧ q ≤ 40 ∧ ∀ H', Same H H' → Q (.bl true) H'
section
variable {P : Program} {w : World} {K : PySem.W.Frag} {mg : Str → Option Value} {base : Heap}
theorem ok_line_least {C : Addr} (D : DefAt K mg "_law_line_least" s_law_line_least) (T : Txt mg) (h_law_least : Has P w K mg base CX0 2 "_law_least" ["_law_size", "_law_far"] spLeast)
    (h_law_same : Has P w K mg base CX0 4 "_law_same" ["_law_told", "_law_due"] (spSame K 2))
    (h_sorted_least : Has P w K mg base (L2.CX P w) 6 "sorted_least" ["many", "reach"] (sp2 K C "many" isN "reach" isP (nmSorted K)))
    (k_sorted_least_reach_many : HasK P w K mg base (L2.CX P w) 6 "sorted_least" ["many", "reach"] ["reach", "many"] (swapV []) (sp2 K C "many" isN "reach" isP (nmSorted K)))
    (h_least_sum : Has P w K mg base (L2.CX P w) 7 "least_sum" ["many", "reach"] (sp2 K C "many" isN "reach" isP nmSum))
    (h_least_greatest : Has P w K mg base (L2.CX P w) 6 "least_greatest" ["many", "reach"] (sp2 K C "many" isN "reach" isP nmGreat))
    (h_law_best_hold : Has P w K mg base CX0 32 "_law_best_hold" ["_law_size", "_law_bound", "_law_due"] (spBestHold K)) : Has P w K mg base CX0 33 "_law_line_least" ["_law_size", "_law_far"] (spLine K) := by
  obtain ⟨f, fd, F, g⟩ := D.ex
  refine ⟨f, fd, ?_, g, F.kp, funLk F, F.binds fun _ _ _ _ _ _ us hl => match us, hl with | [_, _], _ => rfl⟩
  refine F.ok sc_law_line_least (fun vs H Q E h => ?_) (fun cdv A outer s H vs Q E hr h => ?_)
  · obtain ⟨n, m, rfl, _⟩ := h
    rfl
  · obtain ⟨n, m, rfl, hn, h1, hm, q⟩ := h
    refine ⟨_, (pss_cons (ps_set (i := 2) sc_law_line_least.nd rfl (Or.inl rfl) (callH h_law_least (hr.mono (by decide)) pass0 (by rfl) (pa_cons (pv 0) (pa_cons (pv 1) pa_nil))))
      (pss_cons (ps_if (PW.pt (pw_or (pt_not (pt_val (callH h_law_same (hr.mono (by decide)) pass0 (by rfl) (pa_cons (callH h_sorted_least (hr.mono (by decide)) passL (by rfl) (pa_cons (pv 0) (pa_cons (pv 1) pa_nil))) (pa_cons (pe_callTy call_tuple_of (by rfl) T.tuple bt_tuple (pa_cons (pv 2) pa_nil)) pa_nil))))) (pw_or1 (pt_not (pt_val (callH h_law_best_hold (hr.mono (by decide)) pass0 (by rfl) (pa_cons (pv 0) (pa_cons (pv 1) (pa_cons (pv 2) pa_nil))))))))) (pss_one (ps_ret pe_bl)) pss_nil)
      (pss_cons (ps_if (pt_not (pt_val (callH h_law_same (hr.mono (by decide)) pass0 (by rfl) (pa_cons (callHK k_sorted_least_reach_many (hr.mono (by decide)) passL (by rfl) (pk_cons (pv 1) (pk_cons (pv 0) pk_nil))) (pa_cons (pe_callTy call_tuple_of (by rfl) T.tuple bt_tuple (pa_cons (pv 2) pa_nil)) pa_nil))))) (pss_one (ps_ret pe_bl)) pss_nil)
      (pss_cons (ps_if (pt_not (pt_val (callH h_law_same (hr.mono (by decide)) pass0 (by rfl) (pa_cons (callH h_least_sum (hr.mono (by decide)) passL (by rfl) (pa_cons (pv 0) (pa_cons (pv 1) pa_nil))) (pa_cons (pe_callB (cr_sum rfl) (by rfl) T.sum bt_sum (pa_cons (pv 2) pa_nil)) pa_nil))))) (pss_one (ps_ret pe_bl)) pss_nil)
      (pss_one (ps_ret (callH h_law_same (hr.mono (by decide)) pass0 (by rfl) (pa_cons (callH h_least_greatest (hr.mono (by decide)) passL (by rfl) (pa_cons (pv 0) (pa_cons (pv 1) pa_nil))) (pa_cons (pe_callB (cr_max rfl) (by rfl) T.max bt_max (pa_cons (pe_op op_cat (pe_lst (pa_cons pe_int pa_nil)) (pv 2)) pa_nil)) pa_nil))))))))), ?_⟩
    refine ⟨_, rfl, _, rfl, n, m, rfl, h1, by omega, by omega, fun H1 d s1 hd => ?_⟩
    -- same(sorted_least(size, far), tuple(due)), best_hold
    refine ⟨_, rfl, _, rfl, sp2_N h1 ⟨by omega, by omega, fun H2 a s2 ha => ?_⟩⟩
    refine ⟨_, rfl, d, _, rfl, .inl ⟨SqL.of (s2 _ _ hd), fun b nb => ?_⟩⟩
    have s3 := same_new (o := HO.tup ((leastL m n).map V.int)) nb
    refine .inr ⟨by decide, a, b, _, rfl, sT s3 ha, SqT.new, fun H4 s4 => ⟨_, rfl, ?_⟩⟩
    have e14 := (s2.trans s3).trans s4
    refine ⟨_, rfl, _, rfl, _, rfl, n, m, d, rfl, SqL.of (e14 _ _ hd), hn, h1, hm, fun H5 s5 => ⟨_, rfl, ?_⟩⟩
    have e15 := e14.trans s5
    -- keywords
    refine ⟨_, rfl, _, rfl, sp2_N h1 ⟨by omega, by omega, fun H6 a6 s6 ha6 => ?_⟩⟩
    have e16 := e15.trans s6
    refine ⟨_, rfl, d, _, rfl, .inl ⟨SqL.of (e16 _ _ hd), fun b7 nb7 => ?_⟩⟩
    have s7 := same_new (o := HO.tup ((leastL m n).map V.int)) nb7
    refine .inr ⟨by decide, a6, b7, _, rfl, sT s7 ha6, SqT.new, fun H8 s8 => ⟨_, rfl, iteF ?_⟩⟩
    have e18 := (e16.trans s7).trans s8
    -- least_sum
    refine ⟨_, rfl, _, rfl, sp2_N h1 ⟨by omega, by omega, fun H9 s9 => ?_⟩⟩
    have e19 := e18.trans s9
    refine ⟨_, rfl, d, _, rfl, SqL.of (e19 _ _ hd), .inl ⟨by decide, _, rfl, _, rfl, iteF ?_⟩⟩
    -- least_greatest
    refine ⟨_, rfl, _, rfl, sp2_N h1 ⟨by omega, by omega, ?_⟩⟩
    refine ⟨by show 1 ≤ sizeLine; decide, fun z nz => ?_⟩
    have sz := same_new (o := HO.lst [.int 0]) nz
    refine ⟨_, rfl, z, d, [.int 0], _, rfl, rfl, upd_same, sz _ _ (e19 _ _ hd), by rw [List.length_map, leastL_len]; show 1 + n ≤ sizeLine; exact Nat.le_of_lt (small5 (by omega)), fun y ny => ?_⟩
    have sy := same_new (o := HO.lst ([V.int 0] ++ (leastL m n).map V.int)) ny
    refine ⟨y, (0 : Int) :: leastL m n, rfl, SqL.new, Nat.succ_pos _, fun mx hmx hle => ?_⟩
    rw [least_max m n h1 hmx hle]
    exact .inl ⟨by decide, _, rfl, q _ (s1.trans ((e19.trans sz).trans sy))⟩
end
end K26
namespace K26
open PySem PySem.Spec PyProof.Rows L2
/-! ### _law_widest once more, with what it bounds -/
def spWide : Sp := fun vs H Q _ => ∃ q : Nat, vs = [.int q] ∧ q ≤ 40 ∧ ∀ r : Nat, 1 ≤ r → r ≤ 10 ^ 20 → cp r q ≤ 2 ^ 109 → Q (.int ((r : Nat) : Int)) H
theorem cp_num {r q k : Nat} (hq : q ≤ k) (h : chF (r + k) k ≤ 2 ^ 109) : cp r q ≤ 2 ^ 109 := by
  refine Nat.le_trans (cp_mono_far hq) ?_
  unfold cp
  rw [← chF_is (r + k) k (by omega)]
  exact h
section
variable {P : Program} {w : World} {K : PySem.W.Frag} {mg : Str → Option Value} {base : Heap}
theorem ok_wide (D : DefAt K mg "_law_widest" s_law_widest) (T : Txt mg) : Has P w K mg base CX0 2 "_law_widest" ["_law_far"] spWide := by
  obtain ⟨f, fd, F, g⟩ := D.ex
  refine ⟨f, fd, ?_, g, F.kp, funLk F, F.binds fun _ _ _ _ _ _ us hl => match us, hl with | [_], _ => rfl⟩
  refine F.ok sc_law_widest (fun vs H Q E h => ?_) (fun cdv A outer s H vs Q E hr h => ?_)
  · obtain ⟨m, rfl, _⟩ := h
    rfl
  · obtain ⟨m, rfl, hm, q⟩ := h
    refine ⟨_, (pss_cons (ps_if (pt_cmpR op_eq (pv 0) pe_int (nomark _)) (pss_one (ps_ret (pe_op op_pow pe_int pe_int))) pss_nil)
      (pss_cons (ps_if (pt_cmpR op_lt (pv 0) pe_int (nomark _)) (pss_one (ps_ret (pe_op op_pow pe_int pe_int))) pss_nil)
      (pss_cons (ps_if (pt_cmpR op_lt (pv 0) pe_int (nomark _)) (pss_one (ps_ret (pe_op op_pow pe_int pe_int))) pss_nil)
      (pss_cons (ps_if (pt_cmpR op_lt (pv 0) pe_int (nomark _)) (pss_one (ps_ret pe_int)) pss_nil)
      (pss_cons (ps_if (pt_cmpR op_lt (pv 0) pe_int (nomark _)) (pss_one (ps_ret pe_int)) pss_nil)
      (pss_one (ps_ret pe_int))))))), ?_⟩
    refine ⟨_, rfl, rfl, _, rfl, ite2 (fun e => ⟨_, _, rfl, rfl, ⟨by decide, by decide, by decide⟩, q (10 ^ 20) (by decide) (by decide) ?_⟩) fun _ => ?_⟩
    · have e1 : (m : Int) = 1 := V.int.inj (of_decide_eq_true e)
      exact cp_num (k := 1) (by omega) (by decide +kernel)
    refine ⟨_, rfl, _, _, rfl, rfl, _, rfl, ite2 (fun e => ⟨_, _, rfl, rfl, ⟨by decide, by decide, by decide⟩, q (10 ^ 9) (by decide) (by decide) ?_⟩) fun _ => ?_⟩
    · have e1 : (m : Int) < 4 := of_decide_eq_true e
      exact cp_num (k := 3) (by omega) (by decide +kernel)
    refine ⟨_, rfl, _, _, rfl, rfl, _, rfl, ite2 (fun e => ⟨_, _, rfl, rfl, ⟨by decide, by decide, by decide⟩, q (10 ^ 6) (by decide) (by decide) ?_⟩) fun _ => ?_⟩
    · have e1 : (m : Int) < 6 := of_decide_eq_true e
      exact cp_num (k := 5) (by omega) (by decide +kernel)
    refine ⟨_, rfl, _, _, rfl, rfl, _, rfl, ite2 (fun e => q 2900 (by decide) (by decide) ?_) fun _ => ?_⟩
    · have e1 : (m : Int) < 11 := of_decide_eq_true e
      exact cp_num (k := 10) (by omega) (by decide +kernel)
    refine ⟨_, rfl, _, _, rfl, rfl, _, rfl, ite2 (fun e => q 200 (by decide) (by decide) ?_) fun _ => ?_⟩
    · have e1 : (m : Int) < 21 := of_decide_eq_true e
      exact cp_num (k := 20) (by omega) (by decide +kernel)
    exact q 60 (by decide) (by decide) (cp_num (k := 40) hm (by decide +kernel))
end
/-! ### _law_far_hold -/
abbrev s_law_far_hold : Stmt := top 47
abbrev N_law_far_hold : List Str := ["_law_hand_here", "_law_far", "_law_size", "_law_turn", "_law_told"]
theorem sc_law_far_hold : FnScope N_law_far_hold ["_law_hand_here"] (defScope s_law_far_hold) := ⟨rfl, rfl, rfl, by decide +kernel, rfl, by decide +kernel, by decide +kernel⟩
def spHold : Sp := fun vs H Q _ => ∃ hd : Addr, vs = [.ref hd] ∧ Hand H hd ∧ ∀ H', Kept hd H H' → Hand H' hd → Q (.bl true) H'
section
variable {P : Program} {w : World} {K : PySem.W.Frag} {mg : Str → Option Value} {base : Heap}
theorem ok_far_hold {C : Addr} (D : DefAt K mg "_law_far_hold" s_law_far_hold) (T : Txt mg) (h_law_take : Has P w K mg base CX0 2 "_law_take" ["_law_hand_here", "_law_most"] spTake)
    (h_law_capacity : Has P w K mg base CX0 2 "_law_capacity" ["_law_wide", "_law_far"] spCap) (h_law_widest : Has P w K mg base CX0 2 "_law_widest" ["_law_far"] spWide)
    (h_least_greatest : Has P w K mg base (L2.CX P w) 6 "least_greatest" ["many", "reach"] (sp2 K C "many" isN "reach" isP nmGreat)) : Has P w K mg base CX0 7 "_law_far_hold" ["_law_hand_here"] spHold := by
  obtain ⟨f, fd, F, g⟩ := D.ex
  refine ⟨f, fd, ?_, g, F.kp, funLk F, F.binds fun _ _ _ _ _ _ us hl => match us, hl with | [_], _ => rfl⟩
  refine F.ok sc_law_far_hold (fun vs H Q E h => ?_) (fun cdv A outer s H vs Q E hr h => ?_)
  · obtain ⟨hd, rfl, _⟩ := h
    rfl
  · obtain ⟨hd, rfl, hh, q⟩ := h
    refine ⟨_, (pss_cons (ps_set (i := 1) sc_law_far_hold.nd rfl (Or.inl rfl) (pe_op op_add pe_int (callH h_law_take (hr.mono (by decide)) pass0 (by rfl) (pa_cons (pv 0) (pa_cons pe_int pa_nil)))))
      (C8.pss_cut (ps_if (pt_cmpR op_eq (callH h_law_take (hr.mono (by decide)) pass0 (by rfl) (pa_cons (pv 0) (pa_cons pe_int pa_nil))) pe_int (nomark _)) (pss_one (ps_set (i := 1) sc_law_far_hold.nd rfl (Or.inl rfl) (pe_op op_add pe_int (callH h_law_take (hr.mono (by decide)) pass0 (by rfl) (pa_cons (pv 0) (pa_cons pe_int pa_nil)))))) pss_nil)
      (pss_cons (ps_set (i := 2) sc_law_far_hold.nd rfl (Or.inl rfl) (callH h_law_take (hr.mono (by decide)) pass0 (by rfl) (pa_cons (pv 0) (pa_cons pe_int pa_nil))))
      (pss_cons (ps_for PassesOwn.never rfl (pi_range1 (by rfl) T.range (pa_cons pe_int pa_nil)) (pg_name (i := 3) sc_law_far_hold.nd rfl (Or.inl rfl)) (pss_one (ps_set (i := 2) sc_law_far_hold.nd rfl (Or.inl rfl) (pe_op op_add (pe_op op_mul (pv 2) (pe_op op_pow pe_int pe_int)) (callH h_law_take (hr.mono (by decide)) pass0 (by rfl) (pa_cons (pv 0) (pa_cons (pe_op op_pow pe_int pe_int) pa_nil)))))))
      (pss_cons (ps_set (i := 2) sc_law_far_hold.nd rfl (Or.inl rfl) (pe_op op_fdivW (pv 2) (pe_ix ix_tup (pe_tup (pa_cons pe_int (pa_cons (pe_op op_pow pe_int pe_int) (pa_cons (pe_op op_pow pe_int pe_int) (pa_cons (pe_op op_pow pe_int pe_int) pa_nil))))) (callH h_law_take (hr.mono (by decide)) pass0 (by rfl) (pa_cons (pv 0) (pa_cons pe_int pa_nil))) (fun _ _ => rfl))))
      (C8.pss_cut (ps_if (pt_cmpR op_eq (callH h_law_take (hr.mono (by decide)) pass0 (by rfl) (pa_cons (pv 0) (pa_cons pe_int pa_nil))) pe_int (nomark _)) (pss_one (ps_set (i := 2) sc_law_far_hold.nd rfl (Or.inl rfl) (pe_op op_sub (pe_op op_add (callH h_law_capacity (hr.mono (by decide)) pass0 (by rfl) (pa_cons (pe_op op_add pe_int (callH h_law_take (hr.mono (by decide)) pass0 (by rfl) (pa_cons (pv 0) (pa_cons (callH h_law_widest (hr.mono (by decide)) pass0 (by rfl) (pa_cons (pv 1) pa_nil)) pa_nil)))) (pa_cons (pv 1) pa_nil))) (callH h_law_take (hr.mono (by decide)) pass0 (by rfl) (pa_cons (pv 0) (pa_cons pe_int pa_nil)))) pe_int))) pss_nil)
      (pss_cons (ps_set (i := 4) sc_law_far_hold.nd rfl (Or.inl rfl) (callH h_least_greatest (hr.mono (by decide)) passL (by rfl) (pa_cons (pv 2) (pa_cons (pv 1) pa_nil))))
      (pss_cons (ps_if (PW.pt (pw_or (pt_not (pt_val (pe_callB call_isi (by rfl) T.isinstance bt_isinstance (pa_cons (pv 4) (pa_cons (pe_bltn (v := .ty "int") (by rfl) T.int bt_int rfl) pa_nil))))) (pw_or (pt_val (pe_callB call_isi (by rfl) T.isinstance bt_isinstance (pa_cons (pv 4) (pa_cons (pe_bltn (v := .ty "bool") (by rfl) T.bool bt_bool rfl) pa_nil)))) (pw_or (pt_cmpR op_lt (pv 4) pe_int (nomark _)) (pw_or1 (pt_cmpR op_gt (pv 4) (pv 2) (nomark _))))))) (pss_one (ps_ret pe_bl)) pss_nil)
      (pss_cons (ps_if (pt_cmpR op_eq (pv 2) pe_int (nomark _)) (pss_one (ps_ret (pe_cmpR op_eq (pv 4) pe_int (nomark _)))) pss_nil)
      (pss_one (ps_ret (pe_and (pe_cmpR op_gt (pv 4) pe_int (nomark _)) (pe_one (pe_chain op_le op_lt (callH h_law_capacity (hr.mono (by decide)) pass0 (by rfl) (pa_cons (pe_op op_sub (pv 4) pe_int) (pa_cons (pv 1) pa_nil))) (pv 2) (callH h_law_capacity (hr.mono (by decide)) pass0 (by rfl) (pa_cons (pv 4) (pa_cons (pv 1) pa_nil))))))))))))))))), ?_⟩
    -- far
    refine ⟨_, rfl, hd, 6, rfl, hh, by decide, by decide, fun H1 r k1 hh1 r0 r1 => ⟨_, _, rfl, rfl, ?_⟩⟩
    refine ⟨fun σ' H' => ∃ m : Nat, σ' = [some (.ref hd), some (.int m), none, none, none] ∧ Kept hd H H' ∧ Hand H' hd ∧ 1 ≤ m ∧ m ≤ 40, ?_, fun σ' H2 hP => ?_⟩
    · refine ⟨_, rfl, hd, 4, rfl, hh1, by decide, by decide, fun H2 r2 k2 hh2 _ _ => ⟨rfl, _, rfl, ite2 (fun _ => ?_) (fun _ => ?_)⟩⟩
      · refine ⟨_, rfl, hd, 40, rfl, hh2, by decide, by decide, fun H3 r3 k3 hh3 r30 r31 => ⟨_, _, rfl, rfl, ?_⟩⟩
        refine ⟨(1 + r3).toNat, ?_, (k1.trans k2).trans k3, hh3, by omega, by omega⟩
        show [some (V.ref hd), some (V.int (1 + r3)), none, none, none] = _
        rw [Int.toNat_of_nonneg (by omega)]
      · refine ⟨(1 + r).toNat, ?_, k1.trans k2, hh2, by omega, by omega⟩
        show [some (V.ref hd), some (V.int (1 + r)), none, none, none] = _
        rw [Int.toNat_of_nonneg (by omega)]
    obtain ⟨m, rfl, k2, hh2, hm1, hm2⟩ := hP
    -- size
    refine ⟨_, rfl, hd, 1000, rfl, hh2, by decide, by decide, fun H3 r k3 hh3 r0 r1 => ?_⟩
    refine ⟨3, rfl, by decide, by decide, ?_⟩
    refine for_range (lo := 0) (n := 3) (fun i σ H' => ∃ (z : Nat) (y : Option V), σ = [some (.ref hd), some (.int m), some (.int z), y, none] ∧ Kept hd H H' ∧ Hand H' hd ∧ z < 10 ^ (3 + 9 * i))
      ⟨r.toNat, none, ?_, k2.trans k3, hh3, ?_⟩ (fun i σ H' hi hP => ?_) (fun σ H' hP => ?_)
    · show [some (V.ref hd), some (V.int (m : Int)), some (V.int r), none, none] = _
      rw [Int.toNat_of_nonneg r0]
    · show r.toNat < 1000
      omega
    · obtain ⟨z, y, rfl, k4, hh4, hz⟩ := hP
      refine ⟨_, rfl, _, _, rfl, rfl, ⟨by decide, by decide, by decide⟩, _, _, rfl, rfl, .inr ⟨by decide, by decide⟩, ?_⟩
      refine ⟨_, rfl, _, _, rfl, rfl, ⟨by decide, by decide, by decide⟩, hd, 10 ^ 9, rfl, hh4, by decide, by decide, fun H5 x k5 hh5 x0 x1 => ⟨_, _, rfl, rfl, ?_⟩⟩
      refine ⟨z * 10 ^ 9 + x.toNat, some (.int (0 + (i : Int))), ?_, k4.trans k5, hh5, ?_⟩
      · show [some (V.ref hd), some (V.int (m : Int)), some (V.int ((z : Int) * 10 ^ 9 + x)), some (V.int (0 + (i : Int))), none] = _
        rw [show (z : Int) * 10 ^ 9 + x = ((z * 10 ^ 9 + x.toNat : Nat) : Int) by omega]
      · have e : 3 + 9 * (i + 1) = (3 + 9 * i) + 9 := by omega
        rw [e, Nat.pow_add]
        have h2 : (z + 1) * 10 ^ 9 ≤ 10 ^ (3 + 9 * i) * 10 ^ 9 := Nat.mul_le_mul hz (Nat.le_refl _)
        omega
    · obtain ⟨z, y, rfl, k4, hh4, hz⟩ := hP
      replace hz : z < 10 ^ 30 := hz
      -- size // (..)[take]
      refine ⟨_, rfl, _, _, rfl, rfl, ⟨by decide, by decide, by decide⟩, _, _, rfl, rfl, ⟨by decide, by decide, by decide⟩, _, _, rfl, rfl, ⟨by decide, by decide, by decide⟩, by show 4 ≤ sizeLine; decide, fun t nt => ?_⟩
      have st := same_new (o := HO.tup [.int 1, .int (10 ^ (5 : Int).toNat), .int (10 ^ (13 : Int).toNat), .int (10 ^ (25 : Int).toNat)]) nt
      have hht := hh4.same st
      refine ⟨_, rfl, hd, 4, rfl, hht, by decide, by decide, fun H5 x k5 hh5 x0 x1 => ?_⟩
      have hT5 := kT (K := K) hht k5 (SqT.new (H := H'))
      obtain ⟨dv, hat, hd1, hd2⟩ : ∃ dv : Nat, atI [V.int 1, V.int (10 ^ (5 : Int).toNat), V.int (10 ^ (13 : Int).toNat), V.int (10 ^ (25 : Int).toNat)] x = some (V.int (dv : Int)) ∧ 1 ≤ dv ∧ dv ≤ 10 ^ 25 := by
        have hx : x = ((0 : Nat) : Int) ∨ x = ((1 : Nat) : Int) ∨ x = ((2 : Nat) : Int) ∨ x = ((3 : Nat) : Int) := by omega
        rcases hx with rfl | rfl | rfl | rfl
        · exact ⟨1, atI_nat rfl, by decide, by decide⟩
        · exact ⟨10 ^ 5, atI_nat rfl, by decide, by decide⟩
        · exact ⟨10 ^ 13, atI_nat rfl, by decide, by decide⟩
        · exact ⟨10 ^ 25, atI_nat rfl, by decide, by decide⟩
      have hlog : ((dv : Nat) : Int).natAbs < 2 ^ 100 := by
        rw [Int.natAbs_natCast]
        exact Nat.lt_of_le_of_lt hd2 (by decide)
      refine ⟨t, _, _, _, rfl, rfl, hT5, hat, _, _, rfl, rfl, wide_div (b := 100) (by omega) hlog (by decide) (by decide), ?_⟩
      have kz : ((z : Nat) : Int) / ((dv : Nat) : Int) = ((z / dv : Nat) : Int) := by omega
      show gName 2 (V.int (((z : Nat) : Int) / ((dv : Nat) : Int))) _ _ _
      rw [kz]
      have hzd : z / dv < 10 ^ 30 := Nat.lt_of_le_of_lt (Nat.div_le_self _ _) hz
      generalize z / dv = z1 at hzd
      have k15 : Kept hd H H5 := k4.trans ((Kept.same st).trans k5)
      -- the capacity's neighbourhood
      refine ⟨fun σ' H' => ∃ (n : Nat) (y : Option V), σ' = [some (.ref hd), some (.int m), some (.int n), y, none] ∧ Kept hd H H' ∧ Hand H' hd ∧ n < 2 ^ 110, ?_, fun σ' H6 hP => ?_⟩
      · refine ⟨_, rfl, hd, 2, rfl, hh5, by decide, by decide, fun H6 x6 k6 hh6 _ _ => ⟨rfl, _, rfl, ite2 (fun _ => ?_) (fun _ => ?_)⟩⟩
        · refine ⟨_, rfl, _, rfl, m, rfl, hm2, fun rr r1 r2 r3 => ?_⟩
          refine ⟨hd, _, rfl, hh6, by omega, by omega, fun H7 x7 k7 hh7 x70 x71 => ⟨_, _, rfl, rfl, ?_⟩⟩
          have hcp : cp (1 + x7.toNat) m ≤ 2 ^ 109 := Nat.le_trans (cp_mono m (by omega)) r3
          have hcp1 := cp_ge (1 + x7.toNat) m hm1
          refine ⟨_, rfl, 1 + x7.toNat, m, ?_, by omega, hm2, ?_⟩
          · show [V.int (1 + x7), V.int (m : Int)] = _
            rw [show (1 : Int) + x7 = ((1 + x7.toNat : Nat) : Int) by omega]
          refine ⟨_, rfl, hd, 3, rfl, hh7, by decide, by decide, fun H8 x8 k8 hh8 x80 x81 => ⟨_, _, rfl, rfl, _, _, rfl, rfl, ?_⟩⟩
          refine ⟨cp (1 + x7.toNat) m + x8.toNat - 2, y, ?_, k15.trans (k6.trans (k7.trans k8)), hh8, by omega⟩
          show [some (V.ref hd), some (V.int (m : Int)), some (V.int (((cp (1 + x7.toNat) m : Nat) : Int) + x8 - 2)), y, none] = [some (V.ref hd), some (V.int (m : Int)), some (V.int ((cp (1 + x7.toNat) m + x8.toNat - 2 : Nat) : Int)), y, none]
          rw [show ((cp (1 + x7.toNat) m : Nat) : Int) + x8 - 2 = ((cp (1 + x7.toNat) m + x8.toNat - 2 : Nat) : Int) by omega]
        · exact ⟨z1, y, rfl, k15.trans k6, hh6, Nat.lt_trans hzd (by decide)⟩
      obtain ⟨n, y, rfl, k6, hh6, hn⟩ := hP
      -- told
      have hun := u_le m n hm1
      refine ⟨_, rfl, _, rfl, sp2_N hm1 ⟨by omega, hn, ?_⟩⟩
      refine ⟨_, rfl, _, _, _, _, _, rfl, .ty _, .base (.int _), kit_int, _, rfl, iteF ?_⟩
      refine ⟨_, rfl, _, _, _, _, _, rfl, .ty _, .base (.int _), kit_int_bool, _, rfl, iteF ?_⟩
      refine ⟨_, rfl, _, _, rfl, rfl, _, rfl, ?_⟩
      rw [decide_eq_false (show ¬ ((u m n : Nat) : Int) < 0 by omega)]
      refine iteF ?_
      refine ⟨_, rfl, _, rfl, _, _, rfl, rfl, _, rfl, ?_⟩
      rw [decide_eq_false (show ¬ ((n : Nat) : Int) < ((u m n : Nat) : Int) by omega)]
      refine iteF ?_
      refine ⟨_, rfl, rfl, _, rfl, ite2 (fun e => ?_) (fun e => ?_)⟩
      · have e0 : (n : Int) = 0 := V.int.inj (of_decide_eq_true e)
        have e1 : n = 0 := by omega
        subst e1
        refine ⟨_, rfl, rfl, ?_⟩
        rw [u_zero m hm1]
        exact q H6 k6 hh6
      · have e1 : n ≠ 0 := fun z => e (by rw [z]; rfl)
        have hp := u_pos m n hm1 (by omega)
        have hL := u_is m n hm1
        refine ⟨_, rfl, _, _, rfl, rfl, _, rfl, ?_⟩
        rw [decide_eq_true (show (0 : Int) < ((u m n : Nat) : Int) by omega)]
        refine iteT ?_
        refine ⟨_, rfl, _, _, rfl, rfl, _, rfl, u m n - 1, m, int2 (show ((u m n : Nat) : Int) - 1 = _ by omega) rfl, by omega, hm2, _, rfl, _, _, rfl, rfl, _, rfl, ?_⟩
        have h1 := hL.le (u m n - 1) (by omega)
        have h2 := hL.gt
        rw [decide_eq_true (show ((cp (u m n - 1) m : Nat) : Int) ≤ (n : Int) by omega)]
        refine iteT ?_
        refine ⟨_, rfl, _, rfl, u m n, m, rfl, by omega, hm2, _, _, rfl, rfl, ?_⟩
        show Q (V.bl (decide ((n : Int) < ((cp (u m n) m : Nat) : Int)))) _
        rw [decide_eq_true (show (n : Int) < ((cp (u m n) m : Nat) : Int) by omega)]
        exact q H6 k6 hh6
end
/-! ### _law_full_holds -/
def PairAt (K : PySem.W.Frag) (H : Hp) (v : V) (x : Nat × Nat) : Prop := ∃ a, v = .ref a ∧ SqT K H a [.int (x.1 : Int), .int (x.2 : Int)]
theorem pair_at {K : PySem.W.Frag} {H : Hp} {xs : List V} {l : List (Nat × Nat)} (h : Paired (PairAt K H) xs l) {i : Nat} (hi : i < l.length) : ∃ (a : Addr) (x : Nat × Nat), xs[i]? = some (.ref a) ∧ x ∈ l ∧ SqT K H a [.int (x.1 : Int), .int (x.2 : Int)] := by
  have hl : xs.length = l.length := Paired.length h
  have hx := List.getElem?_eq_getElem (show i < xs.length by omega)
  obtain ⟨x, hx2, a, e, q⟩ := paired_get h hx
  rw [e] at hx
  exact ⟨a, x, hx, List.mem_of_getElem? hx2, q⟩
theorem last_at {l : List Int} (h : 1 ≤ l.length) : atI (l.map V.int) (-1) = some (V.int (lastD l)) := by
  cases e : l.reverse with
  | nil =>
    have := congrArg List.length e
    rw [List.length_reverse] at this
    simp at this
    rw [this] at h
    exact absurd h (by decide)
  | cons x r =>
    have e2 : l = r.reverse ++ [x] := by
      have := congrArg List.reverse e
      rw [List.reverse_reverse, List.reverse_cons] at this
      exact this
    rw [e2, List.map_append]
    unfold lastD
    rw [List.getLastD_concat]
    exact atI_last _ _
abbrev s_law_full_holds : Stmt := top 50
abbrev N_law_full_holds : List Str := ["_law_hand_here", "_law_wide", "_law_far", "_law_size", "_law_told", "_law_writes", "_law_reads"]
theorem sc_law_full_holds : FnScope N_law_full_holds ["_law_hand_here"] (defScope s_law_full_holds) := ⟨rfl, rfl, rfl, by decide +kernel, rfl, by decide +kernel, by decide +kernel⟩
section
variable {P : Program} {w : World} {K : PySem.W.Frag} {mg : Str → Option Value} {base : Heap}
theorem ok_full_holds {C : Addr} (D : DefAt K mg "_law_full_holds" s_law_full_holds) (T : Txt mg) (h_law_take : Has P w K mg base CX0 2 "_law_take" ["_law_hand_here", "_law_most"] spTake)
    (h_law_capacity : Has P w K mg base CX0 2 "_law_capacity" ["_law_wide", "_law_far"] spCap) (h_law_is_plan : Has P w K mg base CX0 3 "_law_is_plan" ["_law_found", "_law_size"] (spIsPlan K))
    (h_law_sorted : Has P w K mg base CX0 2 "_law_sorted" ["_law_found"] (spSorted K)) (h_law_least : Has P w K mg base CX0 2 "_law_least" ["_law_size", "_law_far"] spLeast)
    (h_law_same : Has P w K mg base CX0 4 "_law_same" ["_law_told", "_law_due"] (spSame K 2))
    (h_full_plan : Has P w K mg base (L2.CX P w) 30 "full_plan" ["width", "reach"] (sp2 K C "width" isP "reach" isP (nmFull K)))
    (k_full_plan_reach_width : HasK P w K mg base (L2.CX P w) 30 "full_plan" ["width", "reach"] ["reach", "width"] (swapV []) (sp2 K C "width" isP "reach" isP (nmFull K)))
    (h_best_plan : Has P w K mg base (L2.CX P w) 30 "best_plan" ["many", "reach"] (sp2 K C "many" isN "reach" isP (nmBest K)))
    (k_best_for_writes_many_width : HasK P w K mg base (L2.CX P w) 31 "best_for_writes" ["many", "width"] ["many", "width"] (pairV []) (sp2 K C "many" isN "width" isP (nmWrites K))) :
    Has P w K mg base CX0 32 "_law_full_holds" ["_law_hand_here"] spHold := by
  obtain ⟨f, fd, F, g⟩ := D.ex
  refine ⟨f, fd, ?_, g, F.kp, funLk F, F.binds fun _ _ _ _ _ _ us hl => match us, hl with | [_], _ => rfl⟩
  refine F.ok sc_law_full_holds (fun vs H Q E h => ?_) (fun cdv A outer s H vs Q E hr h => ?_)
  · obtain ⟨hd, rfl, _⟩ := h
    rfl
  · obtain ⟨hd, rfl, hh, q⟩ := h
    refine ⟨_, (pss_cons (ps_asg (pe_ix ix_tup (pe_tup (pa_cons (pe_tup (pa_cons pe_int (pa_cons pe_int pa_nil))) (pa_cons (pe_tup (pa_cons pe_int (pa_cons pe_int pa_nil))) (pa_cons (pe_tup (pa_cons pe_int (pa_cons pe_int pa_nil))) (pa_cons (pe_tup (pa_cons pe_int (pa_cons pe_int pa_nil))) (pa_cons (pe_tup (pa_cons pe_int (pa_cons pe_int pa_nil))) (pa_cons (pe_tup (pa_cons pe_int (pa_cons pe_int pa_nil))) (pa_cons (pe_tup (pa_cons pe_int (pa_cons pe_int pa_nil))) (pa_cons (pe_tup (pa_cons pe_int (pa_cons pe_int pa_nil))) (pa_cons (pe_tup (pa_cons pe_int (pa_cons pe_int pa_nil))) (pa_cons (pe_tup (pa_cons pe_int (pa_cons pe_int pa_nil))) (pa_cons (pe_tup (pa_cons pe_int (pa_cons pe_int pa_nil))) (pa_cons (pe_tup (pa_cons pe_int (pa_cons pe_int pa_nil))) (pa_cons (pe_tup (pa_cons pe_int (pa_cons pe_int pa_nil))) (pa_cons (pe_tup (pa_cons pe_int (pa_cons pe_int pa_nil))) (pa_cons (pe_tup (pa_cons pe_int (pa_cons pe_int pa_nil))) (pa_cons (pe_tup (pa_cons pe_int (pa_cons pe_int pa_nil))) pa_nil))))))))))))))))) (callH h_law_take (hr.mono (by decide)) pass0 (by rfl) (pa_cons (pv 0) (pa_cons pe_int pa_nil))) (fun _ _ => rfl)) (pg_tup rfl (pgs_cons (pg_name (i := 1) sc_law_full_holds.nd rfl (Or.inl rfl)) (pgs_cons (pg_name (i := 2) sc_law_full_holds.nd rfl (Or.inl rfl)) pgs_nil))))
      (pss_cons (ps_set (i := 3) sc_law_full_holds.nd rfl (Or.inl rfl) (pe_op op_sub (callH h_law_capacity (hr.mono (by decide)) pass0 (by rfl) (pa_cons (pv 1) (pa_cons (pv 2) pa_nil))) pe_int))
      (pss_cons (ps_set (i := 4) sc_law_full_holds.nd rfl (Or.inl rfl) (callH h_full_plan (hr.mono (by decide)) passL (by rfl) (pa_cons (pv 1) (pa_cons (pv 2) pa_nil))))
      (pss_cons (ps_if (PW.pt (pw_or (pt_not (pt_val (callH h_law_is_plan (hr.mono (by decide)) pass0 (by rfl) (pa_cons (pv 4) (pa_cons (pv 3) pa_nil))))) (pw_or1 (pt_not (pt_val (callH h_law_same (hr.mono (by decide)) pass0 (by rfl) (pa_cons (callHK k_full_plan_reach_width (hr.mono (by decide)) passL (by rfl) (pk_cons (pv 2) (pk_cons (pv 1) pk_nil))) (pa_cons (pv 4) pa_nil)))))))) (pss_one (ps_ret pe_bl)) pss_nil)
      (pss_cons (ps_asg (callH h_law_sorted (hr.mono (by decide)) pass0 (by rfl) (pa_cons (pv 4) pa_nil)) (pg_tup rfl (pgs_cons (pg_name (i := 5) sc_law_full_holds.nd rfl (Or.inl rfl)) (pgs_cons (pg_name (i := 6) sc_law_full_holds.nd rfl (Or.inl rfl)) pgs_nil))))
      (pss_cons (ps_if (pt_cmpR op_gt (pe_ix ix_list (pv 5) (pe_un un_neg pe_int) (fun _ _ => rfl)) (pv 1) (nomark _)) (pss_one (ps_ret pe_bl)) pss_nil)
      (pss_cons (ps_if (pt_cmpR op_gt (pe_ix ix_list (pv 6) (pe_un un_neg pe_int) (fun _ _ => rfl)) (pv 2) (nomark _)) (pss_one (ps_ret pe_bl)) pss_nil)
      (pss_cons (ps_if (pt_cmpR (op_neD hr.units) (pv 5) (callH h_law_least (hr.mono (by decide)) pass0 (by rfl) (pa_cons (pv 3) (pa_cons (pv 2) pa_nil))) (nomark _)) (pss_one (ps_ret pe_bl)) pss_nil)
      (pss_cons (ps_if (pt_cmpR (op_neD hr.units) (pv 6) (callH h_law_least (hr.mono (by decide)) pass0 (by rfl) (pa_cons (pv 3) (pa_cons (pv 1) pa_nil))) (nomark _)) (pss_one (ps_ret pe_bl)) pss_nil)
      (pss_cons (ps_if (pt_not (pt_val (callH h_law_same (hr.mono (by decide)) pass0 (by rfl) (pa_cons (callH h_best_plan (hr.mono (by decide)) passL (by rfl) (pa_cons (pv 3) (pa_cons (pv 2) pa_nil))) (pa_cons (pv 4) pa_nil))))) (pss_one (ps_ret pe_bl)) pss_nil)
      (pss_one (ps_ret (callH h_law_same (hr.mono (by decide)) pass0 (by rfl) (pa_cons (callHK k_best_for_writes_many_width (hr.mono (by decide)) passL (by rfl) (pk_cons (pv 3) (pk_cons (pv 1) pk_nil))) (pa_cons (pv 4) pa_nil))))))))))))))), ?_⟩
    -- wide, far
    have le2 : 2 ≤ sizeLine := by decide
    have le16 : 16 ≤ sizeLine := by decide
    refine ⟨le2, fun p1 n1 => ⟨le2, fun p2 n2 => ⟨le2, fun p3 n3 => ⟨le2, fun p4 n4 => ⟨le2, fun p5 n5 => ⟨le2, fun p6 n6 => ⟨le2, fun p7 n7 => ⟨le2, fun p8 n8 => ⟨le2, fun p9 n9 => ⟨le2, fun p10 n10 => ⟨le2, fun p11 n11 => ⟨le2, fun p12 n12 => ⟨le2, fun p13 n13 => ⟨le2, fun p14 n14 => ⟨le2, fun p15 n15 => ⟨le2, fun p16 n16 => ⟨le16, fun t nt => ?_⟩⟩⟩⟩⟩⟩⟩⟩⟩⟩⟩⟩⟩⟩⟩⟩⟩
    have s1 := same_new (o := HO.tup [V.int 1, V.int 1]) n1
    have s2 := same_new (o := HO.tup [V.int 1, V.int 4]) n2
    have s3 := same_new (o := HO.tup [V.int 1, V.int 20]) n3
    have s4 := same_new (o := HO.tup [V.int 3, V.int 1]) n4
    have s5 := same_new (o := HO.tup [V.int 20, V.int 1]) n5
    have s6 := same_new (o := HO.tup [V.int 2, V.int 2]) n6
    have s7 := same_new (o := HO.tup [V.int 2, V.int 3]) n7
    have s8 := same_new (o := HO.tup [V.int 3, V.int 2]) n8
    have s9 := same_new (o := HO.tup [V.int 2, V.int 4]) n9
    have s10 := same_new (o := HO.tup [V.int 4, V.int 2]) n10
    have s11 := same_new (o := HO.tup [V.int 3, V.int 3]) n11
    have s12 := same_new (o := HO.tup [V.int 2, V.int 5]) n12
    have s13 := same_new (o := HO.tup [V.int 5, V.int 2]) n13
    have s14 := same_new (o := HO.tup [V.int 1, V.int 13]) n14
    have s15 := same_new (o := HO.tup [V.int 11, V.int 1]) n15
    have s16 := same_new (o := HO.tup [V.int 1, V.int 2]) n16
    have u16 := same_new (o := HO.tup [V.ref p1, V.ref p2, V.ref p3, V.ref p4, V.ref p5, V.ref p6, V.ref p7, V.ref p8, V.ref p9, V.ref p10, V.ref p11, V.ref p12, V.ref p13, V.ref p14, V.ref p15, V.ref p16]) nt
    have u15 := s16.trans u16
    have u14 := s15.trans u15
    have u13 := s14.trans u14
    have u12 := s13.trans u13
    have u11 := s12.trans u12
    have u10 := s11.trans u11
    have u9 := s10.trans u10
    have u8 := s9.trans u9
    have u7 := s8.trans u8
    have u6 := s7.trans u7
    have u5 := s6.trans u6
    have u4 := s5.trans u5
    have u3 := s4.trans u4
    have u2 := s3.trans u3
    have u1 := s2.trans u2
    have u0 := s1.trans u1
    generalize hH1 : upd _ t (HO.tup [V.ref p1, V.ref p2, V.ref p3, V.ref p4, V.ref p5, V.ref p6, V.ref p7, V.ref p8, V.ref p9, V.ref p10, V.ref p11, V.ref p12, V.ref p13, V.ref p14, V.ref p15, V.ref p16]) = H1 at *
    have hp : Paired (PairAt K H1) [V.ref p1, V.ref p2, V.ref p3, V.ref p4, V.ref p5, V.ref p6, V.ref p7, V.ref p8, V.ref p9, V.ref p10, V.ref p11, V.ref p12, V.ref p13, V.ref p14, V.ref p15, V.ref p16] pairs16 := .cons ⟨p1, rfl, sT u1 SqT.new⟩ (.cons ⟨p2, rfl, sT u2 SqT.new⟩ (.cons ⟨p3, rfl, sT u3 SqT.new⟩ (.cons ⟨p4, rfl, sT u4 SqT.new⟩ (.cons ⟨p5, rfl, sT u5 SqT.new⟩ (.cons ⟨p6, rfl, sT u6 SqT.new⟩ (.cons ⟨p7, rfl, sT u7 SqT.new⟩ (.cons ⟨p8, rfl, sT u8 SqT.new⟩ (.cons ⟨p9, rfl, sT u9 SqT.new⟩ (.cons ⟨p10, rfl, sT u10 SqT.new⟩ (.cons ⟨p11, rfl, sT u11 SqT.new⟩ (.cons ⟨p12, rfl, sT u12 SqT.new⟩ (.cons ⟨p13, rfl, sT u13 SqT.new⟩ (.cons ⟨p14, rfl, sT u14 SqT.new⟩ (.cons ⟨p15, rfl, sT u15 SqT.new⟩ (.cons ⟨p16, rfl, sT u16 SqT.new⟩ (.nil))))))))))))))))
    have hT : SqT K H1 t [V.ref p1, V.ref p2, V.ref p3, V.ref p4, V.ref p5, V.ref p6, V.ref p7, V.ref p8, V.ref p9, V.ref p10, V.ref p11, V.ref p12, V.ref p13, V.ref p14, V.ref p15, V.ref p16] := by rw [← hH1]; exact SqT.new
    have hh1 := hh.same u0
    have s01 := u0
    clear s1 s2 s3 s4 s5 s6 s7 s8 s9 s10 s11 s12 s13 s14 s15 s16 u0 u1 u2 u3 u4 u5 u6 u7 u8 u9 u10 u11 u12 u13 u14 u15 u16
    refine ⟨_, rfl, hd, 16, rfl, hh1, by decide, by decide, fun H2 r k2 hh2 r0 r1 => ?_⟩
    obtain ⟨j, rfl⟩ : ∃ j : Nat, r = (j : Int) := ⟨r.toNat, by omega⟩
    have hp2 := paired_imp (fun v x (z : PairAt K H1 v x) => (⟨z.choose, z.choose_spec.1, kT hh1 k2 z.choose_spec.2⟩ : PairAt K H2 v x)) hp
    obtain ⟨a, x, hat, hx, ha⟩ := pair_at hp2 (i := j) (by show j < 16; omega)
    refine ⟨t, _, _, _, rfl, rfl, kT hh1 k2 hT, atI_nat hat, ?_⟩
    refine ⟨a, _, rfl, ha, rfl, _, _, rfl, _, _, rfl, rfl, ?_⟩
    obtain ⟨c1, c2, c3, c4, _, _⟩ := caps16 x hx
    obtain ⟨n, p, rr, B⟩ := full_use x hx
    obtain ⟨v, m⟩ := x
    dsimp only at c1 c2 c3 c4 B ha ⊢
    have hn1 := B.n1
    have hn2 := B.n20
    have hpl := B.len
    have ecp : cp v m = n + 1 := B.cap
    -- size
    refine ⟨_, rfl, _, rfl, v, m, rfl, by omega, by omega, _, _, rfl, rfl, ?_⟩
    show gName 3 (V.int (((cp v m : Nat) : Int) - 1)) _ _ _
    rw [show ((cp v m : Nat) : Int) - 1 = ((n : Nat) : Int) by omega]
    have kk : Kept hd H H2 := (Kept.same s01).trans k2
    have capb : ch (v + m) m ≤ 1000 := by rw [B.cap]; omega
    -- full_plan
    refine ⟨_, rfl, _, rfl, sp2_P c1 c2 ⟨p, B.sh, capb, by omega, fun H3 b s3 hb => ?_⟩⟩
    refine ⟨_, rfl, _, rfl, b, p, by rw [hpl], hb, B.plan, by omega, fun H4 s4 => ⟨_, rfl, ?_⟩⟩
    refine ⟨_, rfl, _, rfl, sp2_P c1 c2 ⟨p, B.sh, capb, by omega, fun H5 b5 s5 hb5 => ?_⟩⟩
    have hbb5 := sT s5 (sT s4 hb)
    refine ⟨_, rfl, .inr ⟨by decide, b5, b, p, rfl, hb5, hbb5, fun H6 s6 => ⟨_, rfl, iteF ?_⟩⟩⟩
    have hb6 := sT s6 hbb5
    refine ⟨_, rfl, b, p, rfl, hb6, B.plan.good, by omega, fun H7 t7 b7 c7 s7 _ _ _ ht7 hb7 hc7 => ?_⟩
    refine ⟨t7, _, rfl, SqT.of ht7, rfl, _, _, rfl, _, _, rfl, rfl, ?_⟩
    have hlw : 1 ≤ (sortW p).length := by rw [sortW_len]; omega
    have hlr : 1 ≤ (sortR p).length := by rw [sortR_len]; omega
    -- writes[-1] > wide
    refine ⟨_, rfl, _, rfl, b7, _, _, _, rfl, rfl, SqL.of hb7, last_at hlw, _, rfl, _, _, rfl, rfl, _, rfl, ?_⟩
    rw [decide_eq_false (show ¬ ((v : Nat) : Int) < lastD (sortW p) by have := B.lw; omega)]
    refine iteF ?_
    refine ⟨_, rfl, _, rfl, c7, _, _, _, rfl, rfl, SqL.of hc7, last_at hlr, _, rfl, _, _, rfl, rfl, _, rfl, ?_⟩
    rw [decide_eq_false (show ¬ ((m : Nat) : Int) < lastD (sortR p) by have := B.lr; omega)]
    refine iteF ?_
    rw [B.eW] at hb7
    rw [B.eR] at hc7
    -- writes != least(size, far)
    refine ⟨_, rfl, _, rfl, _, rfl, n, m, rfl, c2, by omega, by omega, fun H8 d8 s8 hd8 => ?_⟩
    refine neL_use (SqL.of (s8 _ _ hb7)) (SqL.of hd8) ⟨_, rfl, iteF ?_⟩
    refine ⟨_, rfl, _, rfl, _, rfl, n, v, rfl, c1, by omega, by omega, fun H9 d9 s9 hd9 => ?_⟩
    refine neL_use (SqL.of (s9 _ _ (s8 _ _ hc7))) (SqL.of hd9) ⟨_, rfl, iteF ?_⟩
    have hb9 := sT s9 (sT s8 (sT s7 hb6))
    -- best_plan
    refine ⟨_, rfl, _, rfl, sp2_N c2 ⟨p, B.best, by omega, by omega, fun Ha a10 sa ha10 => ?_⟩⟩
    refine ⟨_, rfl, .inr ⟨by decide, a10, b, p, rfl, ha10, sT sa hb9, fun Hb sb => ⟨_, rfl, iteF ?_⟩⟩⟩
    -- best_for_writes
    refine ⟨_, rfl, _, rfl, sp2_N c1 ⟨rr, p, B.sh2, B.nest, B.mir, by omega, by omega, fun Hc a11 sc ha11 => ?_⟩⟩
    refine ⟨_, rfl, .inr ⟨by decide, a11, b, p, rfl, ha11, sT sc (sT sb (sT sa hb9)), fun Hd sd => ?_⟩⟩
    have sall := ((((((((s3.trans s4).trans s5).trans s6).trans s7).trans s8).trans s9).trans sa).trans sb).trans (sc.trans sd)
    exact q Hd (kk.trans (Kept.same sall)) (hh2.same sall)
end
end K26
namespace K26
open PySem PySem.Spec PyProof.Rows L2
/-! ### _law_ask -/
abbrev s_law_ask : Stmt := top 48
abbrev N_law_ask : List Str := ["_law_which", "_law_left", "_law_right", "fault"]
theorem sc_law_ask : FnScope N_law_ask ["_law_which", "_law_left", "_law_right"] (defScope s_law_ask) := ⟨rfl, rfl, rfl, by decide +kernel, rfl, by decide +kernel, by decide +kernel⟩
theorem look_word (x : Str) : ([("at", .int (-1)), ("word", .str x)] : List (Str × V)).lookup ("word" : Str) = some (.str x) := by
  have e : (("word" : Str) == ("at" : Str)) = false := by decide +kernel
  have e2 : (("word" : Str) == ("word" : Str)) = true := by decide +kernel
  simp only [List.lookup, e, e2]
theorem look_at (x : Str) : ([("at", .int (-1)), ("word", .str x)] : List (Str × V)).lookup ("at" : Str) = some (.int (-1)) := by
  have e : (("at" : Str) == ("at" : Str)) = true := by decide +kernel
  simp only [List.lookup, e]
/-- what a call of the which-th def refuses, and with which word -/
def askG (k : Nat) : V → Bool := if k = 5 then isP else isN
def askA (k : Nat) : Str := if k = 5 then "width" else "many"
def askB (k : Nat) : Str := if k = 4 then "width" else "reach"
def spAsk (K : PySem.W.Frag) : Sp := fun vs H Q _ => ∃ (k : Nat) (v1 v2 : V) (x : Str), vs = [.int k, v1, v2] ∧ k < 6 ∧ Kind K H v1 ∧ Kind K H v2 ∧ ((askG k v1 = false ∧ x = askA k) ∨ (askG k v1 = true ∧ isP v2 = false ∧ x = askB k)) ∧
  ∀ H' p, Same H H' → SqT K H' p [.str "not", .str x, .int (-1)] → Q (.ref p) H'
section
variable {P : Program} {w : World} {K : PySem.W.Frag} {mg : Str → Option Value} {base : Heap}
theorem ok_ask {C : Addr} (D : DefAt K mg "_law_ask" s_law_ask) (X : Err P w K mg base C)
    (h_sorted_least : Has P w K mg base (L2.CX P w) 6 "sorted_least" ["many", "reach"] (sp2 K C "many" isN "reach" isP (nmSorted K)))
    (h_least_sum : Has P w K mg base (L2.CX P w) 7 "least_sum" ["many", "reach"] (sp2 K C "many" isN "reach" isP nmSum))
    (h_least_greatest : Has P w K mg base (L2.CX P w) 6 "least_greatest" ["many", "reach"] (sp2 K C "many" isN "reach" isP nmGreat))
    (h_best_plan : Has P w K mg base (L2.CX P w) 30 "best_plan" ["many", "reach"] (sp2 K C "many" isN "reach" isP (nmBest K)))
    (h_best_for_writes : Has P w K mg base (L2.CX P w) 31 "best_for_writes" ["many", "width"] (sp2 K C "many" isN "width" isP (nmWrites K)))
    (h_full_plan : Has P w K mg base (L2.CX P w) 30 "full_plan" ["width", "reach"] (sp2 K C "width" isP "reach" isP (nmFull K))) :
    Has P w K mg base CX0 32 "_law_ask" ["_law_which", "_law_left", "_law_right"] (spAsk K) := by
  obtain ⟨f, fd, F, g⟩ := D.ex
  refine ⟨f, fd, ?_, g, F.kp, funLk F, F.binds fun _ _ _ _ _ _ us hl => match us, hl with | [_, _, _], _ => rfl⟩
  refine F.ok sc_law_ask (fun vs H Q E h => ?_) (fun cdv A outer s H vs Q E hr h => ?_)
  · obtain ⟨k, v1, v2, x, rfl, _⟩ := h
    rfl
  · obtain ⟨k, v1, v2, x, rfl, hk, k1, k2, hx, q⟩ := h
    refine ⟨_, (pss_one (ps_try_as (i := 3) (Wout := fun _ _ _ _ => False) rfl rfl sc_law_ask.nd rfl rfl ⟨rfl, by decide, Or.inl X.g⟩ takes0 (fun W pn xe tk _ => (pss_cons (ps_if (pt_cmpR op_eq (pv 0) pe_int (nomark _)) (pss_one (ps_ret (pe_tup (pa_cons pe_str (pa_cons (callHS h_sorted_least (hr.mono (by decide)) (fun σ => passAt tk σ) (by rfl) (pa_cons (pv 1) (pa_cons (pv 2) pa_nil))) pa_nil))))) pss_nil) (pss_cons (ps_if (pt_cmpR op_eq (pv 0) pe_int (nomark _)) (pss_one (ps_ret (pe_tup (pa_cons pe_str (pa_cons (callHS h_least_sum (hr.mono (by decide)) (fun σ => passAt tk σ) (by rfl) (pa_cons (pv 1) (pa_cons (pv 2) pa_nil))) pa_nil))))) pss_nil) (pss_cons (ps_if (pt_cmpR op_eq (pv 0) pe_int (nomark _)) (pss_one (ps_ret (pe_tup (pa_cons pe_str (pa_cons (callHS h_least_greatest (hr.mono (by decide)) (fun σ => passAt tk σ) (by rfl) (pa_cons (pv 1) (pa_cons (pv 2) pa_nil))) pa_nil))))) pss_nil) (pss_cons (ps_if (pt_cmpR op_eq (pv 0) pe_int (nomark _)) (pss_one (ps_ret (pe_tup (pa_cons pe_str (pa_cons (callHS h_best_plan (hr.mono (by decide)) (fun σ => passAt tk σ) (by rfl) (pa_cons (pv 1) (pa_cons (pv 2) pa_nil))) pa_nil))))) pss_nil) (pss_cons (ps_if (pt_cmpR op_eq (pv 0) pe_int (nomark _)) (pss_one (ps_ret (pe_tup (pa_cons pe_str (pa_cons (callHS h_best_for_writes (hr.mono (by decide)) (fun σ => passAt tk σ) (by rfl) (pa_cons (pv 1) (pa_cons (pv 2) pa_nil))) pa_nil))))) pss_nil) (pss_one (ps_ret (pe_tup (pa_cons pe_str (pa_cons (callHS h_full_plan (hr.mono (by decide)) (fun σ => passAt tk σ) (by rfl) (pa_cons (pv 1) (pa_cons (pv 2) pa_nil))) pa_nil))))))))))) (fun a oe cls d pn hz hf => (pss_one (ps_ret (pe_tup (pa_cons pe_str (pa_cons (pe_xf X.xf X.no_word hz hf (pv 3)) (pa_cons (pe_xf X.xf X.no_at hz hf (pv 3)) pa_nil))))))))), ?_⟩
    have hk6 : k = 0 ∨ k = 1 ∨ k = 2 ∨ k = 3 ∨ k = 4 ∨ k = 5 := by omega
    rcases hk6 with rfl | rfl | rfl | rfl | rfl | rfl
    · refine ⟨_, rfl, rfl, _, rfl, ite2 (fun _ => ?_) fun e => absurd (decide_eq_true rfl) e⟩
      refine ⟨_, rfl, _, rfl, _, _, rfl, k1, k2, fun e d H' hd sm ed => ?_, fun e1 e2 d H' hd sm ed => ?_, fun e1 e2 => ?_⟩
      · rcases hx with ⟨_, rfl⟩ | ⟨e3, _⟩
        · exact ⟨true, X.te, fun _ a na => ⟨_, rfl, rfl, rfl, d, _, _, rfl, ed, look_word _, _, rfl, rfl, rfl, d, _, _, rfl, ed, look_at _, by decide, fun p np => q _ p (sm.trans (same_new np)) SqT.new⟩, fun z => Bool.noConfusion z⟩
        · exact absurd (e3.symm.trans e) (by decide)
      · rcases hx with ⟨e3, _⟩ | ⟨_, _, rfl⟩
        · exact absurd (e3.symm.trans e1) (by decide)
        · exact ⟨true, X.te, fun _ a na => ⟨_, rfl, rfl, rfl, d, _, _, rfl, ed, look_word _, _, rfl, rfl, rfl, d, _, _, rfl, ed, look_at _, by decide, fun p np => q _ p (sm.trans (same_new np)) SqT.new⟩, fun z => Bool.noConfusion z⟩
      · rcases hx with ⟨e3, _⟩ | ⟨_, e3, _⟩
        · exact absurd (e3.symm.trans e1) (by decide)
        · exact absurd (e3.symm.trans e2) (by decide)
    · refine ⟨_, rfl, rfl, _, rfl, ite2 (fun e => absurd (V.int.inj (of_decide_eq_true e)) (by decide)) fun _ => ?_⟩
      refine ⟨_, rfl, rfl, _, rfl, ite2 (fun _ => ?_) fun e => absurd (decide_eq_true rfl) e⟩
      refine ⟨_, rfl, _, rfl, _, _, rfl, k1, k2, fun e d H' hd sm ed => ?_, fun e1 e2 d H' hd sm ed => ?_, fun e1 e2 => ?_⟩
      · rcases hx with ⟨_, rfl⟩ | ⟨e3, _⟩
        · exact ⟨true, X.te, fun _ a na => ⟨_, rfl, rfl, rfl, d, _, _, rfl, ed, look_word _, _, rfl, rfl, rfl, d, _, _, rfl, ed, look_at _, by decide, fun p np => q _ p (sm.trans (same_new np)) SqT.new⟩, fun z => Bool.noConfusion z⟩
        · exact absurd (e3.symm.trans e) (by decide)
      · rcases hx with ⟨e3, _⟩ | ⟨_, _, rfl⟩
        · exact absurd (e3.symm.trans e1) (by decide)
        · exact ⟨true, X.te, fun _ a na => ⟨_, rfl, rfl, rfl, d, _, _, rfl, ed, look_word _, _, rfl, rfl, rfl, d, _, _, rfl, ed, look_at _, by decide, fun p np => q _ p (sm.trans (same_new np)) SqT.new⟩, fun z => Bool.noConfusion z⟩
      · rcases hx with ⟨e3, _⟩ | ⟨_, e3, _⟩
        · exact absurd (e3.symm.trans e1) (by decide)
        · exact absurd (e3.symm.trans e2) (by decide)
    · refine ⟨_, rfl, rfl, _, rfl, ite2 (fun e => absurd (V.int.inj (of_decide_eq_true e)) (by decide)) fun _ => ?_⟩
      refine ⟨_, rfl, rfl, _, rfl, ite2 (fun e => absurd (V.int.inj (of_decide_eq_true e)) (by decide)) fun _ => ?_⟩
      refine ⟨_, rfl, rfl, _, rfl, ite2 (fun _ => ?_) fun e => absurd (decide_eq_true rfl) e⟩
      refine ⟨_, rfl, _, rfl, _, _, rfl, k1, k2, fun e d H' hd sm ed => ?_, fun e1 e2 d H' hd sm ed => ?_, fun e1 e2 => ?_⟩
      · rcases hx with ⟨_, rfl⟩ | ⟨e3, _⟩
        · exact ⟨true, X.te, fun _ a na => ⟨_, rfl, rfl, rfl, d, _, _, rfl, ed, look_word _, _, rfl, rfl, rfl, d, _, _, rfl, ed, look_at _, by decide, fun p np => q _ p (sm.trans (same_new np)) SqT.new⟩, fun z => Bool.noConfusion z⟩
        · exact absurd (e3.symm.trans e) (by decide)
      · rcases hx with ⟨e3, _⟩ | ⟨_, _, rfl⟩
        · exact absurd (e3.symm.trans e1) (by decide)
        · exact ⟨true, X.te, fun _ a na => ⟨_, rfl, rfl, rfl, d, _, _, rfl, ed, look_word _, _, rfl, rfl, rfl, d, _, _, rfl, ed, look_at _, by decide, fun p np => q _ p (sm.trans (same_new np)) SqT.new⟩, fun z => Bool.noConfusion z⟩
      · rcases hx with ⟨e3, _⟩ | ⟨_, e3, _⟩
        · exact absurd (e3.symm.trans e1) (by decide)
        · exact absurd (e3.symm.trans e2) (by decide)
    · refine ⟨_, rfl, rfl, _, rfl, ite2 (fun e => absurd (V.int.inj (of_decide_eq_true e)) (by decide)) fun _ => ?_⟩
      refine ⟨_, rfl, rfl, _, rfl, ite2 (fun e => absurd (V.int.inj (of_decide_eq_true e)) (by decide)) fun _ => ?_⟩
      refine ⟨_, rfl, rfl, _, rfl, ite2 (fun e => absurd (V.int.inj (of_decide_eq_true e)) (by decide)) fun _ => ?_⟩
      refine ⟨_, rfl, rfl, _, rfl, ite2 (fun _ => ?_) fun e => absurd (decide_eq_true rfl) e⟩
      refine ⟨_, rfl, _, rfl, _, _, rfl, k1, k2, fun e d H' hd sm ed => ?_, fun e1 e2 d H' hd sm ed => ?_, fun e1 e2 => ?_⟩
      · rcases hx with ⟨_, rfl⟩ | ⟨e3, _⟩
        · exact ⟨true, X.te, fun _ a na => ⟨_, rfl, rfl, rfl, d, _, _, rfl, ed, look_word _, _, rfl, rfl, rfl, d, _, _, rfl, ed, look_at _, by decide, fun p np => q _ p (sm.trans (same_new np)) SqT.new⟩, fun z => Bool.noConfusion z⟩
        · exact absurd (e3.symm.trans e) (by decide)
      · rcases hx with ⟨e3, _⟩ | ⟨_, _, rfl⟩
        · exact absurd (e3.symm.trans e1) (by decide)
        · exact ⟨true, X.te, fun _ a na => ⟨_, rfl, rfl, rfl, d, _, _, rfl, ed, look_word _, _, rfl, rfl, rfl, d, _, _, rfl, ed, look_at _, by decide, fun p np => q _ p (sm.trans (same_new np)) SqT.new⟩, fun z => Bool.noConfusion z⟩
      · rcases hx with ⟨e3, _⟩ | ⟨_, e3, _⟩
        · exact absurd (e3.symm.trans e1) (by decide)
        · exact absurd (e3.symm.trans e2) (by decide)
    · refine ⟨_, rfl, rfl, _, rfl, ite2 (fun e => absurd (V.int.inj (of_decide_eq_true e)) (by decide)) fun _ => ?_⟩
      refine ⟨_, rfl, rfl, _, rfl, ite2 (fun e => absurd (V.int.inj (of_decide_eq_true e)) (by decide)) fun _ => ?_⟩
      refine ⟨_, rfl, rfl, _, rfl, ite2 (fun e => absurd (V.int.inj (of_decide_eq_true e)) (by decide)) fun _ => ?_⟩
      refine ⟨_, rfl, rfl, _, rfl, ite2 (fun e => absurd (V.int.inj (of_decide_eq_true e)) (by decide)) fun _ => ?_⟩
      refine ⟨_, rfl, rfl, _, rfl, ite2 (fun _ => ?_) fun e => absurd (decide_eq_true rfl) e⟩
      refine ⟨_, rfl, _, rfl, _, _, rfl, k1, k2, fun e d H' hd sm ed => ?_, fun e1 e2 d H' hd sm ed => ?_, fun e1 e2 => ?_⟩
      · rcases hx with ⟨_, rfl⟩ | ⟨e3, _⟩
        · exact ⟨true, X.te, fun _ a na => ⟨_, rfl, rfl, rfl, d, _, _, rfl, ed, look_word _, _, rfl, rfl, rfl, d, _, _, rfl, ed, look_at _, by decide, fun p np => q _ p (sm.trans (same_new np)) SqT.new⟩, fun z => Bool.noConfusion z⟩
        · exact absurd (e3.symm.trans e) (by decide)
      · rcases hx with ⟨e3, _⟩ | ⟨_, _, rfl⟩
        · exact absurd (e3.symm.trans e1) (by decide)
        · exact ⟨true, X.te, fun _ a na => ⟨_, rfl, rfl, rfl, d, _, _, rfl, ed, look_word _, _, rfl, rfl, rfl, d, _, _, rfl, ed, look_at _, by decide, fun p np => q _ p (sm.trans (same_new np)) SqT.new⟩, fun z => Bool.noConfusion z⟩
      · rcases hx with ⟨e3, _⟩ | ⟨_, e3, _⟩
        · exact absurd (e3.symm.trans e1) (by decide)
        · exact absurd (e3.symm.trans e2) (by decide)
    · refine ⟨_, rfl, rfl, _, rfl, ite2 (fun e => absurd (V.int.inj (of_decide_eq_true e)) (by decide)) fun _ => ?_⟩
      refine ⟨_, rfl, rfl, _, rfl, ite2 (fun e => absurd (V.int.inj (of_decide_eq_true e)) (by decide)) fun _ => ?_⟩
      refine ⟨_, rfl, rfl, _, rfl, ite2 (fun e => absurd (V.int.inj (of_decide_eq_true e)) (by decide)) fun _ => ?_⟩
      refine ⟨_, rfl, rfl, _, rfl, ite2 (fun e => absurd (V.int.inj (of_decide_eq_true e)) (by decide)) fun _ => ?_⟩
      refine ⟨_, rfl, rfl, _, rfl, ite2 (fun e => absurd (V.int.inj (of_decide_eq_true e)) (by decide)) fun _ => ?_⟩
      refine ⟨_, rfl, _, rfl, _, _, rfl, k1, k2, fun e d H' hd sm ed => ?_, fun e1 e2 d H' hd sm ed => ?_, fun e1 e2 => ?_⟩
      · rcases hx with ⟨_, rfl⟩ | ⟨e3, _⟩
        · exact ⟨true, X.te, fun _ a na => ⟨_, rfl, rfl, rfl, d, _, _, rfl, ed, look_word _, _, rfl, rfl, rfl, d, _, _, rfl, ed, look_at _, by decide, fun p np => q _ p (sm.trans (same_new np)) SqT.new⟩, fun z => Bool.noConfusion z⟩
        · exact absurd (e3.symm.trans e) (by decide)
      · rcases hx with ⟨e3, _⟩ | ⟨_, _, rfl⟩
        · exact absurd (e3.symm.trans e1) (by decide)
        · exact ⟨true, X.te, fun _ a na => ⟨_, rfl, rfl, rfl, d, _, _, rfl, ed, look_word _, _, rfl, rfl, rfl, d, _, _, rfl, ed, look_at _, by decide, fun p np => q _ p (sm.trans (same_new np)) SqT.new⟩, fun z => Bool.noConfusion z⟩
      · rcases hx with ⟨e3, _⟩ | ⟨_, e3, _⟩
        · exact absurd (e3.symm.trans e1) (by decide)
        · exact absurd (e3.symm.trans e2) (by decide)
end
/-! ### _law_refused -/
abbrev s_law_refused : Stmt := top 49
abbrev N_law_refused : List Str := ["_law_value", "_law_which", "_law_first", "_law_second"]
theorem sc_law_refused : FnScope N_law_refused ["_law_value"] (defScope s_law_refused) := ⟨rfl, rfl, rfl, by decide +kernel, rfl, by decide +kernel, by decide +kernel⟩
def BadV (K : PySem.W.Frag) (H : Hp) (v : V) : Prop := v = .int 0 ∨ v = .int (-1) ∨ (∃ b, v = .bl b) ∨ v = .non ∨ v = .str "2" ∨ ∃ a, v = .ref a ∧ SqT K H a [.int 2]
theorem BadV.same {K : PySem.W.Frag} {H H' : Hp} {v : V} (s : Same H H') (h : BadV K H v) : BadV K H' v := by
  rcases h with h | h | h | h | h | ⟨a, e, h⟩
  · exact .inl h
  · exact .inr (.inl h)
  · exact .inr (.inr (.inl h))
  · exact .inr (.inr (.inr (.inl h)))
  · exact .inr (.inr (.inr (.inr (.inl h))))
  · exact .inr (.inr (.inr (.inr (.inr ⟨a, e, sT s h⟩))))
theorem BadV.kind {K : PySem.W.Frag} {H : Hp} {v : V} (h : BadV K H v) : Kind K H v := by
  rcases h with rfl | rfl | ⟨b, rfl⟩ | rfl | rfl | ⟨a, rfl, h⟩ <;> first | trivial | exact ⟨_, h⟩
theorem BadV.noP {K : PySem.W.Frag} {H : Hp} {v : V} (h : BadV K H v) : isP v = false := by
  rcases h with rfl | rfl | ⟨b, rfl⟩ | rfl | rfl | ⟨a, rfl, h⟩ <;> rfl
theorem BadV.noN {K : PySem.W.Frag} {H : Hp} {v : V} (h : BadV K H v) : v = .int 0 ∨ isN v = false := by
  rcases h with rfl | rfl | ⟨b, rfl⟩ | rfl | rfl | ⟨a, rfl, h⟩ <;> first | exact .inl rfl | exact .inr rfl
theorem BadV.data {K : PySem.W.Frag} {H : Hp} {v : V} (h : BadV K H v) : ∃ d, Dp K H v d ∧ SeqAt.shaped d = true ∧ (v = .int 0 → d = .int 0) := by
  rcases h with rfl | rfl | ⟨b, rfl⟩ | rfl | rfl | ⟨a, rfl, h⟩
  · exact ⟨_, .int 0, by decide +kernel, fun _ => rfl⟩
  · exact ⟨_, .int (-1), by decide +kernel, fun e => by cases e⟩
  · exact ⟨_, .bl b, by cases b <;> decide +kernel, fun e => by cases e⟩
  · exact ⟨_, .non, by decide +kernel, fun e => by cases e⟩
  · exact ⟨_, .str "2", by decide +kernel, fun e => by cases e⟩
  · exact ⟨_, .tup h (.cons (.int 2) .nil), by decide +kernel, fun e => by cases e⟩
def notD (x : Str) : PyData := .tuple [.str "not", .str x, .int (-1)]
theorem dpNot {K : PySem.W.Frag} {H : Hp} {a : Addr} {x : Str} (h : SqT K H a [.str "not", .str x, .int (-1)]) : Dp K H (.ref a) (notD x) := .tup h (.cons (.str _) (.cons (.str _) (.cons (.int _) .nil)))
theorem notD_ok : ∀ k, k < 6 → (SeqAt.shaped (notD (askA k)) = true ∧ PyData.eqv (notD (askA k)) (notD (askA k)) = true) ∧ (SeqAt.shaped (notD (askB k)) = true ∧ PyData.eqv (notD (askB k)) (notD (askB k)) = true) := by decide +kernel
theorem neNot {K : PySem.W.Frag} {H : Hp} {a b : Addr} {x : Str} {Q : VK} (ha : SqT K H a [.str "not", .str x, .int (-1)]) (hb : SqT K H b [.str "not", .str x, .int (-1)]) (h : SeqAt.shaped (notD x) = true ∧ PyData.eqv (notD x) (notD x) = true) (q : Q (.bl false) H) : rNeD K (.ref a) (.ref b) H Q := by
  refine ⟨notD x, notD x, dpNot ha, dpNot hb, h.1, h.1, ?_⟩
  rw [h.2]
  exact q
theorem firsts : ∀ k, k < 6 → ([V.str "many", V.str "many", V.str "many", V.str "many", V.str "many", V.str "width"] : List V)[k]? = some (V.str (askA k)) := by decide +kernel
theorem seconds : ∀ k, k < 6 → ([V.str "reach", V.str "reach", V.str "reach", V.str "reach", V.str "width", V.str "reach"] : List V)[k]? = some (V.str (askB k)) := by decide +kernel
def isB : V → Bool
  | .bl _ => true
  | _ => false
theorem kit_isB {K : PySem.W.Frag} {H : Hp} {v : V} (h : Kind K H v) : PySem.W.kitOne K (tyOfV v) (.type "bool") = some (isB v) := by
  cases v with
  | int i => exact kit_int_bool
  | bl b => exact kit_bool
  | non => exact kit_none_bool
  | str x => exact kit_str_bool
  | ref a => exact kit_tup_bool
  | byt b => exact h.elim
  | flt b => exact h.elim
  | ty n => exact h.elim
theorem askG_bad {i : Nat} {v : V} (hp : isP v = false) (h : i = 5 ∨ isN v = false) : askG i v = false := by
  unfold askG
  split
  · exact hp
  · rcases h with h | h
    · contradiction
    · exact h
theorem test_use {K : PySem.W.Frag} {σ : L2.St} {H : Hp} {Q : Bool → Hp → Prop} {v : V} {i : Nat} (e0 : σ[0]? = some (some v)) (e1 : σ[1]? = some (some (.int (0 + (i : Int))))) (hv : BadV K H v) (h1 : askG i v = false → Q true H) (h0 : Q false H) :
    tOr (tTest (tOp (rNeD K) (tVar 0) (tC (.int 0)))) (tOr (tTest (tOp rEq (tVar 1) (tC (.int 5)))) (tB (tCB (rIsi K) (tCons (tVar 0) (tCons (tC (.ty "bool")) tNil))))) σ H Q := by
  obtain ⟨d, hd, sh, hz⟩ := hv.data
  refine ⟨v, e0, d, .int 0, hd, .int 0, sh, by decide +kernel, _, rfl, ite2 (fun e => ?_) (fun _ => ?_)⟩
  · refine h1 (askG_bad hv.noP ?_)
    rcases hv.noN with z | z
    · rw [hz z] at e
      exact absurd e (by decide +kernel)
    · exact .inr z
  · refine ⟨_, e1, rfl, _, rfl, ite2 (fun e => ?_) (fun _ => ?_)⟩
    · have e5 : (0 : Int) + (i : Int) = 5 := V.int.inj (of_decide_eq_true e)
      exact h1 (askG_bad hv.noP (.inl (by omega)))
    · refine ⟨v, e0, _, _, _, _, _, rfl, .ty _, hv.kind.ty, kit_isB hv.kind, _, rfl, ?_⟩
      cases eb : isB v with
      | false => exact h0
      | true =>
        refine h1 (askG_bad hv.noP (.inr ?_))
        cases v <;> first | rfl | cases eb
def spRefused (K : PySem.W.Frag) : Sp := fun vs H Q _ => ∃ v : V, vs = [v] ∧ BadV K H v ∧ ∀ H', Same H H' → Q (.bl true) H'
section
variable {P : Program} {w : World} {K : PySem.W.Frag} {mg : Str → Option Value} {base : Heap}
theorem ok_refused (D : DefAt K mg "_law_refused" s_law_refused) (T : Txt mg) (h_law_ask : Has P w K mg base CX0 32 "_law_ask" ["_law_which", "_law_left", "_law_right"] (spAsk K)) :
    Has P w K mg base CX0 33 "_law_refused" ["_law_value"] (spRefused K) := by
  obtain ⟨f, fd, F, g⟩ := D.ex
  refine ⟨f, fd, ?_, g, F.kp, funLk F, F.binds fun _ _ _ _ _ _ us hl => match us, hl with | [_], _ => rfl⟩
  refine F.ok sc_law_refused (fun vs H Q E h => ?_) (fun cdv A outer s H vs Q E hr h => ?_)
  · obtain ⟨v, rfl, _⟩ := h
    rfl
  · obtain ⟨v, rfl, hv, q⟩ := h
    refine ⟨_, (pss_cons (ps_for PassesOwn.never rfl (pi_range1 (by rfl) T.range (pa_cons pe_int pa_nil)) (pg_name (i := 1) sc_law_refused.nd rfl (Or.inl rfl)) (pss_cons (ps_set (i := 2) sc_law_refused.nd rfl (Or.inl rfl) (pe_ix ix_tup (pe_tup (pa_cons pe_str (pa_cons pe_str (pa_cons pe_str (pa_cons pe_str (pa_cons pe_str (pa_cons pe_str pa_nil))))))) (pv 1) (fun _ _ => rfl))) (pss_cons (ps_set (i := 3) sc_law_refused.nd rfl (Or.inl rfl) (pe_ix ix_tup (pe_tup (pa_cons pe_str (pa_cons pe_str (pa_cons pe_str (pa_cons pe_str (pa_cons pe_str (pa_cons pe_str pa_nil))))))) (pv 1) (fun _ _ => rfl))) (C8.pss_cut (ps_if (PW.pt (pw_or (pt_cmpR (op_neD hr.units) (pv 0) pe_int (nomark _)) (pw_or (pt_cmpR op_eq (pv 1) pe_int (nomark _)) (pw_or1 (pt_val (pe_callB call_isi (by rfl) T.isinstance bt_isinstance (pa_cons (pv 0) (pa_cons (pe_bltn (v := .ty "bool") (by rfl) T.bool bt_bool rfl) pa_nil)))))))) (pss_cons (ps_if (pt_cmpR (op_neD hr.units) (callH h_law_ask (hr.mono (by decide)) pass0 (by rfl) (pa_cons (pv 1) (pa_cons (pv 0) (pa_cons (pv 0) pa_nil)))) (pe_tup (pa_cons pe_str (pa_cons (pv 2) (pa_cons (pe_un un_neg pe_int) pa_nil)))) (nomark _)) (pss_one (ps_ret pe_bl)) pss_nil) (pss_one (ps_if (pt_cmpR (op_neD hr.units) (callH h_law_ask (hr.mono (by decide)) pass0 (by rfl) (pa_cons (pv 1) (pa_cons (pv 0) (pa_cons pe_int pa_nil)))) (pe_tup (pa_cons pe_str (pa_cons (pv 2) (pa_cons (pe_un un_neg pe_int) pa_nil)))) (nomark _)) (pss_one (ps_ret pe_bl)) pss_nil))) pss_nil) (pss_one (ps_if (pt_cmpR (op_neD hr.units) (callH h_law_ask (hr.mono (by decide)) pass0 (by rfl) (pa_cons (pv 1) (pa_cons pe_int (pa_cons (pv 0) pa_nil)))) (pe_tup (pa_cons pe_str (pa_cons (pv 3) (pa_cons (pe_un un_neg pe_int) pa_nil)))) (nomark _)) (pss_one (ps_ret pe_bl)) pss_nil))))))
      (pss_one (ps_ret pe_bl))), ?_⟩
    refine ⟨6, rfl, by decide, by decide, ?_⟩
    refine for_range (lo := 0) (n := 6) (fun i σ H' => ∃ y2 y3 y4, σ = [some v, y2, y3, y4] ∧ Same H H') ⟨none, none, none, rfl, Same.refl H⟩ (fun i σ H' hi hP => ?_) (fun σ H' hP => ?_)
    · obtain ⟨y2, y3, y4, rfl, sm⟩ := hP
      have fi := firsts i hi
      have se := seconds i hi
      have nA := (notD_ok i hi).1
      have nB := (notD_ok i hi).2
      have ei : (0 : Int) + (i : Int) = ((i : Nat) : Int) := by omega
      refine ⟨by show 6 ≤ sizeLine; decide, fun t1 n1 => ⟨_, rfl, t1, _, _, _, rfl, rfl, SqT.new, at_of (j := i) ei fi, ?_⟩⟩
      have s1 := same_new (o := HO.tup [V.str "many", V.str "many", V.str "many", V.str "many", V.str "many", V.str "width"]) n1
      refine ⟨by show 6 ≤ sizeLine; decide, fun t2 n2 => ⟨_, rfl, t2, _, _, _, rfl, rfl, SqT.new, at_of (j := i) ei se, ?_⟩⟩
      have s2 := same_new (o := HO.tup [V.str "reach", V.str "reach", V.str "reach", V.str "reach", V.str "width", V.str "reach"]) n2
      have s3 := (sm.trans s1).trans s2
      refine ⟨fun σ' H2 => σ' = [some v, some (.int (0 + (i : Int))), some (.str (askA i)), some (.str (askB i))] ∧ Same H H2, ?_, fun σ' H2 hP => ?_⟩
      · refine test_use (K := K) (i := i) rfl rfl (hv.same s3) (fun hg => ?_) ⟨rfl, s3⟩
        refine iteT ?_
        -- ask(which, value, value)
        refine ⟨_, rfl, _, rfl, _, rfl, i, v, v, askA i, by rw [ei], hi, (hv.same s3).kind, (hv.same s3).kind, .inl ⟨hg, rfl⟩, fun H4 p4 s4 h4 => ?_⟩
        refine ⟨_, rfl, _, rfl, by show 3 ≤ sizeLine; decide, fun t5 n5 => ?_⟩
        have s5 := same_new (o := HO.tup [V.str "not", V.str (askA i), V.int (-1)]) n5
        refine neNot (sT s5 h4) SqT.new nA ⟨_, rfl, iteF ?_⟩
        have s35 := (s3.trans s4).trans s5
        refine ⟨_, rfl, _, rfl, i, v, .int 2, askA i, by rw [ei], hi, (hv.same s35).kind, trivial, .inl ⟨hg, rfl⟩, fun H6 p6 s6 h6 => ?_⟩
        refine ⟨_, rfl, _, rfl, by show 3 ≤ sizeLine; decide, fun t7 n7 => ?_⟩
        have s7 := same_new (o := HO.tup [V.str "not", V.str (askA i), V.int (-1)]) n7
        refine neNot (sT s7 h6) SqT.new nA ⟨_, rfl, iteF ⟨rfl, (s35.trans s6).trans s7⟩⟩
      · obtain ⟨rfl, s4⟩ := hP
        have hg2 : askG i (.int 2) = true := by
          unfold askG
          split <;> rfl
        refine ⟨_, rfl, _, rfl, i, .int 2, v, askB i, by rw [ei], hi, trivial, (hv.same s4).kind, .inr ⟨hg2, hv.noP, rfl⟩, fun H6 p6 s6 h6 => ?_⟩
        refine ⟨_, rfl, _, rfl, by show 3 ≤ sizeLine; decide, fun t7 n7 => ?_⟩
        have s7 := same_new (o := HO.tup [V.str "not", V.str (askB i), V.int (-1)]) n7
        exact neNot (sT s7 h6) SqT.new nB ⟨_, rfl, iteF ⟨_, _, _, rfl, (s4.trans s6).trans s7⟩⟩
    · obtain ⟨y2, y3, y4, rfl, sm⟩ := hP
      exact q H' sm
end
end K26
namespace K26
open PySem PySem.Spec PyProof.Rows L2
theorem units65 {k : Nat} {A : Around} (r : Room k A) : A.units + 65 < cLine := by
  have := r.un
  omega
def RowAt (H : Hp) (D : Addr) (v : V) (r : List Int × List Int) : Prop := ∃ p b c, v = .ref p ∧ p ≠ D ∧ b ≠ D ∧ c ≠ D ∧ H p = some (.tup [.ref b, .ref c]) ∧ H b = some (.lst (r.1.map V.int)) ∧ H c = some (.lst (r.2.map V.int))
theorem rows_same {H H' : Hp} {D : Addr} {xs : List V} {rs : List (List Int × List Int)} (s : Same H H') (h : Paired (RowAt H D) xs rs) : Paired (RowAt H' D) xs rs :=
  paired_imp (fun _ _ ⟨p, b, c, e, n1, n2, n3, h1, h2, h3⟩ => ⟨p, b, c, e, n1, n2, n3, s _ _ h1, s _ _ h2, s _ _ h3⟩) h
theorem rows_put {H : Hp} {D : Addr} {o : HO} {xs : List V} {rs : List (List Int × List Int)} (h : Paired (RowAt H D) xs rs) : Paired (RowAt (upd H D o) D) xs rs :=
  paired_imp (fun _ _ ⟨p, b, c, e, n1, n2, n3, h1, h2, h3⟩ => ⟨p, b, c, e, n1, n2, n3, by rw [upd_ne n1]; exact h1, by rw [upd_ne n2]; exact h2, by rw [upd_ne n3]; exact h3⟩) h
def LstAt (H : Hp) (v : V) (l : List Int) : Prop := ∃ b, v = .ref b ∧ H b = some (.lst (l.map V.int))
theorem lsts_same {H H' : Hp} {xs : List V} {ls : List (List Int)} (s : Same H H') (h : Paired (LstAt H) xs ls) : Paired (LstAt H') xs ls :=
  paired_imp (fun _ _ ⟨b, e, h1⟩ => ⟨b, e, s _ _ h1⟩) h
theorem filt_take {α : Type} {l : List α} {i : Nat} {r : α} (p : α → Bool) (h : l[i]? = some r) : (l.take (i + 1)).filter p = (l.take i).filter p ++ if p r = true then [r] else [] := by
  rw [List.take_add_one, h, List.filter_append]
  congr 1
  cases e : p r with
  | true => simp [e]
  | false => simp [e]
def pR (q : Nat) (r : List Int × List Int) : Bool := r.2 == [] || decide (lastD r.2 ≤ ((q : Nat) : Int))
def pW (q : Nat) (r : List Int × List Int) : Bool := r.1 == [] || decide (lastD r.1 ≤ ((q : Nat) : Int))
theorem row_of {n : Nat} {r : List Int × List Int} (h : r ∈ rowsM n) : r.1.length = n ∧ r.2.length = n := by
  unfold rowsM at h
  obtain ⟨f, hf, rfl⟩ := List.mem_map.mp h
  have hl := (allM_plan n f hf).2
  exact ⟨by show (sortW f).length = n; rw [sortW_len, hl], by show (sortR f).length = n; rw [sortR_len, hl]⟩
theorem rows_len {n : Nat} (hn : n ≤ 6) : (rowsM n).length ≤ 1000 := by
  unfold rowsM
  rw [List.length_map]
  exact all_small n (by omega)
theorem byR_len {n q : Nat} {l : List Int} (h : l ∈ byR n q) : l.length = n := by
  unfold byR at h
  obtain ⟨r, hr, rfl⟩ := List.mem_map.mp h
  exact (row_of (List.mem_filter.mp hr).1).1
theorem byW_len {n q : Nat} {l : List Int} (h : l ∈ byW n q) : l.length = n := by
  unfold byW at h
  obtain ⟨r, hr, rfl⟩ := List.mem_map.mp h
  exact (row_of (List.mem_filter.mp hr).1).2
theorem byR_small {n q : Nat} (hn : n ≤ 6) : (byR n q).length ≤ 1000 := by
  unfold byR
  rw [List.length_map]
  exact Nat.le_trans (List.length_filter_le _ _) (rows_len hn)
theorem byW_small {n q : Nat} (hn : n ≤ 6) : (byW n q).length ≤ 1000 := by
  unfold byW
  rw [List.length_map]
  exact Nat.le_trans (List.length_filter_le _ _) (rows_len hn)
theorem foldl_min (x : Int) : ∀ (l : List Int) (a : Int), x ∈ a :: l → (∀ y, y ∈ a :: l → x ≤ y) → l.foldl min a = x
  | [], a, h, _ => (List.mem_singleton.mp h).symm
  | y :: l, a, h, hle => by
    have h1 := hle a List.mem_cons_self
    have h2 := hle y (List.mem_cons_of_mem _ List.mem_cons_self)
    show l.foldl min (min a y) = x
    refine foldl_min x l _ ?_ (fun z hz => ?_)
    · rcases List.mem_cons.mp h with e | h
      · subst e
        rw [Int.min_eq_left h2]
        exact List.mem_cons_self
      · rcases List.mem_cons.mp h with e | h
        · subst e
          rw [Int.min_eq_right h1]
          exact List.mem_cons_self
        · exact List.mem_cons_of_mem _ h
    · rcases List.mem_cons.mp hz with e | hz
      · subst e
        exact Int.le_min.mpr ⟨h1, h2⟩
      · exact hle z (List.mem_cons_of_mem _ (List.mem_cons_of_mem _ hz))
theorem minM_eq {l : List Int} {m : Int} (h : m ∈ l) (hle : ∀ y, y ∈ l → m ≤ y) : m = minM l := by
  cases l with
  | nil => cases h
  | cons a l => exact (foldl_min m l a h hle).symm
def dLL (ls : List (List Int)) : PyData := .list (ls.map dL)
theorem dpAllL {K : PySem.W.Frag} {H : Hp} : ∀ {xs : List V} {ls : List (List Int)}, Paired (LstAt H) xs ls → DpAll K H xs (ls.map dL)
  | _, _, .nil => .nil
  | _, _, .cons ⟨b, e, h⟩ t => by
    subst e
    exact .cons (dpL (SqL.of h)) (dpAllL t)
theorem lay_lists : ∀ ls : List (List Int), PyData.canLayAll0 (ls.map dL) = true
  | [] => by simp [PyData.canLayAll0]
  | l :: ls => by
    have h := shL l
    unfold SeqAt.shaped at h
    rw [Bool.and_eq_true] at h
    simp [PyData.canLayAll0, h.1, lay_lists ls]
theorem depth_lists : ∀ ls : List (List Int), PyData.depthAll (ls.map dL) ≤ 2
  | [] => by simp [PyData.depthAll]
  | l :: ls => by
    have h := depth_lists ls
    have h2 := depth_ints l
    simp only [List.map_cons, PyData.depthAll, PyData.depth, dL] at h ⊢
    omega
theorem shLL (ls : List (List Int)) : SeqAt.shaped (dLL ls) = true := by
  unfold SeqAt.shaped dLL
  rw [Bool.and_eq_true]
  refine ⟨lay_lists ls, decide_eq_true ?_⟩
  have := depth_lists ls
  simp only [PyData.depth]
  omega
theorem notIn_use {K : PySem.W.Frag} {H : Hp} {a b : Addr} {ns : List Int} {xs : List V} {ls : List (List Int)} {Q : VK} (ha : SqL K H a (ns.map V.int)) (hb : SqL K H b xs) (h : Paired (LstAt H) xs ls) (hm : ns ∈ ls) (q : Q (.bl false) H) : rNotInD K (.ref a) (.ref b) H Q := by
  refine ⟨dL ns, ls.map dL, dpL ha, .lst hb (dpAllL h), shL ns, shLL ls, ?_⟩
  have e : ((ls.map dL).any fun z => PyData.eqv z (dL ns)) = true := by
    rw [List.any_map, List.any_eq_true]
    refine ⟨ns, hm, ?_⟩
    show PyData.eqv (dL ns) (dL ns) = true
    rw [eqvL, decide_eq_true rfl]
  rw [e]
  exact q
/-! ### _law_all_hold -/
abbrev s_law_all_hold : Stmt := top 44
abbrev N_law_all_hold : List Str := ["_law_hand_here", "_law_size", "_law_bound", "_law_rows", "_law_found", "_law_by_reads", "_law_row", "_law_by_writes", "_law_due", "_law_k", "_law_other_due"]
theorem sc_law_all_hold : FnScope N_law_all_hold ["_law_hand_here"] (defScope s_law_all_hold) := ⟨rfl, rfl, rfl, by decide +kernel, rfl, by decide +kernel, by decide +kernel⟩
section
variable {P : Program} {w : World} {K : PySem.W.Frag} {mg : Str → Option Value} {base : Heap}
theorem ok_all_hold {C : Addr} (D : DefAt K mg "_law_all_hold" s_law_all_hold) (T : Txt mg) (h_law_take : Has P w K mg base CX0 2 "_law_take" ["_law_hand_here", "_law_most"] spTake)
    (h_law_sorted : Has P w K mg base CX0 2 "_law_sorted" ["_law_found"] (spSorted K)) (h_law_all : Has P w K mg base CX0 3 "_law_all" ["_law_size"] (spAll K))
    (h_law_least : Has P w K mg base CX0 2 "_law_least" ["_law_size", "_law_far"] spLeast)
    (h_law_same : Has P w K mg base CX0 4 "_law_same" ["_law_told", "_law_due"] (spSame K 2))
    (h_sorted_least : Has P w K mg base (L2.CX P w) 6 "sorted_least" ["many", "reach"] (sp2 K C "many" isN "reach" isP (nmSorted K)))
    (h_law_best_hold : Has P w K mg base CX0 32 "_law_best_hold" ["_law_size", "_law_bound", "_law_due"] (spBestHold K)) :
    Has P w K mg base CX0 33 "_law_all_hold" ["_law_hand_here"] spHold := by
  obtain ⟨f, fd, F, g⟩ := D.ex
  refine ⟨f, fd, ?_, g, F.kp, funLk F, F.binds fun _ _ _ _ _ _ us hl => match us, hl with | [_], _ => rfl⟩
  refine F.ok sc_law_all_hold (fun vs H Q E h => ?_) (fun cdv A outer s H vs Q E hr h => ?_)
  · obtain ⟨hd, rfl, _⟩ := h
    rfl
  · obtain ⟨hd, rfl, hh, q⟩ := h
    refine ⟨_, (pss_cons (ps_set (i := 1) sc_law_all_hold.nd rfl (Or.inl rfl) (callH h_law_take (hr.mono (by decide)) pass0 (by rfl) (pa_cons (pv 0) (pa_cons pe_int pa_nil))))
      (pss_cons (ps_set (i := 2) sc_law_all_hold.nd rfl (Or.inr rfl) (pe_op op_add pe_int (callH h_law_take (hr.mono (by decide)) pass0 (by rfl) (pa_cons (pv 0) (pa_cons (pe_op op_add (pv 1) pe_int) pa_nil)))))
      (pss_cons (ps_setLc (i := 3) (own := [("_law_found", 4)]) (g := gName 4) rfl sc_law_all_hold.nd rfl rfl (sw_true rfl rfl rfl (by decide +kernel)) (pi_list (callH h_law_all (hr.mono (by decide)) pass0 (by rfl) (pa_cons (pv 1) pa_nil))) (blkOk_by (own := [("_law_found", 4)]) (N := N_law_all_hold) (sc := (defScope s_law_all_hold)) (by decide +kernel)) (fun _ _ _ _ _ => pg_name (i := 4) sc_law_all_hold.nd rfl (Or.inl rfl)) (fun _ _ _ _ _ => pts_nil) (fun _ _ _ _ _ => (callH h_law_sorted (hr.mono (by decide)) pass0 (by rfl) (pa_cons (pv 4) pa_nil))))
      (pss_cons (ps_set (i := 5) sc_law_all_hold.nd rfl (Or.inr rfl) (pe_lc (own := [("_law_row", 6)]) (g := gName 6) rfl sc_law_all_hold.nd (pi_list (pv 3)) (blkOk_by (own := [("_law_row", 6)]) (N := N_law_all_hold) (sc := (defScope s_law_all_hold)) (by decide +kernel)) (fun _ _ _ _ _ => pg_name (i := 6) sc_law_all_hold.nd rfl (Or.inl rfl)) (fun _ _ _ _ _ => pts_one (PW.pt (pw_or (pt_cmpR (kv_eqD K hr.units) (pe_ix (kv_ixT K) (pv 6) pe_int (fun _ _ => rfl)) (pe_lst pa_nil) (nomark _)) (pw_or1 (pt_cmpR op_le (pe_ix (kv_ixL K) (pe_ix (kv_ixT K) (pv 6) pe_int (fun _ _ => rfl)) (pe_un un_neg pe_int) (fun _ _ => rfl)) (pv 2) (nomark _)))))) (fun _ _ _ _ _ => (pe_ix (kv_ixT K) (pv 6) pe_int (fun _ _ => rfl)))))
      (pss_cons (ps_set (i := 7) sc_law_all_hold.nd rfl (Or.inr rfl) (pe_lc (own := [("_law_row", 6)]) (g := gName 6) rfl sc_law_all_hold.nd (pi_list (pv 3)) (blkOk_by (own := [("_law_row", 6)]) (N := N_law_all_hold) (sc := (defScope s_law_all_hold)) (by decide +kernel)) (fun _ _ _ _ _ => pg_name (i := 6) sc_law_all_hold.nd rfl (Or.inl rfl)) (fun _ _ _ _ _ => pts_one (PW.pt (pw_or (pt_cmpR (kv_eqD K hr.units) (pe_ix (kv_ixT K) (pv 6) pe_int (fun _ _ => rfl)) (pe_lst pa_nil) (nomark _)) (pw_or1 (pt_cmpR op_le (pe_ix (kv_ixL K) (pe_ix (kv_ixT K) (pv 6) pe_int (fun _ _ => rfl)) (pe_un un_neg pe_int) (fun _ _ => rfl)) (pv 2) (nomark _)))))) (fun _ _ _ _ _ => (pe_ix (kv_ixT K) (pv 6) pe_int (fun _ _ => rfl)))))
      (pss_cons (ps_setLc (i := 8) (own := [("_law_k", 9)]) (g := gName 9) rfl sc_law_all_hold.nd rfl rfl (sw_true rfl rfl rfl (by decide +kernel)) (pi_range1 (by rfl) T.range (pa_cons (pv 1) pa_nil)) (blkOk_by (own := [("_law_k", 9)]) (N := N_law_all_hold) (sc := (defScope s_law_all_hold)) (by decide +kernel)) (fun _ _ _ _ _ => pg_name (i := 9) sc_law_all_hold.nd rfl (Or.inr rfl)) (fun _ _ _ _ _ => pts_nil) (fun _ _ _ _ _ => (pe_callB (kv_min K rfl) (by rfl) T.min bt_min (pa_cons (pe_lc (own := [("_law_row", 6)]) (g := gName 6) rfl sc_law_all_hold.nd (kv_piL K (pv 5)) (blkOk_by (own := [("_law_row", 6)]) (N := N_law_all_hold) (sc := (relS (lcSc (asgVal ((defBody s_law_all_hold).getD 5 (.Pass ⟨0, 0, 0, 0⟩)))) (defScope s_law_all_hold))) (by decide +kernel)) (fun _ _ _ _ _ => pg_name (i := 6) sc_law_all_hold.nd rfl (Or.inl rfl)) (fun _ _ _ _ _ => pts_nil) (fun _ _ _ _ _ => (pe_ix (kv_ixL K) (pv 6) (pv 9) (fun _ _ => rfl)))) pa_nil))))
      (pss_cons (ps_setLc (i := 10) (own := [("_law_k", 9)]) (g := gName 9) rfl sc_law_all_hold.nd rfl rfl (sw_true rfl rfl rfl (by decide +kernel)) (pi_range1 (by rfl) T.range (pa_cons (pv 1) pa_nil)) (blkOk_by (own := [("_law_k", 9)]) (N := N_law_all_hold) (sc := (defScope s_law_all_hold)) (by decide +kernel)) (fun _ _ _ _ _ => pg_name (i := 9) sc_law_all_hold.nd rfl (Or.inr rfl)) (fun _ _ _ _ _ => pts_nil) (fun _ _ _ _ _ => (pe_callB (kv_min K rfl) (by rfl) T.min bt_min (pa_cons (pe_lc (own := [("_law_row", 6)]) (g := gName 6) rfl sc_law_all_hold.nd (kv_piL K (pv 7)) (blkOk_by (own := [("_law_row", 6)]) (N := N_law_all_hold) (sc := (relS (lcSc (asgVal ((defBody s_law_all_hold).getD 6 (.Pass ⟨0, 0, 0, 0⟩)))) (defScope s_law_all_hold))) (by decide +kernel)) (fun _ _ _ _ _ => pg_name (i := 6) sc_law_all_hold.nd rfl (Or.inl rfl)) (fun _ _ _ _ _ => pts_nil) (fun _ _ _ _ _ => (pe_ix (kv_ixL K) (pv 6) (pv 9) (fun _ _ => rfl)))) pa_nil))))
      (pss_cons (ps_if (PW.pt (pw_or (pt_cmpR (op_neD hr.units) (pv 8) (pv 10) (nomark _)) (pw_or (pt_cmpR (op_notInD (units65 hr)) (pv 8) (pv 5) (by rfl)) (pw_or (pt_cmpR (op_notInD (units65 hr)) (pv 8) (pv 7) (by rfl)) (pw_or1 (pt_cmpR (op_neD hr.units) (pv 8) (callH h_law_least (hr.mono (by decide)) pass0 (by rfl) (pa_cons (pv 1) (pa_cons (pv 2) pa_nil))) (nomark _))))))) (pss_one (ps_ret pe_bl)) pss_nil)
      (pss_one (ps_ret (pe_and (callH h_law_same (hr.mono (by decide)) pass0 (by rfl) (pa_cons (callH h_sorted_least (hr.mono (by decide)) passL (by rfl) (pa_cons (pv 1) (pa_cons (pv 2) pa_nil))) (pa_cons (pe_callTy call_tuple_of (by rfl) T.tuple bt_tuple (pa_cons (pv 8) pa_nil)) pa_nil))) (pe_one (callH h_law_best_hold (hr.mono (by decide)) pass0 (by rfl) (pa_cons (pv 1) (pa_cons (pv 2) (pa_cons (pv 8) pa_nil)))))))))))))))), ?_⟩
    -- size, bound
    refine ⟨_, rfl, hd, 7, rfl, hh, by decide, by decide, fun H1 r k1 hh1 r0 r1 => ?_⟩
    obtain ⟨n, rfl⟩ : ∃ n : Nat, r = (n : Int) := ⟨r.toNat, by omega⟩
    refine ⟨_, rfl, _, rfl, _, _, rfl, rfl, hd, _, rfl, hh1, by omega, by omega, fun H2 r2 k2 hh2 r20 r21 => ⟨_, _, rfl, rfl, ?_⟩⟩
    obtain ⟨m, hm⟩ : ∃ m : Nat, (1 : Int) + r2 = (m : Int) := ⟨(1 + r2).toNat, by omega⟩
    show gName 2 (V.int ((1 : Int) + r2)) _ _ _
    rw [hm]
    have hn : n ≤ 6 := by omega
    have hm1 : 1 ≤ m := by omega
    have hm2 : m ≤ n + 1 := by omega
    have B := all_use n m hn hm1 hm2
    have hR := rows_len hn
    have kk : Kept hd H H2 := k1.trans k2
    clear hm r20 r21 r0 r1
    -- rows
    refine ⟨_, rfl, n, rfl, hn, fun H3 pa xs s3 hpa hxs => ⟨pa, rfl, ⟨_, SqL.of hpa⟩, fun D1 nD1 => ?_⟩⟩
    have hxl : xs.length = (allM n).length := Paired.length hxs
    refine lc_list (K := K) (a := pa) (xs := xs) (fun i H' => Same H3 H' ∧ ∃ ys, H' D1 = some (.lst ys) ∧ Paired (RowAt H' D1) ys ((rowsM n).take i)) ⟨same_new nD1, [], upd_same, .nil⟩ (fun i H' _ ⟨sm, _⟩ => SqL.of (sm _ _ hpa)) (fun i x H' hx hP => ?_) (fun H5 hP => ?_)
    · obtain ⟨sm, ys, hD1, hys⟩ := hP
      obtain ⟨fs, hfs, a, rfl, ha⟩ := paired_get hxs hx
      obtain ⟨pfs, lfs⟩ := allM_plan n fs (List.mem_of_getElem? hfs)
      have hrow : (rowsM n)[i]? = some (sortW fs, sortR fs) := by
        unfold rowsM
        rw [List.getElem?_map, hfs]
        rfl
      have hi := (List.getElem?_eq_some_iff.mp hrow).1
      have hyl : ys.length = i := by
        rw [Paired.length hys, List.length_take]
        omega
      refine ⟨rfl, _, rfl, a, fs, rfl, sT sm ha, pfs.good, by omega, fun H4 p b c s4 np nb nc hp hb hc => ⟨ys, s4 _ _ hD1, small5 (by omega), same_put (sm.trans s4) nD1, ys ++ [.ref p], upd_same, ?_⟩⟩
      have off : ∀ {z : Addr}, H' z = none → z ≠ D1 := fun h e => by
        rw [e, hD1] at h
        cases h
      rw [List.take_add_one, hrow]
      exact rows_put (paired_snoc ⟨p, b, c, rfl, off np, off nb, off nc, hp, hb, hc⟩ (rows_same s4 hys))
    obtain ⟨s4, ys, hD1, hys⟩ := hP
    rw [hxl, ← List.length_map (f := fun f => (sortW f, sortR f)), show (allM n).map (fun f => (sortW f, sortR f)) = rowsM n from rfl, List.take_length] at hys
    have hyl : ys.length = (rowsM n).length := Paired.length hys
    -- by_reads
    refine ⟨_, rfl, D1, rfl, ⟨_, SqL.of hD1⟩, fun D2 nD2 => ?_⟩
    refine lc_list (K := K) (a := D1) (xs := ys) (fun i H' => Same H5 H' ∧ ∃ zs, H' D2 = some (.lst zs) ∧ Paired (LstAt H5) zs ((((rowsM n).take i).filter (pR m)).map (·.1))) ⟨same_new nD2, [], upd_same, .nil⟩ (fun i H' _ ⟨sm, _⟩ => SqL.of (sm _ _ hD1)) (fun i x H' hx hP => ?_) (fun H6 hP => ?_)
    · obtain ⟨sm, zs, hz, hzs⟩ := hP
      obtain ⟨r, hr2, p, b, c, rfl, _, _, _, hp, hb, hc⟩ := paired_get hys hx
      have hi := (List.getElem?_eq_some_iff.mp hr2).1
      have hzl : zs.length ≤ i := by
        rw [Paired.length hzs, List.length_map]
        have := List.length_filter_le (pR m) ((rowsM n).take i)
        rw [List.length_take] at this
        omega
      have yes : ∀ {H'' : Hp}, Same H' H'' → pR m r = true → rIxT K (.ref p) (.int 0) H'' fun y H4 => ∃ acc, H4 D2 = some (.lst acc) ∧ acc.length < sizeLine ∧ Same H5 (upd H4 D2 (.lst (acc ++ [y]))) ∧ ∃ zs, (upd H4 D2 (.lst (acc ++ [y]))) D2 = some (.lst zs) ∧ Paired (LstAt H5) zs ((((rowsM n).take (i + 1)).filter (pR m)).map (·.1)) := by
        intro H'' s5 hp5
        refine ⟨p, _, _, _, rfl, rfl, SqT.of (s5 _ _ (sm _ _ hp)), atI_nat (j := 0) rfl, zs, s5 _ _ hz, small5 (by omega), same_put (sm.trans s5) nD2, zs ++ [.ref b], upd_same, ?_⟩
        rw [filt_take _ hr2, if_pos hp5, List.map_append]
        exact paired_snoc ⟨b, rfl, hb⟩ hzs
      have no : ∀ {H'' : Hp}, Same H' H'' → pR m r = false → Same H5 H'' ∧ ∃ zs, H'' D2 = some (.lst zs) ∧ Paired (LstAt H5) zs ((((rowsM n).take (i + 1)).filter (pR m)).map (·.1)) := by
        intro H'' s5 hp5
        refine ⟨sm.trans s5, zs, s5 _ _ hz, ?_⟩
        rw [filt_take _ hr2, hp5, if_neg Bool.false_ne_true, List.append_nil]
        exact hzs
      refine ⟨rfl, _, rfl, p, _, _, _, rfl, rfl, SqT.of (sm _ _ hp), atI_nat (j := 1) rfl, Nat.zero_le _, fun e ne => ⟨dL r.2, dL [], dpL (SqL.of (same_new ne _ _ (sm _ _ hc))), dpL (ns := []) SqL.new, shL _, shL _, _, rfl, ?_⟩⟩
      have se := same_new (o := HO.lst []) ne
      rw [eqvL]
      by_cases hnil : r.2 = []
      · rw [decide_eq_true hnil]
        exact iteT ⟨_, rfl, yes se (by unfold pR; rw [hnil]; rfl)⟩
      · rw [decide_eq_false hnil]
        refine iteF ?_
        have h1 : 1 ≤ r.2.length := by
          cases e : r.2 with
          | nil => exact absurd e hnil
          | cons _ _ => exact Nat.succ_le_succ (Nat.zero_le _)
        have hb0 : (r.2 == []) = false := by
          cases e : r.2 with
          | nil => exact absurd e hnil
          | cons _ _ => rfl
        refine ⟨_, rfl, p, _, _, _, rfl, rfl, SqT.of (se _ _ (sm _ _ hp)), atI_nat (j := 1) rfl, _, rfl, c, _, _, _, rfl, rfl, SqL.of (se _ _ (sm _ _ hc)), last_at h1, _, rfl, _, _, rfl, rfl, _, rfl, ?_⟩
        by_cases hle : lastD r.2 ≤ ((m : Nat) : Int)
        · rw [decide_eq_true hle]
          exact iteT ⟨_, rfl, yes se (by unfold pR; rw [decide_eq_true hle, Bool.or_true])⟩
        · rw [decide_eq_false hle]
          exact iteF (no se (by unfold pR; rw [hb0, decide_eq_false hle]; rfl))
    obtain ⟨s5, zs, hD2, hzs⟩ := hP
    rw [hyl, List.take_length] at hzs
    change Paired (LstAt H5) zs (byR n m) at hzs
    -- by_writes
    refine ⟨_, rfl, D1, rfl, ⟨_, SqL.of (s5 _ _ hD1)⟩, fun D3 nD3 => ?_⟩
    refine lc_list (K := K) (a := D1) (xs := ys) (fun i H' => Same H6 H' ∧ ∃ zs, H' D3 = some (.lst zs) ∧ Paired (LstAt H6) zs ((((rowsM n).take i).filter (pW m)).map (·.2))) ⟨same_new nD3, [], upd_same, .nil⟩ (fun i H' _ ⟨sm, _⟩ => SqL.of (sm _ _ (s5 _ _ hD1))) (fun i x H' hx hP => ?_) (fun H7 hP => ?_)
    · obtain ⟨sm, zs, hz, hzs⟩ := hP
      obtain ⟨r, hr2, p, b, c, rfl, _, _, _, hp, hb, hc⟩ := paired_get (rows_same s5 hys) hx
      have hi := (List.getElem?_eq_some_iff.mp hr2).1
      have hzl : zs.length ≤ i := by
        rw [Paired.length hzs, List.length_map]
        have := List.length_filter_le (pW m) ((rowsM n).take i)
        rw [List.length_take] at this
        omega
      have yes : ∀ {H'' : Hp}, Same H' H'' → pW m r = true → rIxT K (.ref p) (.int 1) H'' fun y H4 => ∃ acc, H4 D3 = some (.lst acc) ∧ acc.length < sizeLine ∧ Same H6 (upd H4 D3 (.lst (acc ++ [y]))) ∧ ∃ zs, (upd H4 D3 (.lst (acc ++ [y]))) D3 = some (.lst zs) ∧ Paired (LstAt H6) zs ((((rowsM n).take (i + 1)).filter (pW m)).map (·.2)) := by
        intro H'' s5 hp5
        refine ⟨p, _, _, _, rfl, rfl, SqT.of (s5 _ _ (sm _ _ hp)), atI_nat (j := 1) rfl, zs, s5 _ _ hz, small5 (by omega), same_put (sm.trans s5) nD3, zs ++ [.ref c], upd_same, ?_⟩
        rw [filt_take _ hr2, if_pos hp5, List.map_append]
        exact paired_snoc ⟨c, rfl, hc⟩ hzs
      have no : ∀ {H'' : Hp}, Same H' H'' → pW m r = false → Same H6 H'' ∧ ∃ zs, H'' D3 = some (.lst zs) ∧ Paired (LstAt H6) zs ((((rowsM n).take (i + 1)).filter (pW m)).map (·.2)) := by
        intro H'' s5 hp5
        refine ⟨sm.trans s5, zs, s5 _ _ hz, ?_⟩
        rw [filt_take _ hr2, hp5, if_neg Bool.false_ne_true, List.append_nil]
        exact hzs
      refine ⟨rfl, _, rfl, p, _, _, _, rfl, rfl, SqT.of (sm _ _ hp), atI_nat (j := 0) rfl, Nat.zero_le _, fun e ne => ⟨dL r.1, dL [], dpL (SqL.of (same_new ne _ _ (sm _ _ hb))), dpL (ns := []) SqL.new, shL _, shL _, _, rfl, ?_⟩⟩
      have se := same_new (o := HO.lst []) ne
      rw [eqvL]
      by_cases hnil : r.1 = []
      · rw [decide_eq_true hnil]
        exact iteT ⟨_, rfl, yes se (by unfold pW; rw [hnil]; rfl)⟩
      · rw [decide_eq_false hnil]
        refine iteF ?_
        have h1 : 1 ≤ r.1.length := by
          cases e : r.1 with
          | nil => exact absurd e hnil
          | cons _ _ => exact Nat.succ_le_succ (Nat.zero_le _)
        have hb0 : (r.1 == []) = false := by
          cases e : r.1 with
          | nil => exact absurd e hnil
          | cons _ _ => rfl
        refine ⟨_, rfl, p, _, _, _, rfl, rfl, SqT.of (se _ _ (sm _ _ hp)), atI_nat (j := 0) rfl, _, rfl, b, _, _, _, rfl, rfl, SqL.of (se _ _ (sm _ _ hb)), last_at h1, _, rfl, _, _, rfl, rfl, _, rfl, ?_⟩
        by_cases hle : lastD r.1 ≤ ((m : Nat) : Int)
        · rw [decide_eq_true hle]
          exact iteT ⟨_, rfl, yes se (by unfold pW; rw [decide_eq_true hle, Bool.or_true])⟩
        · rw [decide_eq_false hle]
          exact iteF (no se (by unfold pW; rw [hb0, decide_eq_false hle]; rfl))
    obtain ⟨s6, zw, hD3, hzw⟩ := hP
    rw [hyl, List.take_length] at hzw
    change Paired (LstAt H6) zw (byW n m) at hzw
    have hzs7 := lsts_same (s5.trans s6) hzs
    have hD27 := s6 _ _ hD2
    have hzw7 := lsts_same s6 hzw
    -- due one
    refine ⟨_, rfl, n, rfl, by omega, by omega, fun D4 nD4 => ?_⟩
    rw [Int.toNat_natCast]
    refine lc_range (lo := 0) (n := n) (fun k H' => Same H7 H' ∧ H' D4 = some (.lst (((dueM (byR n m) n).take k).map V.int))) ⟨same_new nD4, upd_same⟩ (fun k H' hk hP => ?_) (fun H8 hP => ?_)
    · obtain ⟨sm, hd4⟩ := hP
      refine ⟨rfl, _, rfl, D2, rfl, ⟨_, SqL.of (sm _ _ hD27)⟩, fun D5 nD5 => ?_⟩
      refine lc_list (K := K) (a := D2) (xs := zs) (fun i H2 => Same H' H2 ∧ H2 D5 = some (.lst ((((byR n m).take i).map fun l => l.getD k 0).map V.int))) ⟨same_new nD5, upd_same⟩ (fun i H2 _ ⟨s9, _⟩ => SqL.of (s9 _ _ (sm _ _ hD27))) (fun i x H2 hx hP => ?_) (fun H9 hP => ?_)
      · obtain ⟨s9, hd5⟩ := hP
        obtain ⟨l, hl, b, rfl, hb⟩ := paired_get (lsts_same (sm.trans s9) hzs7) hx
        have hll := byR_len (List.mem_of_getElem? hl)
        have hi := (List.getElem?_eq_some_iff.mp hl).1
        have hbs := byR_small (n := n) (q := m) hn
        have hat : (l.map V.int)[k]? = some (V.int (l.getD k 0)) := by
          rw [List.getElem?_map, List.getD_eq_getElem?_getD, List.getElem?_eq_getElem (show k < l.length by omega)]
          rfl
        refine ⟨rfl, _, rfl, _, rfl, b, _, _, _, rfl, rfl, SqL.of hb, at_of (j := k) (by omega) hat, _, hd5, ?_, same_put s9 nD5, ?_⟩
        · rw [List.length_map, List.length_map, List.length_take]
          exact small5 (by omega)
        · rw [upd_same, List.take_add_one, hl, List.map_append, List.map_append]
          rfl
      · obtain ⟨s9, hd5⟩ := hP
        rw [Paired.length hzs7, List.take_length] at hd5
        refine ⟨D5, _, rfl, SqL.of hd5, ?_, fun mm hm hle => ?_⟩
        · rw [List.length_map]
          exact List.length_pos_of_mem B.m1
        · have em := minM_eq hm hle
          subst em
          have hdk : (dueM (byR n m) n)[k]? = some (minM ((byR n m).map fun l => l.getD k 0)) := by
            unfold dueM
            rw [List.getElem?_map, List.getElem?_range hk]
            rfl
          refine ⟨_, s9 _ _ hd4, ?_, same_put (sm.trans s9) nD4, ?_⟩
          · rw [List.length_map, List.length_take]
            exact small5 (by omega)
          · rw [upd_same, List.take_add_one, hdk, List.map_append]
            rfl
    obtain ⟨sH8, hD4⟩ := hP
    rw [List.take_of_length_le (by unfold dueM; rw [List.length_map, List.length_range]; exact Nat.le_refl _), B.d1] at hD4
    have hzw8 := lsts_same sH8 hzw7
    have hD38 := sH8 _ _ hD3
    -- due two
    refine ⟨_, rfl, n, rfl, by omega, by omega, fun D6 nD6 => ?_⟩
    rw [Int.toNat_natCast]
    refine lc_range (lo := 0) (n := n) (fun k H' => Same H8 H' ∧ H' D6 = some (.lst (((dueM (byW n m) n).take k).map V.int))) ⟨same_new nD6, upd_same⟩ (fun k H' hk hP => ?_) (fun Hc hP => ?_)
    · obtain ⟨sm, hd4⟩ := hP
      refine ⟨rfl, _, rfl, D3, rfl, ⟨_, SqL.of (sm _ _ hD38)⟩, fun D7 nD7 => ?_⟩
      refine lc_list (K := K) (a := D3) (xs := zw) (fun i H2 => Same H' H2 ∧ H2 D7 = some (.lst ((((byW n m).take i).map fun l => l.getD k 0).map V.int))) ⟨same_new nD7, upd_same⟩ (fun i H2 _ ⟨s9, _⟩ => SqL.of (s9 _ _ (sm _ _ hD38))) (fun i x H2 hx hP => ?_) (fun H9 hP => ?_)
      · obtain ⟨s9, hd5⟩ := hP
        obtain ⟨l, hl, b, rfl, hb⟩ := paired_get (lsts_same (sm.trans s9) hzw8) hx
        have hll := byW_len (List.mem_of_getElem? hl)
        have hi := (List.getElem?_eq_some_iff.mp hl).1
        have hbs := byW_small (n := n) (q := m) hn
        have hat : (l.map V.int)[k]? = some (V.int (l.getD k 0)) := by
          rw [List.getElem?_map, List.getD_eq_getElem?_getD, List.getElem?_eq_getElem (show k < l.length by omega)]
          rfl
        refine ⟨rfl, _, rfl, _, rfl, b, _, _, _, rfl, rfl, SqL.of hb, at_of (j := k) (by omega) hat, _, hd5, ?_, same_put s9 nD7, ?_⟩
        · rw [List.length_map, List.length_map, List.length_take]
          exact small5 (by omega)
        · rw [upd_same, List.take_add_one, hl, List.map_append, List.map_append]
          rfl
      · obtain ⟨s9, hd5⟩ := hP
        rw [Paired.length hzw8, List.take_length] at hd5
        refine ⟨D7, _, rfl, SqL.of hd5, ?_, fun mm hm hle => ?_⟩
        · rw [List.length_map]
          exact List.length_pos_of_mem B.m2
        · have em := minM_eq hm hle
          subst em
          have hdk : (dueM (byW n m) n)[k]? = some (minM ((byW n m).map fun l => l.getD k 0)) := by
            unfold dueM
            rw [List.getElem?_map, List.getElem?_range hk]
            rfl
          refine ⟨_, s9 _ _ hd4, ?_, same_put (sm.trans s9) nD6, ?_⟩
          · rw [List.length_map, List.length_take]
            exact small5 (by omega)
          · rw [upd_same, List.take_add_one, hdk, List.map_append]
            rfl
    obtain ⟨sHc, hD6⟩ := hP
    rw [List.take_of_length_le (by unfold dueM; rw [List.length_map, List.length_range]; exact Nat.le_refl _), B.d2] at hD6
    -- the comparison
    have hD4c := sHc _ _ hD4
    have hzsc := lsts_same (sH8.trans sHc) hzs7
    have hzwc := lsts_same sHc hzw8
    have hD2c := sHc _ _ (sH8 _ _ hD27)
    have hD3c := sHc _ _ hD38
    refine ⟨_, rfl, _, rfl, neL_use (SqL.of hD4c) (SqL.of hD6) ⟨_, rfl, iteF ?_⟩⟩
    refine ⟨_, rfl, _, rfl, notIn_use (SqL.of hD4c) (SqL.of hD2c) hzsc B.m1 ⟨_, rfl, iteF ?_⟩⟩
    refine ⟨_, rfl, _, rfl, notIn_use (SqL.of hD4c) (SqL.of hD3c) hzwc B.m2 ⟨_, rfl, iteF ?_⟩⟩
    refine ⟨_, rfl, _, rfl, _, rfl, n, m, rfl, hm1, by omega, by omega, fun Hd d1 sd hd1 => ?_⟩
    refine neL_use (SqL.of (sd _ _ hD4c)) (SqL.of hd1) ⟨_, rfl, iteF ?_⟩
    -- the return
    refine ⟨_, rfl, _, rfl, sp2_N hm1 ⟨by omega, by omega, fun He e1 se he1 => ?_⟩⟩
    have hD4e := se _ _ (sd _ _ hD4c)
    refine ⟨_, rfl, D4, _, rfl, .inl ⟨SqL.of hD4e, fun t1 nt1 => ?_⟩⟩
    have st := same_new (o := HO.tup ((leastL m n).map V.int)) nt1
    refine .inr ⟨by decide, e1, t1, leastL m n, rfl, sT st he1, SqT.new, fun Hf sf => ⟨_, rfl, iteT ?_⟩⟩
    refine ⟨_, rfl, _, rfl, _, rfl, n, m, D4, rfl, SqL.of (sf _ _ (st _ _ hD4e)), by omega, hm1, by omega, fun Hg sg => ?_⟩
    have sall := (((((((s3.trans s4).trans s5).trans s6).trans sH8).trans sHc).trans sd).trans se).trans ((st.trans sf).trans sg)
    exact q Hg (kk.trans (Kept.same sall)) (hh2.same sall)
end
end K26
namespace K26
open PySem PySem.Spec PyProof.Rows L2
/-! ### law -/
abbrev s_law : Stmt := top 52
abbrev N_law : List Str := ["_law_script", "_law_hand_here", "_law_size", "_law_far", "_law_found", "_law_writes", "_law_reads", "_law_due", "_law_longer"]
theorem sc_law : FnScope N_law ["_law_script"] (defScope s_law) := ⟨rfl, rfl, rfl, by decide +kernel, rfl, by decide +kernel, by decide +kernel⟩
def spLaw (K : PySem.W.Frag) : Sp := fun vs H Q _ => ∃ (a : Addr) (ns : List Int), vs = [.ref a] ∧ SqL K H a (ns.map V.int) ∧ ns.length ≤ 63 ∧ ∀ H', Q (.bl true) H'
section
variable {P : Program} {w : World} {K : PySem.W.Frag} {mg : Str → Option Value} {base : Heap}
theorem ok_law {C : Addr} (D : DefAt K mg "law" s_law) (T : Txt mg) (h_law_hand : Has P w K mg base CX0 2 "_law_hand" ["_law_script"] (spHand K)) (h_law_take : Has P w K mg base CX0 2 "_law_take" ["_law_hand_here", "_law_most"] spTake)
    (h_law_all_hold : Has P w K mg base CX0 33 "_law_all_hold" ["_law_hand_here"] spHold) (h_law_line_least : Has P w K mg base CX0 33 "_law_line_least" ["_law_size", "_law_far"] (spLine K))
    (h_law_plan : Has P w K mg base CX0 3 "_law_plan" ["_law_hand_here", "_law_size"] (spPlan K))
    (h_law_sorted : Has P w K mg base CX0 2 "_law_sorted" ["_law_found"] (spSorted K))
    (h_law_least : Has P w K mg base CX0 2 "_law_least" ["_law_size", "_law_far"] spLeast)
    (h_law_same : Has P w K mg base CX0 4 "_law_same" ["_law_told", "_law_due"] (spSame K 2))
    (h_law_none_less : Has P w K mg base CX0 2 "_law_none_less" ["_law_counts", "_law_due"] (spNoneLess K))
    (h_law_full_holds : Has P w K mg base CX0 32 "_law_full_holds" ["_law_hand_here"] spHold) (h_law_far_hold : Has P w K mg base CX0 7 "_law_far_hold" ["_law_hand_here"] spHold)
    (h_law_refused : Has P w K mg base CX0 33 "_law_refused" ["_law_value"] (spRefused K))
    (h_sorted_least : Has P w K mg base (L2.CX P w) 6 "sorted_least" ["many", "reach"] (sp2 K C "many" isN "reach" isP (nmSorted K)))
    (h_least_sum : Has P w K mg base (L2.CX P w) 7 "least_sum" ["many", "reach"] (sp2 K C "many" isN "reach" isP nmSum))
    (k_least_sum_reach_many : HasK P w K mg base (L2.CX P w) 7 "least_sum" ["many", "reach"] ["reach", "many"] (swapV []) (sp2 K C "many" isN "reach" isP nmSum))
    (k_least_greatest_reach_many : HasK P w K mg base (L2.CX P w) 6 "least_greatest" ["many", "reach"] ["reach", "many"] (swapV []) (sp2 K C "many" isN "reach" isP nmGreat))
    (k_best_plan_reach_many : HasK P w K mg base (L2.CX P w) 30 "best_plan" ["many", "reach"] ["reach", "many"] (swapV []) (sp2 K C "many" isN "reach" isP (nmBest K))) :
    Has P w K mg base CX0 34 "law" ["_law_script"] (spLaw K) := by
  obtain ⟨f, fd, F, g⟩ := D.ex
  refine ⟨f, fd, ?_, g, F.kp, funLk F, F.binds fun _ _ _ _ _ _ us hl => match us, hl with | [_], _ => rfl⟩
  refine F.ok sc_law (fun vs H Q E h => ?_) (fun cdv A outer s H vs Q E hr h => ?_)
  · obtain ⟨a, ns, rfl, _⟩ := h
    rfl
  · obtain ⟨a, ns, rfl, hS, _, q⟩ := h
    refine ⟨_, (pss_cons (ps_set (i := 1) sc_law.nd rfl (Or.inl rfl) (callH h_law_hand (hr.mono (by decide)) pass0 (by rfl) (pa_cons (pv 0) pa_nil)))
      (pss_cons (ps_if (pt_not (pt_val (callH h_law_all_hold (hr.mono (by decide)) pass0 (by rfl) (pa_cons (pv 1) pa_nil)))) (pss_one (ps_ret pe_bl)) pss_nil)
      (pss_cons (ps_set (i := 2) sc_law.nd rfl (Or.inl rfl) (callH h_law_take (hr.mono (by decide)) pass0 (by rfl) (pa_cons (pv 1) (pa_cons pe_int pa_nil))))
      (pss_cons (ps_set (i := 3) sc_law.nd rfl (Or.inl rfl) (pe_op op_add pe_int (callH h_law_take (hr.mono (by decide)) pass0 (by rfl) (pa_cons (pv 1) (pa_cons pe_int pa_nil)))))
      (C8.pss_cut (ps_if (pt_cmpR op_eq (callH h_law_take (hr.mono (by decide)) pass0 (by rfl) (pa_cons (pv 1) (pa_cons pe_int pa_nil))) pe_int (nomark _)) (pss_one (ps_set (i := 3) sc_law.nd rfl (Or.inl rfl) (pe_op op_add pe_int (callH h_law_take (hr.mono (by decide)) pass0 (by rfl) (pa_cons (pv 1) (pa_cons pe_int pa_nil)))))) pss_nil)
      (pss_cons (ps_if (pt_not (pt_val (callH h_law_line_least (hr.mono (by decide)) pass0 (by rfl) (pa_cons (pv 2) (pa_cons (pv 3) pa_nil))))) (pss_one (ps_ret pe_bl)) pss_nil)
      (pss_cons (ps_set (i := 4) sc_law.nd rfl (Or.inl rfl) (callH h_law_plan (hr.mono (by decide)) pass0 (by rfl) (pa_cons (pv 1) (pa_cons (pv 2) pa_nil))))
      (pss_cons (ps_asg (callH h_law_sorted (hr.mono (by decide)) pass0 (by rfl) (pa_cons (pv 4) pa_nil)) (pg_tup rfl (pgs_cons (pg_name (i := 5) sc_law.nd rfl (Or.inl rfl)) (pgs_cons (pg_name (i := 6) sc_law.nd rfl (Or.inl rfl)) pgs_nil))))
      (C8.pss_cut (ps_if (pt_cmpR op_gt (pv 2) pe_int (nomark _)) (pss_cons (ps_set (i := 7) sc_law.nd rfl (Or.inl rfl) (callH h_law_least (hr.mono (by decide)) pass0 (by rfl) (pa_cons (pv 2) (pa_cons (pe_ix ix_list (pv 6) (pe_un un_neg pe_int) (fun _ _ => rfl)) pa_nil)))) (pss_cons (ps_if (PW.pt (pw_or (pt_not (pt_val (callH h_law_same (hr.mono (by decide)) pass0 (by rfl) (pa_cons (callH h_sorted_least (hr.mono (by decide)) passL (by rfl) (pa_cons (pv 2) (pa_cons (pe_ix ix_list (pv 6) (pe_un un_neg pe_int) (fun _ _ => rfl)) pa_nil))) (pa_cons (pe_callTy call_tuple_of (by rfl) T.tuple bt_tuple (pa_cons (pv 7) pa_nil)) pa_nil))))) (pw_or1 (pt_not (pt_val (callH h_law_none_less (hr.mono (by decide)) pass0 (by rfl) (pa_cons (pv 5) (pa_cons (pv 7) pa_nil)))))))) (pss_one (ps_ret pe_bl)) pss_nil) (pss_cons (ps_set (i := 7) sc_law.nd rfl (Or.inl rfl) (callH h_law_least (hr.mono (by decide)) pass0 (by rfl) (pa_cons (pv 2) (pa_cons (pe_ix ix_list (pv 5) (pe_un un_neg pe_int) (fun _ _ => rfl)) pa_nil)))) (pss_one (ps_if (PW.pt (pw_or (pt_not (pt_val (callH h_law_same (hr.mono (by decide)) pass0 (by rfl) (pa_cons (callH h_sorted_least (hr.mono (by decide)) passL (by rfl) (pa_cons (pv 2) (pa_cons (pe_ix ix_list (pv 5) (pe_un un_neg pe_int) (fun _ _ => rfl)) pa_nil))) (pa_cons (pe_callTy call_tuple_of (by rfl) T.tuple bt_tuple (pa_cons (pv 7) pa_nil)) pa_nil))))) (pw_or1 (pt_not (pt_val (callH h_law_none_less (hr.mono (by decide)) pass0 (by rfl) (pa_cons (pv 6) (pa_cons (pv 7) pa_nil)))))))) (pss_one (ps_ret pe_bl)) pss_nil))))) pss_nil)
      (pss_cons (ps_set (i := 8) sc_law.nd rfl (Or.inl rfl) (callH h_law_take (hr.mono (by decide)) pass0 (by rfl) (pa_cons (pv 1) (pa_cons pe_int pa_nil))))
      (pss_cons (ps_set (i := 7) sc_law.nd rfl (Or.inl rfl) (callH h_law_least (hr.mono (by decide)) pass0 (by rfl) (pa_cons (pv 8) (pa_cons (pv 3) pa_nil))))
      (pss_cons (ps_if (pt_not (pt_val (callH h_law_same (hr.mono (by decide)) pass0 (by rfl) (pa_cons (callH h_sorted_least (hr.mono (by decide)) passL (by rfl) (pa_cons (pv 8) (pa_cons (pv 3) pa_nil))) (pa_cons (pe_callTy call_tuple_of (by rfl) T.tuple bt_tuple (pa_cons (pv 7) pa_nil)) pa_nil))))) (pss_one (ps_ret pe_bl)) pss_nil)
      (pss_cons (ps_if (pt_not (pt_val (callH h_law_same (hr.mono (by decide)) pass0 (by rfl) (pa_cons (callH h_least_sum (hr.mono (by decide)) passL (by rfl) (pa_cons (pv 8) (pa_cons (pv 3) pa_nil))) (pa_cons (pe_callB (cr_sum rfl) (by rfl) T.sum bt_sum (pa_cons (pv 7) pa_nil)) pa_nil))))) (pss_one (ps_ret pe_bl)) pss_nil)
      (pss_cons (ps_if (PW.pt (pw_or (pt_not (pt_val (callH h_law_full_holds (hr.mono (by decide)) pass0 (by rfl) (pa_cons (pv 1) pa_nil)))) (pw_or1 (pt_not (pt_val (callH h_law_far_hold (hr.mono (by decide)) pass0 (by rfl) (pa_cons (pv 1) pa_nil))))))) (pss_one (ps_ret pe_bl)) pss_nil)
      (pss_cons (ps_if (pt_not (pt_val (callH h_law_refused (hr.mono (by decide)) pass0 (by rfl) (pa_cons (pe_ix ix_tup (pe_tup (pa_cons pe_int (pa_cons (pe_un un_neg pe_int) (pa_cons pe_bl (pa_cons pe_non (pa_cons pe_str (pa_cons (pe_tup (pa_cons pe_int pa_nil)) (pa_cons pe_bl pa_nil)))))))) (callH h_law_take (hr.mono (by decide)) pass0 (by rfl) (pa_cons (pv 1) (pa_cons pe_int pa_nil))) (fun _ _ => rfl)) pa_nil)))) (pss_one (ps_ret pe_bl)) pss_nil)
      (pss_cons (ps_if (pt_not (pt_val (callH h_law_same (hr.mono (by decide)) pass0 (by rfl) (pa_cons (callH h_sorted_least (hr.mono (by decide)) passL (by rfl) (pa_cons pe_int (pa_cons pe_int pa_nil))) (pa_cons (pe_tup pa_nil) pa_nil))))) (pss_one (ps_ret pe_bl)) pss_nil)
      (pss_cons (ps_if (pt_not (pt_val (callH h_law_same (hr.mono (by decide)) pass0 (by rfl) (pa_cons (callH h_least_sum (hr.mono (by decide)) passL (by rfl) (pa_cons pe_int (pa_cons pe_int pa_nil))) (pa_cons pe_int pa_nil))))) (pss_one (ps_ret pe_bl)) pss_nil)
      (pss_cons (ps_if (PW.pt (pw_or (pt_not (pt_val (callH h_law_same (hr.mono (by decide)) pass0 (by rfl) (pa_cons (callHK k_least_greatest_reach_many (hr.mono (by decide)) passL (by rfl) (pk_cons pe_int (pk_cons pe_int pk_nil))) (pa_cons pe_int pa_nil))))) (pw_or1 (pt_not (pt_val (callH h_law_same (hr.mono (by decide)) pass0 (by rfl) (pa_cons (callHK k_least_sum_reach_many (hr.mono (by decide)) passL (by rfl) (pk_cons pe_int (pk_cons pe_int pk_nil))) (pa_cons pe_int pa_nil)))))))) (pss_one (ps_ret pe_bl)) pss_nil)
      (pss_one (ps_ret (callH h_law_same (hr.mono (by decide)) pass0 (by rfl) (pa_cons (callHK k_best_plan_reach_many (hr.mono (by decide)) passL (by rfl) (pk_cons pe_int (pk_cons pe_int pk_nil))) (pa_cons (pe_tup pa_nil) pa_nil))))))))))))))))))))))), ?_⟩
    refine ⟨_, rfl, a, ns, rfl, hS, fun H1 hd s1 nhd hh1 => ?_⟩
    refine ⟨_, rfl, hd, rfl, hh1, fun H2 k2 hh2 => ⟨_, rfl, iteF ?_⟩⟩
    refine ⟨_, rfl, hd, 21, rfl, hh2, by decide, by decide, fun H3 r k3 hh3 r0 r1 => ?_⟩
    obtain ⟨n, rfl⟩ : ∃ n : Nat, r = (n : Int) := ⟨r.toNat, by omega⟩
    -- far
    refine ⟨_, rfl, hd, 6, rfl, hh3, by decide, by decide, fun H4 rf k4 hh4 rf0 rf1 => ⟨_, _, rfl, rfl, ?_⟩⟩
    refine ⟨fun σ' H' => ∃ m : Nat, σ' = [some (.ref a), some (.ref hd), some (.int n), some (.int m), none, none, none, none, none] ∧ Hand H' hd ∧ 1 ≤ m ∧ m ≤ 40, ?_, fun σ' H5 hP => ?_⟩
    · refine ⟨_, rfl, hd, 4, rfl, hh4, by decide, by decide, fun H5 r2 k5 hh5 _ _ => ⟨rfl, _, rfl, ite2 (fun _ => ?_) (fun _ => ?_)⟩⟩
      · refine ⟨_, rfl, hd, 40, rfl, hh5, by decide, by decide, fun H6 r3 k6 hh6 r30 r31 => ⟨_, _, rfl, rfl, ?_⟩⟩
        refine ⟨(1 + r3).toNat, ?_, hh6, by omega, by omega⟩
        show [some (V.ref a), some (V.ref hd), some (V.int (n : Int)), some (V.int (1 + r3)), none, none, none, none, none] = _
        rw [Int.toNat_of_nonneg (by omega)]
      · refine ⟨(1 + rf).toNat, ?_, hh5, by omega, by omega⟩
        show [some (V.ref a), some (V.ref hd), some (V.int (n : Int)), some (V.int (1 + rf)), none, none, none, none, none] = _
        rw [Int.toNat_of_nonneg (by omega)]
    obtain ⟨m, rfl, hh5, hm1, hm2⟩ := hP
    clear hh1 hh2 hh3 hh4 k2 k3 k4 s1 rf0 rf1
    have hn : n ≤ 20 := by omega
    refine ⟨_, rfl, _, rfl, n, m, rfl, hn, hm1, hm2, fun H6 s6 => ⟨_, rfl, iteF ?_⟩⟩
    have hh6 := hh5.same s6
    refine ⟨_, rfl, _, rfl, hd, n, rfl, hh6, by omega, fun H7 p fs k7 hh7 hp pl hl => ?_⟩
    subst hl
    refine ⟨_, rfl, p, fs, rfl, hp, pl.good, by omega, fun H8 t b c s8 _ _ _ ht hb hc => ?_⟩
    refine ⟨t, _, rfl, SqT.of ht, rfl, _, _, rfl, _, _, rfl, rfl, ?_⟩
    have hh8 := hh7.same s8
    refine ⟨fun σ' H' => ∃ y : Option V, σ' = [some (.ref a), some (.ref hd), some (.int fs.length), some (.int m), some (.ref p), some (.ref b), some (.ref c), y, none] ∧ Hand H' hd, ?_, fun σ' H9 hP => ?_⟩
    · refine ⟨_, rfl, _, _, rfl, rfl, _, rfl, ite2 (fun e => ?_) (fun e => ?_)⟩
      · have h1 : 1 ≤ fs.length := by
          have := of_decide_eq_true e
          omega
        obtain ⟨q1, e1, q11, q12, none1⟩ := (lastR_ok pl h1).ex
        obtain ⟨q2, e2, q21, q22, none2⟩ := (lastW_ok pl h1).ex
        have hlw : 1 ≤ (sortW fs).length := by rw [sortW_len]; exact h1
        have hlr : 1 ≤ (sortR fs).length := by rw [sortR_len]; exact h1
        have at1 : atI ((sortR fs).map V.int) (-1) = some (V.int (q1 : Int)) := by rw [last_at hlr, e1]
        have at2 : atI ((sortW fs).map V.int) (-1) = some (V.int (q2 : Int)) := by rw [last_at hlw, e2]
        -- by the reads
        refine ⟨_, rfl, _, rfl, _, rfl, c, _, _, _, rfl, rfl, SqL.of hc, at1, fs.length, q1, rfl, q11, by omega, by omega, fun Ha d sa hd1 => ?_⟩
        have hb1 := sa _ _ hb
        have hc1 := sa _ _ hc
        refine ⟨_, rfl, _, rfl, _, rfl, c, _, _, _, rfl, rfl, SqL.of hc1, at1, sp2_N q11 ⟨by omega, by omega, fun Hb e0 sb he => ?_⟩⟩
        refine ⟨_, rfl, d, _, rfl, .inl ⟨SqL.of (sb _ _ hd1), fun t1 nt1 => ?_⟩⟩
        have st := same_new (o := HO.tup ((leastL q1 fs.length).map V.int)) nt1
        refine .inr ⟨by decide, e0, t1, leastL q1 fs.length, rfl, sT st he, SqT.new, fun Hc sc => ⟨_, rfl, iteF ?_⟩⟩
        have s8c := sb.trans (st.trans sc)
        refine ⟨_, rfl, _, rfl, b, d, sortW fs, leastL q1 fs.length, rfl, SqL.of (s8c _ _ hb1), SqL.of (s8c _ _ hd1), by rw [sortW_len, leastL_len], by rw [leastL_len]; omega, none1, fun Hd sd => ⟨_, rfl, iteF ?_⟩⟩
        have s8d := sa.trans (s8c.trans sd)
        have hh0 := hh8.same s8d
        have hb2 := s8d _ _ hb
        have hc2 := s8d _ _ hc
        clear hb1 hc1 hd1 s8c s8d sd sc st sb sa he
        -- by the writes
        refine ⟨_, rfl, _, rfl, _, rfl, b, _, _, _, rfl, rfl, SqL.of hb2, at2, fs.length, q2, rfl, q21, by omega, by omega, fun Ha d sa hd1 => ?_⟩
        have hb1 := sa _ _ hb2
        have hc1 := sa _ _ hc2
        refine ⟨_, rfl, _, rfl, _, rfl, b, _, _, _, rfl, rfl, SqL.of hb1, at2, sp2_N q21 ⟨by omega, by omega, fun Hb e0 sb he => ?_⟩⟩
        refine ⟨_, rfl, d, _, rfl, .inl ⟨SqL.of (sb _ _ hd1), fun t1 nt1 => ?_⟩⟩
        have st := same_new (o := HO.tup ((leastL q2 fs.length).map V.int)) nt1
        refine .inr ⟨by decide, e0, t1, leastL q2 fs.length, rfl, sT st he, SqT.new, fun Hc sc => ⟨_, rfl, iteF ?_⟩⟩
        have s8c := sb.trans (st.trans sc)
        refine ⟨_, rfl, _, rfl, c, d, sortR fs, leastL q2 fs.length, rfl, SqL.of (s8c _ _ hc1), SqL.of (s8c _ _ hd1), by rw [sortR_len, leastL_len], by rw [leastL_len]; omega, none2, fun Hd sd => ⟨_, rfl, iteF ?_⟩⟩
        exact ⟨some (.ref d), rfl, hh0.same (sa.trans (s8c.trans sd))⟩
      · exact ⟨none, rfl, hh8⟩
    obtain ⟨y, rfl, hh9⟩ := hP
    clear ht hb hc hp hh8 hh7 hh6 hh5 s8 s6 k7
    -- longer
    refine ⟨_, rfl, hd, 101, rfl, hh9, by decide, by decide, fun Ha r ka hha r0 r1 => ?_⟩
    obtain ⟨k, rfl⟩ : ∃ k : Nat, r = (k : Int) := ⟨r.toNat, by omega⟩
    refine ⟨_, rfl, _, rfl, k, m, rfl, hm1, by omega, by omega, fun Hb d sb hdl => ?_⟩
    refine ⟨_, rfl, _, rfl, sp2_N hm1 ⟨by omega, by omega, fun Hc e0 sc he => ?_⟩⟩
    refine ⟨_, rfl, d, _, rfl, .inl ⟨SqL.of (sc _ _ hdl), fun t1 nt1 => ?_⟩⟩
    have st := same_new (o := HO.tup ((leastL m k).map V.int)) nt1
    refine .inr ⟨by decide, e0, t1, leastL m k, rfl, sT st he, SqT.new, fun Hd sd => ⟨_, rfl, iteF ?_⟩⟩
    have s9d := sc.trans (st.trans sd)
    refine ⟨_, rfl, _, rfl, sp2_N hm1 ⟨by omega, by omega, fun He se => ?_⟩⟩
    refine ⟨_, rfl, d, _, rfl, SqL.of (se _ _ (s9d _ _ hdl)), ?_⟩
    refine .inl ⟨by decide, _, rfl, ⟨_, rfl, iteF ?_⟩⟩
    have hhe := hha.same (sb.trans (s9d.trans se))
    refine ⟨_, rfl, hd, rfl, hhe, fun Hf kf hhf => ⟨_, rfl, iteF ?_⟩⟩
    refine ⟨_, rfl, hd, rfl, hhf, fun Hg kg hhg => ⟨_, rfl, iteF ?_⟩⟩
    -- the refused
    refine ⟨_, rfl, by show 1 ≤ sizeLine; decide, fun u nu => ⟨by show 7 ≤ sizeLine; decide, fun t nt => ?_⟩⟩
    have su := same_new (o := HO.tup [V.int 2]) nu
    have st2 := same_new (o := HO.tup [V.int 0, V.int (-1), V.bl true, V.non, V.str "2", V.ref u, V.bl false]) nt
    have hht := (hhg.same su).same st2
    refine ⟨_, rfl, hd, 7, rfl, hht, by decide, by decide, fun Hh x kh hhh x0 x1 => ?_⟩
    have hT := kT (K := K) hht kh (SqT.new (xs := [V.int 0, V.int (-1), V.bl true, V.non, V.str "2", V.ref u, V.bl false]))
    have hU := kT (K := K) hht kh (sT st2 (SqT.new (xs := [V.int 2])))
    obtain ⟨v, hat, bad⟩ : ∃ v : V, atI [V.int 0, V.int (-1), V.bl true, V.non, V.str "2", V.ref u, V.bl false] x = some v ∧ BadV K Hh v := by
      have hx : x = ((0 : Nat) : Int) ∨ x = ((1 : Nat) : Int) ∨ x = ((2 : Nat) : Int) ∨ x = ((3 : Nat) : Int) ∨ x = ((4 : Nat) : Int) ∨ x = ((5 : Nat) : Int) ∨ x = ((6 : Nat) : Int) := by omega
      rcases hx with rfl | rfl | rfl | rfl | rfl | rfl | rfl
      · exact ⟨_, atI_nat rfl, .inl rfl⟩
      · exact ⟨_, atI_nat rfl, .inr (.inl rfl)⟩
      · exact ⟨_, atI_nat rfl, .inr (.inr (.inl ⟨_, rfl⟩))⟩
      · exact ⟨_, atI_nat rfl, .inr (.inr (.inr (.inl rfl)))⟩
      · exact ⟨_, atI_nat rfl, .inr (.inr (.inr (.inr (.inl rfl))))⟩
      · exact ⟨_, atI_nat rfl, .inr (.inr (.inr (.inr (.inr ⟨u, rfl, hU⟩))))⟩
      · exact ⟨_, atI_nat rfl, .inr (.inr (.inl ⟨_, rfl⟩))⟩
    refine ⟨t, _, _, _, rfl, rfl, hT, hat, ?_⟩
    refine ⟨v, rfl, bad, fun Hi si => ⟨_, rfl, iteF ?_⟩⟩
    -- the small ones
    refine sp2_N (n := 0) (q := 3) (by decide) ⟨by decide, by decide, fun Hj e2 sj he2 => ?_⟩
    refine ⟨Nat.zero_le _, fun t3 nt3 => ?_⟩
    refine .inr ⟨by decide, e2, t3, [], rfl, sT (same_new nt3) he2, SqT.new, fun Hk sk => ⟨_, rfl, iteF ?_⟩⟩
    refine sp2_N (n := 0) (q := 1) (by decide) ⟨by decide, by decide, fun Hl sl => ?_⟩
    refine .inl ⟨by decide, _, rfl, ⟨_, rfl, iteF ?_⟩⟩
    refine sp2_N (n := 0) (q := 4) (by decide) ⟨by decide, by decide, ?_⟩
    refine .inl ⟨by decide, 0, ?_, ⟨_, rfl, iteF ?_⟩⟩
    · rw [u_zero 4 (by decide)]
      rfl
    refine sp2_N (n := 5) (q := 2) (by decide) ⟨by decide, by decide, fun Hm sm => ?_⟩
    refine .inl ⟨by decide, 8, ?_, ⟨_, rfl, iteF ?_⟩⟩
    · rw [show (leastL 2 5).sum = 8 by decide +kernel]
    refine sp2_N (n := 0) (q := 1) (by decide) ⟨[], by decide +kernel, by decide, by decide, fun Hn e4 sn he4 => ?_⟩
    refine ⟨Nat.zero_le _, fun t5 nt5 => ?_⟩
    exact .inr ⟨by decide, e4, t5, [], rfl, sT (same_new nt5) he4, SqT.new, fun Ho so => q Ho⟩
end
end K26
namespace K26
open PySem PySem.Spec PyProof.Rows L2
/-! ### the end -/
theorem def_mk {K : PySem.W.Frag} {h : Heap} {mg : Str → Option Value} {name : Str} {st : Stmt} {f : Addr} {od an : Option Addr} {sl : Array (Option Value)} {oc kV dc pm cd ct : Value} (X : K.In h) (G : h.Ns mainGlobals mg)
    (a : PySem.W.nsIn K mainGlobals name = some (some (.ref f))) (l : K.lookup f = some ⟨oc, od, .func (PySem.W.fnOf name name (defArgs st) (defBody st) (defScope st) .none kV dc pm an cd ct), sl⟩) (c : PySem.W.codeIn K cd name = true) (k : PySem.W.keepIn K (.ref f) = true) : DefAt K mg name st :=
  ⟨f, _, fun_mk (st := st) l c k, PySem.W.mg_of X G a⟩
theorem exm_self {K : PySem.W.Frag} {S : Addr} (h1 : PySem.W.subIn K (.ref S) (.type "BaseException") = some true) (h2 : PySem.W.isClsIn K S = true) (h3 : PySem.W.typeIn K (.ref S) = some (.type "type")) (h4 : PySem.W.subIn K (.ref S) (.ref S) = some true) :
    PySem.W.exmOne K (.ref S) (.ref S) = some true := by
  have e1 : (PySem.W.subIn K (.ref S) (.type "BaseException") == some true) = true := by rw [h1] <;> rfl
  have e2 : ((PySem.W.clsIn K S).isSome && PySem.W.typeIn K (.ref S) == some (.type "type")) = true := by
    have h2' : (PySem.W.clsIn K S).isSome = true := h2
    rw [h2', h3] <;> rfl
  show (if (PySem.W.subIn K (.ref S) (.type "BaseException") == some true) = true then (if ((PySem.W.clsIn K S).isSome && PySem.W.typeIn K (.ref S) == some (.type "type")) = true then PySem.W.subIn K (.ref S) (.ref S) else none) else none) = some true
  rw [if_pos e1, if_pos e2]
  exact h4
/-- the class of the error -/
theorem err_mk {P : Program} {w : World} {K : PySem.W.Frag} {h : Heap} {mg : Str → Option Value} {C f : Addr} (X : K.In h) (G : h.Ns mainGlobals mg)
    {nm q : Str} {N : Addr} {bs bm : List Value} {sn : List Str} {sub : List Value} {ab : Bool} {col : Option Bool} {dd : Option Addr} {m0 m1 m2 m3 m5 : Option Value}
    {od an : Option Addr} {sl : Array (Option Value)} {oc kV dc pm cd ct : Value}
    (aC : PySem.W.nsIn K mainGlobals "NotUsable" = some (some (.ref C)))
    (xL : K.lookup C = some (excClassObj nm q C N bs bm true sn sub ab col dd m0 m1 m2 m3 m5 "ValueError.__new__")) (rb : PySem.HandSPX.refsVE bm = true)
    (sa : PySem.W.findIn K (.ref C) "__setattr__" = some (some (.builtin "object.__setattr__"))) (ga : PySem.W.findIn K (.ref C) "__getattribute__" = some (some (.builtin "BaseException.__getattribute__"))) (gg : PySem.W.findIn K (.ref C) "__getattr__" = some none)
    (nw : PySem.W.findIn K (.ref C) "word" = some none) (na : PySem.W.findIn K (.ref C) "at" = some none)
    (a1 : PySem.W.findIn K (.ref C) "__init__" = some (some (.ref f))) (t1 : PySem.W.typeIn K (.ref f) = some (.type "function"))
    (l1 : K.lookup f = some ⟨oc, od, .func (PySem.W.fnOf "__init__" "NotUsable.__init__" (defArgs s_init) (defBody s_init) (defScope s_init) .none kV dc pm an cd ct), sl⟩) (c1 : PySem.W.codeIn K cd "NotUsable.__init__" = true) (k1 : PySem.W.keepIn K (.ref f) = true)
    (kC : PySem.W.keepIn K (.ref C) = true) (eC : PySem.W.subIn K (.ref C) (.type "BaseException") = some true) (tC : PySem.W.typeIn K (.ref C) = some (.type "type")) (hC : PySem.W.hasDictIn K C = true) (iC : PySem.W.isClsIn K C = true) (sC : PySem.W.subIn K (.ref C) (.ref C) = some true) :
    ∃ C, ∀ base, Err P w K mg base C := by
  have F := fun_mk (st := s_init) l1 c1 k1
  refine ⟨C, fun base => ?_⟩
  exact ⟨⟨⟨nm, q, N, bs, bm, sn, sub, ab, col, dd, m0, m1, m2, m3, m5, xL, rb⟩, sa, eC, tC, kC⟩, ⟨ga, gg, eC, hC⟩, nw, na, PySem.W.mg_of X G aC, exm_self eC iC tC sC,
    ⟨f, _, a1, t1, ok_init F, F.binds fun _ _ _ _ _ _ us hl => match us, hl with | [_, _, _], _ => rfl⟩⟩
structure Defs (K : PySem.W.Frag) (mg : Str → Option Value) : Prop where
  d_is_integer : DefAt K mg "is_integer" s_is_integer
  d_is_number : DefAt K mg "is_number" s_is_number
  d_is_natural : DefAt K mg "is_natural" s_is_natural
  d_choose : DefAt K mg "choose" s_choose
  d_is_nested : DefAt K mg "is_nested" s_is_nested
  d_need_plan : DefAt K mg "need_plan" s_need_plan
  d_need_number : DefAt K mg "need_number" s_need_number
  d_need_natural : DefAt K mg "need_natural" s_need_natural
  d_last_full : DefAt K mg "last_full" s_last_full
  d_ahead_and_behind : DefAt K mg "ahead_and_behind" s_ahead_and_behind
  d_put_beside : DefAt K mg "put_beside" s_put_beside
  d_sorted_least : DefAt K mg "sorted_least" s_sorted_least
  d_least_sum : DefAt K mg "least_sum" s_least_sum
  d_least_greatest : DefAt K mg "least_greatest" s_least_greatest
  d_built : DefAt K mg "_built" s_built
  d_track_of : DefAt K mg "track_of" s_track_of
  d_mirrored : DefAt K mg "mirrored" s_mirrored
  d_shaped : DefAt K mg "_shaped" s_shaped
  d_full_plan : DefAt K mg "full_plan" s_full_plan
  d_best_plan : DefAt K mg "best_plan" s_best_plan
  d_best_for_writes : DefAt K mg "best_for_writes" s_best_for_writes
  d_law_hand : DefAt K mg "_law_hand" s_law_hand
  d_law_take : DefAt K mg "_law_take" s_law_take
  d_law_same : DefAt K mg "_law_same" s_law_same
  d_law_chain : DefAt K mg "_law_chain" s_law_chain
  d_law_plan : DefAt K mg "_law_plan" s_law_plan
  d_law_all : DefAt K mg "_law_all" s_law_all
  d_law_is_plan : DefAt K mg "_law_is_plan" s_law_is_plan
  d_law_sorted : DefAt K mg "_law_sorted" s_law_sorted
  d_law_least : DefAt K mg "_law_least" s_law_least
  d_law_capacity : DefAt K mg "_law_capacity" s_law_capacity
  d_law_none_less : DefAt K mg "_law_none_less" s_law_none_less
  d_law_all_hold : DefAt K mg "_law_all_hold" s_law_all_hold
  d_law_best_hold : DefAt K mg "_law_best_hold" s_law_best_hold
  d_law_widest : DefAt K mg "_law_widest" s_law_widest
  d_law_far_hold : DefAt K mg "_law_far_hold" s_law_far_hold
  d_law_ask : DefAt K mg "_law_ask" s_law_ask
  d_law_refused : DefAt K mg "_law_refused" s_law_refused
  d_law_full_holds : DefAt K mg "_law_full_holds" s_law_full_holds
  d_law_line_least : DefAt K mg "_law_line_least" s_law_line_least
  d_law : DefAt K mg "law" s_law
theorem all_mk {l : PySem.W.OpenLaw} {w : World} {K : PySem.W.Frag} {mg : Str → Option Value} {fa : Addr} (hfa : mg "law" = some (.ref fa)) (D : Defs K mg) (T : Txt mg) (E : ∃ C, ∀ base, Err l.prog w K mg base C) :
    ∃ fd : FuncData, (∀ (s : Shared) (v : Value), BindsTo s fd ⟨[v], []⟩ [("_law_script", v)]) ∧ ∀ base : Heap, K.In base → base.Ns mainGlobals mg → FnOk l.prog w K mg base CX0 34 fa fd ["_law_script"] (spLaw K) := by
  obtain ⟨f, fd, F, g⟩ := D.d_law.ex
  obtain ⟨C, hX⟩ := E
  refine ⟨fd, fun s v => ?_, fun base _ _ => ?_⟩
  · obtain ⟨oc, od, kV, doc, pm, an, cdv, ct, osl, e, _, _⟩ := F.ex
    subst e
    exact .of_eq rfl
  · have X := hX base
    have is_integer := ok_is_integer (P := l.prog) (w := w) (base := base) D.d_is_integer T
    have is_number := ok_is_number (P := l.prog) (w := w) (base := base) D.d_is_number is_integer
    have is_natural := ok_is_natural (P := l.prog) (w := w) (base := base) D.d_is_natural is_integer
    have choose := ok_choose (P := l.prog) (w := w) (base := base) D.d_choose T is_number
    have need_number := ok_need_number (P := l.prog) (w := w) (base := base) D.d_need_number X is_number
    have need_natural := ok_need_natural (P := l.prog) (w := w) (base := base) D.d_need_natural X is_natural
    have sorted_least := ok_sorted_least (P := l.prog) (w := w) (base := base) D.d_sorted_least T need_number need_natural choose
    have least_sum := ok_least_sum (P := l.prog) (w := w) (base := base) D.d_least_sum T sorted_least
    have least_greatest := ok_least_greatest (P := l.prog) (w := w) (base := base) D.d_least_greatest T need_number need_natural choose
    have is_nested := ok_is_nested (P := l.prog) (w := w) (base := base) D.d_is_nested T is_number
    have need_plan := ok_need_plan (P := l.prog) (w := w) (base := base) D.d_need_plan is_nested
    have last_full := ok_last_full (P := l.prog) (w := w) (base := base) D.d_last_full T
    have put_beside := ok_put_beside (P := l.prog) (w := w) (base := base) D.d_put_beside T
    have ahead_and_behind := ok_ahead_and_behind (P := l.prog) (w := w) (base := base) D.d_ahead_and_behind T last_full
    have built := ok_built (P := l.prog) (w := w) (base := base) D.d_built T put_beside
    have track_of := ok_track_of (P := l.prog) (w := w) (base := base) D.d_track_of T need_plan ahead_and_behind
    have mirrored := ok_mirrored (P := l.prog) (w := w) (base := base) D.d_mirrored track_of built
    have shaped := ok_shaped (P := l.prog) (w := w) (base := base) D.d_shaped T choose put_beside 24
    have full_plan := ok_full_plan (P := l.prog) (w := w) (base := base) D.d_full_plan need_natural choose shaped
    have best_plan := ok_best_plan (P := l.prog) (w := w) (base := base) D.d_best_plan need_number need_natural least_greatest shaped
    have best_for_writes := ok_best_for_writes (P := l.prog) (w := w) (base := base) D.d_best_for_writes need_number need_natural best_plan mirrored
    have hand := ok_hand (P := l.prog) (w := w) (base := base) D.d_law_hand T
    have take := ok_take (P := l.prog) (w := w) (base := base) D.d_law_take T
    have same := ok_same (P := l.prog) (w := w) (base := base) D.d_law_same T 2
    have chain := ok_chain (P := l.prog) (w := w) (base := base) D.d_law_chain T
    have plan := ok_plan (P := l.prog) (w := w) (base := base) D.d_law_plan T chain take
    have all := ok_all (P := l.prog) (w := w) (base := base) D.d_law_all T chain
    have is_plan := ok_is_plan (P := l.prog) (w := w) (base := base) D.d_law_is_plan T chain
    have sorted := ok_sorted (P := l.prog) (w := w) (base := base) D.d_law_sorted T
    have least := ok_least (P := l.prog) (w := w) (base := base) D.d_law_least T
    have capacity := ok_capacity (P := l.prog) (w := w) (base := base) D.d_law_capacity T
    have none_less := ok_none_less (P := l.prog) (w := w) (base := base) D.d_law_none_less T
    have wide := ok_wide (P := l.prog) (w := w) (base := base) D.d_law_widest T
    have best_hold := ok_best_hold (P := l.prog) (w := w) (base := base) D.d_law_best_hold T best_plan best_for_writes is_plan sorted
    have all_hold := ok_all_hold (P := l.prog) (w := w) (base := base) D.d_law_all_hold T take sorted all least same sorted_least best_hold
    have far_hold := ok_far_hold (P := l.prog) (w := w) (base := base) D.d_law_far_hold T take capacity wide least_greatest
    have ask := ok_ask (P := l.prog) (w := w) (base := base) D.d_law_ask X sorted_least least_sum least_greatest best_plan best_for_writes full_plan
    have refused := ok_refused (P := l.prog) (w := w) (base := base) D.d_law_refused T ask
    have k_full := kw_swap D.d_full_plan full_plan (fun _ _ _ _ _ _ _ _ => rfl)
    have k_writes := kw_pair D.d_best_for_writes best_for_writes (fun _ _ _ _ _ _ _ _ => rfl)
    have k_sorted := kw_swap D.d_sorted_least sorted_least (fun _ _ _ _ _ _ _ _ => rfl)
    have k_sum := kw_swap D.d_least_sum least_sum (fun _ _ _ _ _ _ _ _ => rfl)
    have k_great := kw_swap D.d_least_greatest least_greatest (fun _ _ _ _ _ _ _ _ => rfl)
    have k_best := kw_swap D.d_best_plan best_plan (fun _ _ _ _ _ _ _ _ => rfl)
    have full_holds := ok_full_holds (P := l.prog) (w := w) (base := base) D.d_law_full_holds T take capacity is_plan sorted least same full_plan k_full best_plan k_writes
    have line_least := ok_line_least (P := l.prog) (w := w) (base := base) D.d_law_line_least T least same sorted_least k_sorted least_sum least_greatest best_hold
    have whole := ok_law (P := l.prog) (w := w) (base := base) D.d_law T hand take all_hold line_least plan sorted least same none_less full_holds far_hold refused sorted_least least_sum k_sum k_great k_best
    obtain ⟨f2, fd2, ok, g2, _, lk, _⟩ := whole.ex
    have e1 := g.symm.trans g2
    cases e1
    have e2 := hfa.symm.trans g
    cases e2
    have e3 := (funLk F).uniq lk
    subst e3
    exact ok
end K26
open PySem PySem.W PyProof.Rows
set_option maxHeartbeats 0 in
theorem PySem.Challenge.cw_sincemarks_k26_whole_sorted_least_best_holds : PySem.Challenge.rw_sincemarks_k26_whole_sorted_least_best.Holds := by
  w_on; o_law; k_head; (case hw => w_witness2)
  k_fill
  refine L2.walk_of (l := PySem.Challenge.rw_sincemarks_k26_whole_sorted_least_best) (n := 63) (k := 34) (x := "_law_script") (CX := fun _ => L2.CX0) (sp := fun w => K26.spLaw _) rfl (by decide) rfl ⟨rfl, by decide, by decide⟩ (fun w h Y => PySem.W.kIn_of Y) ?F (fun _ _ a ns hl _ hS => ⟨a, ns, rfl, hS, hl, fun _ => rfl⟩) (fun _ _ _ _ _ h => h)
  case F =>
    intro w mg fa h KX G hmg
    refine' K26.all_mk hmg ⟨K26.def_mk KX G ?a0 ?l0 ?c0 ?k0, K26.def_mk KX G ?a1 ?l1 ?c1 ?k1, K26.def_mk KX G ?a2 ?l2 ?c2 ?k2, K26.def_mk KX G ?a3 ?l3 ?c3 ?k3, K26.def_mk KX G ?a4 ?l4 ?c4 ?k4, K26.def_mk KX G ?a5 ?l5 ?c5 ?k5, K26.def_mk KX G ?a6 ?l6 ?c6 ?k6, K26.def_mk KX G ?a7 ?l7 ?c7 ?k7, K26.def_mk KX G ?a8 ?l8 ?c8 ?k8, K26.def_mk KX G ?a9 ?l9 ?c9 ?k9, K26.def_mk KX G ?a10 ?l10 ?c10 ?k10, K26.def_mk KX G ?a11 ?l11 ?c11 ?k11, K26.def_mk KX G ?a12 ?l12 ?c12 ?k12, K26.def_mk KX G ?a13 ?l13 ?c13 ?k13, K26.def_mk KX G ?a14 ?l14 ?c14 ?k14, K26.def_mk KX G ?a15 ?l15 ?c15 ?k15, K26.def_mk KX G ?a16 ?l16 ?c16 ?k16, K26.def_mk KX G ?a17 ?l17 ?c17 ?k17, K26.def_mk KX G ?a18 ?l18 ?c18 ?k18, K26.def_mk KX G ?a19 ?l19 ?c19 ?k19, K26.def_mk KX G ?a20 ?l20 ?c20 ?k20, K26.def_mk KX G ?a21 ?l21 ?c21 ?k21, K26.def_mk KX G ?a22 ?l22 ?c22 ?k22, K26.def_mk KX G ?a23 ?l23 ?c23 ?k23, K26.def_mk KX G ?a24 ?l24 ?c24 ?k24, K26.def_mk KX G ?a25 ?l25 ?c25 ?k25, K26.def_mk KX G ?a26 ?l26 ?c26 ?k26, K26.def_mk KX G ?a27 ?l27 ?c27 ?k27, K26.def_mk KX G ?a28 ?l28 ?c28 ?k28, K26.def_mk KX G ?a29 ?l29 ?c29 ?k29, K26.def_mk KX G ?a30 ?l30 ?c30 ?k30, K26.def_mk KX G ?a31 ?l31 ?c31 ?k31, K26.def_mk KX G ?a32 ?l32 ?c32 ?k32, K26.def_mk KX G ?a33 ?l33 ?c33 ?k33, K26.def_mk KX G ?a34 ?l34 ?c34 ?k34, K26.def_mk KX G ?a35 ?l35 ?c35 ?k35, K26.def_mk KX G ?a36 ?l36 ?c36 ?k36, K26.def_mk KX G ?a37 ?l37 ?c37 ?k37, K26.def_mk KX G ?a38 ?l38 ?c38 ?k38, K26.def_mk KX G ?a39 ?l39 ?c39 ?k39, K26.def_mk KX G ?a40 ?l40 ?c40 ?k40⟩ ⟨PySem.W.mg_none_of KX G ?z0, PySem.W.mg_none_of KX G ?z1, PySem.W.mg_none_of KX G ?z2, PySem.W.mg_none_of KX G ?z3, PySem.W.mg_none_of KX G ?z4, PySem.W.mg_none_of KX G ?z5, PySem.W.mg_none_of KX G ?z6, PySem.W.mg_none_of KX G ?z7, PySem.W.mg_none_of KX G ?z8, PySem.W.mg_none_of KX G ?z9, PySem.W.mg_none_of KX G ?z10, PySem.W.mg_none_of KX G ?z11, PySem.W.mg_none_of KX G ?z12, PySem.W.mg_none_of KX G ?z13, PySem.W.mg_of KX G ?zc⟩ (K26.err_mk KX G ?eaC ?exL ?erb ?esa ?ega ?egg ?enw ?ena ?ea1 ?et1 ?el1 ?ec1 ?ek1 ?ekC ?eeC ?etC ?ehC ?eiC ?esC)
    (case a0 => k_is); (case l0 => k_is); (case c0 => k_is); (case k0 => k_is)
    (case a1 => k_is); (case l1 => k_is); (case c1 => k_is); (case k1 => k_is)
    (case a2 => k_is); (case l2 => k_is); (case c2 => k_is); (case k2 => k_is)
    (case a3 => k_is); (case l3 => k_is); (case c3 => k_is); (case k3 => k_is)
    (case a4 => k_is); (case l4 => k_is); (case c4 => k_is); (case k4 => k_is)
    (case a5 => k_is); (case l5 => k_is); (case c5 => k_is); (case k5 => k_is)
    (case a6 => k_is); (case l6 => k_is); (case c6 => k_is); (case k6 => k_is)
    (case a7 => k_is); (case l7 => k_is); (case c7 => k_is); (case k7 => k_is)
    (case a8 => k_is); (case l8 => k_is); (case c8 => k_is); (case k8 => k_is)
    (case a9 => k_is); (case l9 => k_is); (case c9 => k_is); (case k9 => k_is)
    (case a10 => k_is); (case l10 => k_is); (case c10 => k_is); (case k10 => k_is)
    (case a11 => k_is); (case l11 => k_is); (case c11 => k_is); (case k11 => k_is)
    (case a12 => k_is); (case l12 => k_is); (case c12 => k_is); (case k12 => k_is)
    (case a13 => k_is); (case l13 => k_is); (case c13 => k_is); (case k13 => k_is)
    (case a14 => k_is); (case l14 => k_is); (case c14 => k_is); (case k14 => k_is)
    (case a15 => k_is); (case l15 => k_is); (case c15 => k_is); (case k15 => k_is)
    (case a16 => k_is); (case l16 => k_is); (case c16 => k_is); (case k16 => k_is)
    (case a17 => k_is); (case l17 => k_is); (case c17 => k_is); (case k17 => k_is)
    (case a18 => k_is); (case l18 => k_is); (case c18 => k_is); (case k18 => k_is)
    (case a19 => k_is); (case l19 => k_is); (case c19 => k_is); (case k19 => k_is)
    (case a20 => k_is); (case l20 => k_is); (case c20 => k_is); (case k20 => k_is)
    (case a21 => k_is); (case l21 => k_is); (case c21 => k_is); (case k21 => k_is)
    (case a22 => k_is); (case l22 => k_is); (case c22 => k_is); (case k22 => k_is)
    (case a23 => k_is); (case l23 => k_is); (case c23 => k_is); (case k23 => k_is)
    (case a24 => k_is); (case l24 => k_is); (case c24 => k_is); (case k24 => k_is)
    (case a25 => k_is); (case l25 => k_is); (case c25 => k_is); (case k25 => k_is)
    (case a26 => k_is); (case l26 => k_is); (case c26 => k_is); (case k26 => k_is)
    (case a27 => k_is); (case l27 => k_is); (case c27 => k_is); (case k27 => k_is)
    (case a28 => k_is); (case l28 => k_is); (case c28 => k_is); (case k28 => k_is)
    (case a29 => k_is); (case l29 => k_is); (case c29 => k_is); (case k29 => k_is)
    (case a30 => k_is); (case l30 => k_is); (case c30 => k_is); (case k30 => k_is)
    (case a31 => k_is); (case l31 => k_is); (case c31 => k_is); (case k31 => k_is)
    (case a32 => k_is); (case l32 => k_is); (case c32 => k_is); (case k32 => k_is)
    (case a33 => k_is); (case l33 => k_is); (case c33 => k_is); (case k33 => k_is)
    (case a34 => k_is); (case l34 => k_is); (case c34 => k_is); (case k34 => k_is)
    (case a35 => k_is); (case l35 => k_is); (case c35 => k_is); (case k35 => k_is)
    (case a36 => k_is); (case l36 => k_is); (case c36 => k_is); (case k36 => k_is)
    (case a37 => k_is); (case l37 => k_is); (case c37 => k_is); (case k37 => k_is)
    (case a38 => k_is); (case l38 => k_is); (case c38 => k_is); (case k38 => k_is)
    (case a39 => k_is); (case l39 => k_is); (case c39 => k_is); (case k39 => k_is)
    (case a40 => k_is); (case l40 => k_is); (case c40 => k_is); (case k40 => k_is)
    (case z0 => k_is)
    (case z1 => k_is)
    (case z2 => k_is)
    (case z3 => k_is)
    (case z4 => k_is)
    (case z5 => k_is)
    (case z6 => k_is)
    (case z7 => k_is)
    (case z8 => k_is)
    (case z9 => k_is)
    (case z10 => k_is)
    (case z11 => k_is)
    (case z12 => k_is)
    (case z13 => k_is)
    (case zc => k_is)
    (case eaC => k_is); (case exL => k_is); (case erb => decide +kernel); (case esa => k_is); (case ega => k_is); (case egg => k_is); (case enw => k_is); (case ena => k_is)
    (case ea1 => k_is); (case et1 => k_is); (case el1 => k_is); (case ec1 => k_is); (case ek1 => k_is)
    (case ekC => k_is); (case eeC => k_is); (case etC => k_is); (case ehC => k_is); (case eiC => k_is); (case esC => first | rfl | k_is)
