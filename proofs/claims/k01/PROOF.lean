import PyProof.Rows.All
import Wide.All
import OpenK.AllK
import Wide.FinOn
import HandS.ForMost
import HandS.TupAny
import HandS.TupMul
import HandS.IsInst
import HandS.Style
import HandS.Walk
import HandS.Evl
import KE.KTupSum
import KE.DataMinMax
import KE.KIndexOf
import KE.GoesEnum
import PySem.Challenge.RW_benchdeal_k01_things
set_option Elab.async false
set_option linter.all false
set_option maxRecDepth 100000
set_option maxHeartbeats 4000000
/-! The mathematics of dealing seats: no program in sight. -/
namespace Bd

/-- the mark k of the scale (a, b) -/
def mk (a b k : Int) : Int := a + k * b
theorem mk_pos {a b k : Int} (ha : 1 ≤ a) (hb : 1 ≤ b) (hk : 0 ≤ k) : 0 < mk a b k := by
  have h : 0 ≤ k * b := Int.mul_nonneg hk (by omega)
  unfold mk
  omega
theorem mk_mono {a b k l : Int} (hb : 1 ≤ b) (h : k ≤ l) : mk a b k ≤ mk a b l := by
  have h : k * b ≤ l * b := Int.mul_le_mul_of_nonneg_right h (by omega)
  unfold mk
  omega
theorem mk_lt {a b k l : Int} (hb : 1 ≤ b) (h : k < l) : mk a b k < mk a b l := by
  have h : k * b < l * b := Int.mul_lt_mul_of_pos_right h (by omega)
  unfold mk
  omega
theorem mk_le {a b k n : Int} (ha : a ≤ 10) (hb : b ≤ 10) (hb0 : 0 ≤ b) (hk : k ≤ n) (hn : 0 ≤ n) : mk a b k ≤ 10 + n * 10 := by
  have h1 : k * b ≤ n * b := Int.mul_le_mul_of_nonneg_right hk hb0
  have h2 : n * b ≤ n * 10 := Int.mul_le_mul_of_nonneg_left hb hn
  unfold mk
  omega

/-- is the claim of i, with mark m, greater than that of j, with mark n -/
def isGr (vs : List Int) (i : Nat) (m : Int) (j : Nat) (n : Int) : Bool := decide (vs.getD j 0 * m < vs.getD i 0 * n)
/-- the list with the best claim among the first n + 1 -/
def nextTo (vs gs : List Int) (a b : Int) : Nat → Nat
  | 0 => 0
  | n + 1 => if isGr vs (n + 1) (mk a b (gs.getD (n + 1) 0)) (nextTo vs gs a b n) (mk a b (gs.getD (nextTo vs gs a b n) 0)) = true then n + 1 else nextTo vs gs a b n
def nextL (vs gs : List Int) (a b : Int) : Nat := nextTo vs gs a b (vs.length - 1)
def addAt (gs : List Int) (i : Nat) : List Int := gs.set i (gs.getD i 0 + 1)
/-- the seats given when n are dealt -/
def givenTo (vs : List Int) (a b : Int) : Nat → List Int
  | 0 => List.replicate vs.length 0
  | n + 1 => addAt (givenTo vs a b n) (nextL vs (givenTo vs a b n) a b)
/-- the lists that have a seat, in order -/
def orderTo (vs : List Int) (a b : Int) (n : Nat) : List Nat := (List.range n).map fun k => nextL vs (givenTo vs a b k) a b

theorem nextTo_le (vs gs : List Int) (a b : Int) : ∀ n, nextTo vs gs a b n ≤ n
  | 0 => Nat.le_refl 0
  | n + 1 => by
    unfold nextTo
    split
    · exact Nat.le_refl _
    · exact Nat.le_succ_of_le (nextTo_le vs gs a b n)
theorem nextL_lt {vs gs : List Int} {a b : Int} (h : 0 < vs.length) : nextL vs gs a b < vs.length := by
  have h1 := nextTo_le vs gs a b (vs.length - 1)
  unfold nextL
  omega
theorem addAt_len (gs : List Int) (i : Nat) : (addAt gs i).length = gs.length := by
  unfold addAt
  rw [List.length_set]
theorem givenTo_len (vs : List Int) (a b : Int) : ∀ n, (givenTo vs a b n).length = vs.length
  | 0 => by unfold givenTo; rw [List.length_replicate]
  | n + 1 => by unfold givenTo; rw [addAt_len, givenTo_len vs a b n]
theorem getD_set {gs : List Int} {i j : Nat} {z : Int} (h : i < gs.length) : (gs.set i z).getD j 0 = if j = i then z else gs.getD j 0 := by
  rw [List.getD_eq_getElem?_getD, List.getD_eq_getElem?_getD, List.getElem?_set]
  by_cases e : i = j
  · subst e
    simp [h]
  · rw [if_neg e, if_neg (fun q => e q.symm)]
theorem addAt_at {gs : List Int} {i j : Nat} (h : i < gs.length) : (addAt gs i).getD j 0 = if j = i then gs.getD j 0 + 1 else gs.getD j 0 := by
  unfold addAt
  rw [getD_set h]
  by_cases e : j = i
  · rw [if_pos e, if_pos e, e]
  · rw [if_neg e, if_neg e]
theorem getD_rep (n i : Nat) : (List.replicate n (0 : Int)).getD i 0 = 0 := by
  rw [List.getD_eq_getElem?_getD, List.getElem?_replicate]
  split <;> rfl
theorem sum_addAt : ∀ {gs : List Int} {i : Nat}, i < gs.length → (addAt gs i).sum = gs.sum + 1
  | [], i, h => absurd h (Nat.not_lt_zero _)
  | g :: r, 0, _ => by
    show (g + 1) + r.sum = (g + r.sum) + 1
    omega
  | g :: r, i + 1, h => by
    have ih := sum_addAt (gs := r) (i := i) (Nat.lt_of_succ_lt_succ h)
    show g + (addAt r i).sum = (g + r.sum) + 1
    rw [ih]
    omega
theorem sum_rep : ∀ n : Nat, (List.replicate n (0 : Int)).sum = 0
  | 0 => rfl
  | n + 1 => by
    rw [List.replicate_succ, List.sum_cons, sum_rep n]
    rfl
theorem givenTo_sum {vs : List Int} {a b : Int} (h : 0 < vs.length) : ∀ n : Nat, (givenTo vs a b n).sum = (n : Int)
  | 0 => by unfold givenTo; exact sum_rep _
  | n + 1 => by
    unfold givenTo
    rw [sum_addAt (by rw [givenTo_len]; exact nextL_lt h), givenTo_sum h n]
    omega
theorem givenTo_nn {vs : List Int} {a b : Int} (h : 0 < vs.length) : ∀ (n i : Nat), 0 ≤ (givenTo vs a b n).getD i 0 ∧ (givenTo vs a b n).getD i 0 ≤ (n : Int)
  | 0, i => by
    unfold givenTo
    rw [getD_rep]
    omega
  | n + 1, i => by
    have ih := givenTo_nn (a := a) (b := b) h n i
    unfold givenTo
    rw [addAt_at (by rw [givenTo_len]; exact nextL_lt h)]
    split <;> omega

/-! ### lists of ints by their places -/
theorem ext_getD {xs ys : List Int} (hl : xs.length = ys.length) (h : ∀ i, i < xs.length → xs.getD i 0 = ys.getD i 0) : xs = ys := by
  refine List.ext_getElem hl fun i h1 h2 => ?_
  have e := h i h1
  rw [List.getD_eq_getElem?_getD, List.getD_eq_getElem?_getD, List.getElem?_eq_getElem h1, List.getElem?_eq_getElem h2] at e
  exact e
theorem getD_mem {xs : List Int} {i : Nat} (h : i < xs.length) : xs.getD i 0 ∈ xs := by
  rw [List.getD_eq_getElem?_getD, List.getElem?_eq_getElem h]
  exact List.getElem_mem h
theorem mem_getD {xs : List Int} {x : Int} (h : x ∈ xs) : ∃ i, i < xs.length ∧ xs.getD i 0 = x := by
  obtain ⟨i, hi, e⟩ := List.mem_iff_getElem.mp h
  refine ⟨i, hi, ?_⟩
  rw [List.getD_eq_getElem?_getD, List.getElem?_eq_getElem hi]
  exact e
theorem getD_out {xs : List Int} {i : Nat} (h : xs.length ≤ i) : xs.getD i 0 = 0 := by
  rw [List.getD_eq_getElem?_getD, List.getElem?_eq_none h]
  rfl
theorem all_getD {xs : List Int} {p : Int → Prop} (h : ∀ x ∈ xs, p x) {i : Nat} (hi : i < xs.length) : p (xs.getD i 0) := h _ (getD_mem hi)
theorem nn_getD {xs : List Int} (h : ∀ x ∈ xs, 0 ≤ x) (i : Nat) : 0 ≤ xs.getD i 0 := by
  by_cases hi : i < xs.length
  · exact h _ (getD_mem hi)
  · rw [getD_out (by omega)]
    omega

/-! ### claims -/
/-- claim of i at x seats is better than that of j at y -/
def Bt (vs : List Int) (a b : Int) (i : Nat) (x : Int) (j : Nat) (y : Int) : Prop :=
  vs.getD j 0 * mk a b x < vs.getD i 0 * mk a b y ∨ (vs.getD j 0 * mk a b x = vs.getD i 0 * mk a b y ∧ i < j)
theorem tr_lt {vb vo vj mo mb mj : Int} (h1 : vb * mo < vo * mb) (h2 : vj * mb ≤ vb * mj) (pb : 0 < mb) (pj : 0 < mj) (po : 0 < mo) : vj * mo < vo * mj := by
  have e1 : vj * mb * mo ≤ vb * mj * mo := Int.mul_le_mul_of_nonneg_right h2 (by omega)
  have e2 : vb * mo * mj < vo * mb * mj := Int.mul_lt_mul_of_pos_right h1 pj
  have e3 : (vj * mo) * mb < (vo * mj) * mb := by
    have q1 : vj * mb * mo = vj * mo * mb := by rw [Int.mul_assoc, Int.mul_comm mb, ← Int.mul_assoc]
    have q2 : vb * mj * mo = vb * mo * mj := by rw [Int.mul_assoc, Int.mul_comm mj, ← Int.mul_assoc]
    have q3 : vo * mb * mj = vo * mj * mb := by rw [Int.mul_assoc, Int.mul_comm mb, ← Int.mul_assoc]
    omega
  exact Int.lt_of_mul_lt_mul_right e3 (by omega)
theorem tr_le {vb vo vj mo mb mj : Int} (h1 : vb * mo ≤ vo * mb) (h2 : vj * mb ≤ vb * mj) (pb : 0 < mb) (pj : 0 < mj) (po : 0 < mo) : vj * mo ≤ vo * mj := by
  have e1 : vj * mb * mo ≤ vb * mj * mo := Int.mul_le_mul_of_nonneg_right h2 (by omega)
  have e2 : vb * mo * mj ≤ vo * mb * mj := Int.mul_le_mul_of_nonneg_right h1 (by omega)
  have e3 : (vj * mo) * mb ≤ (vo * mj) * mb := by
    have q1 : vj * mb * mo = vj * mo * mb := by rw [Int.mul_assoc, Int.mul_comm mb, ← Int.mul_assoc]
    have q2 : vb * mj * mo = vb * mo * mj := by rw [Int.mul_assoc, Int.mul_comm mj, ← Int.mul_assoc]
    have q3 : vo * mb * mj = vo * mj * mb := by rw [Int.mul_assoc, Int.mul_comm mb, ← Int.mul_assoc]
    omega
  exact Int.le_of_mul_le_mul_right e3 pb

/-- a scale and seats that are not negative -/
structure Sc (a b : Int) : Prop where
  a1 : 1 ≤ a
  a2 : a ≤ 10
  b1 : 1 ≤ b
  b2 : b ≤ 10

theorem nextTo_best {vs gs : List Int} {a b : Int} (s : Sc a b) (hg : ∀ i, 0 ≤ gs.getD i 0) : ∀ n j, j ≤ n → j ≠ nextTo vs gs a b n → Bt vs a b (nextTo vs gs a b n) (gs.getD (nextTo vs gs a b n) 0) j (gs.getD j 0)
  | 0, j, h, hn => absurd (Nat.le_zero.mp h) hn
  | n + 1, j, h, hn => by
    have ih := nextTo_best (vs := vs) s hg n
    have hl := nextTo_le vs gs a b n
    generalize ht : nextTo vs gs a b n = t at ih hl
    have hne : nextTo vs gs a b (n + 1) = if isGr vs (n + 1) (mk a b (gs.getD (n + 1) 0)) t (mk a b (gs.getD t 0)) = true then n + 1 else t := by
      rw [← ht]
      rfl
    have pm : ∀ i, 0 < mk a b (gs.getD i 0) := fun i => mk_pos s.a1 s.b1 (hg i)
    by_cases hc : isGr vs (n + 1) (mk a b (gs.getD (n + 1) 0)) t (mk a b (gs.getD t 0)) = true
    · rw [if_pos hc] at hne
      rw [hne] at hn ⊢
      have h1 := of_decide_eq_true hc
      by_cases hj : j = t
      · subst hj
        exact .inl h1
      · have h2 : vs.getD j 0 * mk a b (gs.getD t 0) ≤ vs.getD t 0 * mk a b (gs.getD j 0) := by
          rcases ih j (by omega) hj with q | q
          · exact Int.le_of_lt q
          · exact Int.le_of_eq q.1
        exact .inl (tr_lt h1 h2 (pm t) (pm j) (pm (n + 1)))
    · rw [if_neg hc] at hne
      rw [hne] at hn ⊢
      by_cases hj : j = n + 1
      · subst hj
        have h1 : ¬ vs.getD t 0 * mk a b (gs.getD (n + 1) 0) < vs.getD (n + 1) 0 * mk a b (gs.getD t 0) := fun q => hc (decide_eq_true q)
        have h2 : vs.getD (n + 1) 0 * mk a b (gs.getD t 0) ≤ vs.getD t 0 * mk a b (gs.getD (n + 1) 0) := by omega
        rcases Int.lt_or_eq_of_le h2 with q | q
        · exact .inl q
        · exact .inr ⟨q, by omega⟩
      · exact ih j (by omega) hn
theorem nextL_best {vs gs : List Int} {a b : Int} (s : Sc a b) (hg : ∀ i, 0 ≤ gs.getD i 0) {j : Nat} (hj : j < vs.length) (hn : j ≠ nextL vs gs a b) : Bt vs a b (nextL vs gs a b) (gs.getD (nextL vs gs a b) 0) j (gs.getD j 0) :=
  nextTo_best s hg (vs.length - 1) j (by omega) hn

/-! ### what is dealt: each seat that is had is the better claim; and only one such giving is there -/
structure Stable (vs : List Int) (a b : Int) (gs : List Int) : Prop where
  len : gs.length = vs.length
  nn : ∀ i, 0 ≤ gs.getD i 0
  best : ∀ i j, i < vs.length → j < vs.length → i ≠ j → 0 < gs.getD i 0 → Bt vs a b i (gs.getD i 0 - 1) j (gs.getD j 0)
theorem Bt.le {vs : List Int} {a b : Int} {i j : Nat} {x y : Int} (h : Bt vs a b i x j y) : vs.getD j 0 * mk a b x ≤ vs.getD i 0 * mk a b y := by
  rcases h with q | q
  · exact Int.le_of_lt q
  · exact Int.le_of_eq q.1
theorem Bt.mono {vs : List Int} {a b : Int} {i j : Nat} {x y z : Int} (s : Sc a b) (hv : 0 ≤ vs.getD i 0) (h : Bt vs a b i x j y) (hz : y ≤ z) : Bt vs a b i x j z := by
  have h1 : vs.getD i 0 * mk a b y ≤ vs.getD i 0 * mk a b z := Int.mul_le_mul_of_nonneg_left (mk_mono s.b1 hz) hv
  rcases h with q | q
  · exact .inl (by omega)
  · rcases Int.lt_or_eq_of_le h1 with e | e
    · exact .inl (by omega)
    · exact .inr ⟨by omega, q.2⟩
theorem Stable.start {vs : List Int} {a b : Int} : Stable vs a b (List.replicate vs.length 0) :=
  ⟨List.length_replicate, fun i => by rw [getD_rep]; omega, fun i j _ _ _ h => by rw [getD_rep] at h; omega⟩
theorem Stable.next {vs gs : List Int} {a b : Int} (s : Sc a b) (hv : ∀ v ∈ vs, 0 ≤ v) (h0 : 0 < vs.length) (h : Stable vs a b gs) : Stable vs a b (addAt gs (nextL vs gs a b)) := by
  have hl : nextL vs gs a b < gs.length := by rw [h.len]; exact nextL_lt h0
  refine ⟨by rw [addAt_len]; exact h.len, fun i => ?_, fun i j hi hj hn hp => ?_⟩
  · rw [addAt_at hl]
    have := h.nn i
    split <;> omega
  · rw [addAt_at hl] at hp
    rw [addAt_at hl, addAt_at hl]
    by_cases ei : i = nextL vs gs a b
    · rw [if_pos ei, if_neg (fun q => hn (ei.trans q.symm)), Int.add_sub_cancel]
      have := nextL_best s h.nn hj (fun q => hn (ei.trans q.symm))
      rw [← ei] at this
      exact this
    · rw [if_neg ei] at hp ⊢
      have h1 := h.best i j hi hj hn hp
      by_cases ej : j = nextL vs gs a b
      · rw [if_pos ej]
        exact h1.mono s (nn_getD hv i) (by omega)
      · rw [if_neg ej]
        exact h1
theorem stable_given {vs : List Int} {a b : Int} (s : Sc a b) (hv : ∀ v ∈ vs, 0 ≤ v) (h0 : 0 < vs.length) : ∀ n, Stable vs a b (givenTo vs a b n)
  | 0 => by unfold givenTo; exact Stable.start
  | n + 1 => by
    have h := (stable_given s hv h0 n).next s hv h0
    unfold givenTo
    exact h
/-- of two different givings of as many seats, one has more at some place, the other at another -/
theorem sum_le_of : ∀ {gs hs : List Int}, gs.length = hs.length → (∀ i, gs.getD i 0 ≤ hs.getD i 0) → gs.sum ≤ hs.sum
  | [], [], _, _ => Int.le_refl _
  | g :: r, h :: t, hl, hh => by
    have ih := sum_le_of (gs := r) (hs := t) (Nat.succ.inj hl) (fun i => hh (i + 1))
    have h0 : g ≤ h := hh 0
    rw [List.sum_cons, List.sum_cons]
    omega
theorem eq_of_le : ∀ {gs hs : List Int}, gs.length = hs.length → (∀ i, gs.getD i 0 ≤ hs.getD i 0) → hs.sum ≤ gs.sum → gs = hs
  | [], [], _, _, _ => rfl
  | g :: r, h :: t, hl, hh, hs => by
    have l1 : r.length = t.length := Nat.succ.inj hl
    have h1 : ∀ i, r.getD i 0 ≤ t.getD i 0 := fun i => hh (i + 1)
    have h2 := sum_le_of l1 h1
    have h0 : g ≤ h := hh 0
    rw [List.sum_cons, List.sum_cons] at hs
    have e : g = h := by omega
    rw [e, eq_of_le l1 h1 (by omega)]
theorem more_of_ne {gs hs : List Int} (hl : gs.length = hs.length) (hs' : gs.sum = hs.sum) (hn : gs ≠ hs) : ∃ i, i < gs.length ∧ hs.getD i 0 < gs.getD i 0 := by
  refine Classical.byContradiction fun q => hn (eq_of_le hl (fun i => ?_) (by omega))
  by_cases hi : i < gs.length
  · exact Int.not_lt.mp fun z => q ⟨i, hi, z⟩
  · rw [getD_out (by omega), getD_out (by omega)]
    exact Int.le_refl _
/-- the knot: i would give to j, and j to i -/
theorem knot {vs : List Int} {a b : Int} (s : Sc a b) {i j : Nat} {x x' y y' : Int} (hi : 0 ≤ vs.getD i 0) (hj : 0 ≤ vs.getD j 0) (h1 : Bt vs a b i x j y) (h2 : Bt vs a b j y' i x') (hx : x' ≤ x) (hy : y ≤ y') : False := by
  have m1 : vs.getD i 0 * mk a b y ≤ vs.getD i 0 * mk a b y' := Int.mul_le_mul_of_nonneg_left (mk_mono s.b1 hy) hi
  have m2 : vs.getD j 0 * mk a b x' ≤ vs.getD j 0 * mk a b x := Int.mul_le_mul_of_nonneg_left (mk_mono s.b1 hx) hj
  rcases h1 with q1 | q1 <;> rcases h2 with q2 | q2 <;> omega
theorem stable_one {vs gs hs : List Int} {a b : Int} (s : Sc a b) (hv : ∀ v ∈ vs, 0 ≤ v) (h1 : Stable vs a b gs) (h2 : Stable vs a b hs) (he : gs.sum = hs.sum) : gs = hs := by
  refine Classical.byContradiction fun hn => ?_
  obtain ⟨i, hi, li⟩ := more_of_ne (h1.len.trans h2.len.symm) he hn
  obtain ⟨j, hj, lj⟩ := more_of_ne (h2.len.trans h1.len.symm) he.symm fun q => hn q.symm
  rw [h1.len] at hi
  rw [h2.len] at hj
  have hij : i ≠ j := fun e => by rw [e] at li; omega
  have n1 := h1.nn j
  have n2 := h2.nn i
  exact knot s (nn_getD hv i) (nn_getD hv j) (h1.best i j hi hj hij (by omega)) (h2.best j i hj hi (Ne.symm hij) (by omega)) (by omega) (by omega)

/-! ### dealt: a count of the order -/
def countAt (os : List Nat) (i : Nat) : Nat := (os.filter fun o => decide (o = i)).length
theorem countAt_order {vs : List Int} {a b : Int} (h : 0 < vs.length) (i : Nat) : ∀ n, ((countAt (orderTo vs a b n) i : Nat) : Int) = (givenTo vs a b n).getD i 0
  | 0 => by
    unfold givenTo
    rw [getD_rep]
    rfl
  | n + 1 => by
    have ih := countAt_order (a := a) (b := b) h i n
    have e : orderTo vs a b (n + 1) = orderTo vs a b n ++ [nextL vs (givenTo vs a b n) a b] := by
      unfold orderTo
      rw [List.range_succ, List.map_append]
      rfl
    have hl : nextL vs (givenTo vs a b n) a b < (givenTo vs a b n).length := by rw [givenTo_len]; exact nextL_lt h
    unfold givenTo
    rw [addAt_at hl, ← ih, e]
    unfold countAt
    rw [List.filter_append, List.length_append]
    by_cases q : i = nextL vs (givenTo vs a b n) a b
    · rw [if_pos q, List.filter_cons, if_pos (decide_eq_true q.symm)]
      simp
    · rw [if_neg q, List.filter_cons, if_neg (by simp; exact fun z => q z.symm)]
      simp
theorem dealt_count {vs : List Int} {a b : Int} (h : 0 < vs.length) (n : Nat) : (List.range vs.length).map (fun i => ((countAt (orderTo vs a b n) i : Nat) : Int)) = givenTo vs a b n := by
  refine ext_getD (by rw [List.length_map, List.length_range, givenTo_len]) fun i hi => ?_
  rw [List.length_map, List.length_range] at hi
  rw [← countAt_order h, List.getD_eq_getElem?_getD, List.getElem?_map, List.getElem?_range hi]
  rfl
theorem orderTo_len (vs : List Int) (a b : Int) (n : Nat) : (orderTo vs a b n).length = n := by
  unfold orderTo
  rw [List.length_map, List.length_range]
theorem orderTo_succ (vs : List Int) (a b : Int) (n : Nat) : orderTo vs a b (n + 1) = orderTo vs a b n ++ [nextL vs (givenTo vs a b n) a b] := by
  unfold orderTo
  rw [List.range_succ, List.map_append]
  rfl
end Bd

/-! Pairs of lists, seats that should go over, prices; what the laws draw. -/
namespace Bd
/-- the pairs (one, other), one having a seat, of the first n lists of l -/
def pairsTo (l : Nat) (gs : List Int) : Nat → List (Nat × Nat)
  | 0 => []
  | n + 1 => pairsTo l gs n ++ (if 0 < gs.getD n 0 then ((List.range l).filter fun o => !decide (o = n)).map fun o => (n, o) else [])
def pairsL (vs gs : List Int) : List (Nat × Nat) := pairsTo vs.length gs vs.length
theorem pairsTo_len (l : Nat) (gs : List Int) : ∀ n, (pairsTo l gs n).length ≤ n * l
  | 0 => Nat.zero_le _
  | n + 1 => by
    have ih := pairsTo_len l gs n
    have h1 := List.length_filter_le (fun o => !decide (o = n)) (List.range l)
    rw [List.length_range] at h1
    unfold pairsTo
    rw [List.length_append, Nat.succ_mul]
    split
    · rw [List.length_map]
      omega
    · simp
      omega
theorem mem_pairsTo {l : Nat} {gs : List Int} {p : Nat × Nat} : ∀ {n}, p ∈ pairsTo l gs n ↔ p.1 < n ∧ p.2 < l ∧ p.1 ≠ p.2 ∧ 0 < gs.getD p.1 0
  | 0 => by
    unfold pairsTo
    simp
  | n + 1 => by
    have ih := mem_pairsTo (l := l) (gs := gs) (p := p) (n := n)
    unfold pairsTo
    rw [List.mem_append, ih]
    constructor
    · rintro (h | h)
      · exact ⟨by omega, h.2⟩
      · by_cases hc : 0 < gs.getD n 0
        · rw [if_pos hc] at h
          obtain ⟨o, ho, rfl⟩ := List.mem_map.mp h
          obtain ⟨h1, h2⟩ := List.mem_filter.mp ho
          rw [List.mem_range] at h1
          refine ⟨Nat.lt_succ_self n, h1, fun e => ?_, hc⟩
          have e' : n = o := e
          rw [e'] at h2
          simp at h2
        · rw [if_neg hc] at h
          cases h
    · rintro ⟨h1, h2, h3, h4⟩
      by_cases e : p.1 = n
      · refine .inr ?_
        rw [e] at h4
        rw [if_pos h4]
        refine List.mem_map.mpr ⟨p.2, List.mem_filter.mpr ⟨List.mem_range.mpr h2, ?_⟩, ?_⟩
        · simp
          omega
        · rw [← e]
      · exact .inl ⟨by omega, h2, h3, h4⟩
theorem mem_pairsL {vs gs : List Int} {p : Nat × Nat} : p ∈ pairsL vs gs ↔ p.1 < vs.length ∧ p.2 < vs.length ∧ p.1 ≠ p.2 ∧ 0 < gs.getD p.1 0 := mem_pairsTo
/-- should a seat of p.1 go over to p.2 -/
def goesOver (vs gs : List Int) (a b : Int) (p : Nat × Nat) : Bool := isGr vs p.2 (mk a b (gs.getD p.2 0)) p.1 (mk a b (gs.getD p.1 0 - 1))
def overL (vs gs : List Int) (a b : Int) : Option (Nat × Nat) := (pairsL vs gs).find? (goesOver vs gs a b)
/-- is a seat of p.1 held by a claim that is strictly better -/
def holdsIt (vs gs : List Int) (a b : Int) (p : Nat × Nat) : Bool := isGr vs p.1 (mk a b (gs.getD p.1 0 - 1)) p.2 (mk a b (gs.getD p.2 0))
def strictL (vs gs : List Int) (a b : Int) : Bool := (pairsL vs gs).all (holdsIt vs gs a b)

theorem find_at {α : Type} {p : α → Bool} : ∀ {l : List α} {i : Nat} {x : α}, l[i]? = some x → p x = true → (∀ y ∈ l.take i, p y = false) → l.find? p = some x
  | [], _, _, h, _, _ => by simp at h
  | a :: r, 0, x, h, hp, _ => by
    have e : a = x := Option.some.inj h
    rw [List.find?_cons, e, hp]
  | a :: r, i + 1, x, h, hp, hn => by
    have h0 : p a = false := hn a (by rw [List.take_succ_cons]; exact List.mem_cons_self)
    rw [List.find?_cons, h0]
    exact find_at (l := r) (i := i) h hp fun y hy => hn y (by rw [List.take_succ_cons]; exact List.mem_cons_of_mem _ hy)
theorem find_no {α : Type} {p : α → Bool} {l : List α} (h : ∀ y ∈ l, p y = false) : l.find? p = none := by
  rw [List.find?_eq_none]
  intro y hy e
  rw [h y hy] at e
  cases e
theorem take_next {α : Type} {p : α → Bool} {l : List α} {i : Nat} {x : α} (h : l[i]? = some x) (hp : p x = false) (hn : ∀ y ∈ l.take i, p y = false) : ∀ y ∈ l.take (i + 1), p y = false := by
  intro y hy
  rw [List.take_add_one, h] at hy
  rcases List.mem_append.mp hy with q | q
  · exact hn y q
  · rw [List.mem_singleton.mp q]
    exact hp

/-! ### right or not -/
/-- all keep the price (u, l) -/
def Keeps (vs gs : List Int) (a b u l : Int) : Prop := ∀ i, i < vs.length → vs.getD i 0 * l ≤ mk a b (gs.getD i 0) * u ∧ (0 < gs.getD i 0 → mk a b (gs.getD i 0 - 1) * u ≤ vs.getD i 0 * l)
theorem over_stable {vs gs : List Int} {a b : Int} (h : Stable vs a b gs) : overL vs gs a b = none := by
  refine find_no fun p hp => ?_
  obtain ⟨h1, h2, h3, h4⟩ := mem_pairsL.mp hp
  have q := (h.best p.1 p.2 h1 h2 h3 h4).le
  exact decide_eq_false (by omega)
theorem over_none {vs gs : List Int} {a b : Int} (h : overL vs gs a b = none) {i j : Nat} (hi : i < vs.length) (hj : j < vs.length) (hn : i ≠ j) (hg : 0 < gs.getD i 0) :
    vs.getD j 0 * mk a b (gs.getD i 0 - 1) ≤ vs.getD i 0 * mk a b (gs.getD j 0) := by
  have q := (List.find?_eq_none.mp h) (i, j) (mem_pairsL.mpr ⟨hi, hj, hn, hg⟩)
  have q2 : ¬ (vs.getD i 0 * mk a b (gs.getD j 0) < vs.getD j 0 * mk a b (gs.getD i 0 - 1)) := fun z => q (decide_eq_true z)
  omega
theorem keeps_next {vs gs : List Int} {a b : Int} (s : Sc a b) (hv : ∀ v ∈ vs, 0 ≤ v) (hg : ∀ i, 0 ≤ gs.getD i 0) (h0 : 0 < vs.length) (h : overL vs gs a b = none) :
    Keeps vs gs a b (vs.getD (nextL vs gs a b) 0) (mk a b (gs.getD (nextL vs gs a b) 0)) := fun i hi => by
  have ht := nextL_lt (vs := vs) (gs := gs) (a := a) (b := b) h0
  by_cases e : i = nextL vs gs a b
  · rw [← e]
    refine ⟨by rw [Int.mul_comm]; exact Int.le_refl _, fun hp => ?_⟩
    rw [Int.mul_comm]
    exact Int.mul_le_mul_of_nonneg_left (mk_mono s.b1 (by omega)) (nn_getD hv i)
  · refine ⟨?_, fun hp => ?_⟩
    · have q := (nextL_best s hg hi e).le
      rw [Int.mul_comm (mk a b _)]
      exact q
    · have q := over_none h hi ht e hp
      rw [Int.mul_comm (mk a b _)]
      exact q
theorem over_some {vs gs : List Int} {a b : Int} {p : Nat × Nat} (h : overL vs gs a b = some p) : p.1 < vs.length ∧ p.2 < vs.length ∧ p.1 ≠ p.2 ∧ 0 < gs.getD p.1 0 ∧ vs.getD p.1 0 * mk a b (gs.getD p.2 0) < vs.getD p.2 0 * mk a b (gs.getD p.1 0 - 1) := by
  have h1 := mem_pairsL.mp (List.mem_of_find?_eq_some h)
  have h2 := List.find?_some h
  exact ⟨h1.1, h1.2.1, h1.2.2.1, h1.2.2.2, of_decide_eq_true h2⟩
/-! ### strict -/
theorem strict_at {vs gs : List Int} {a b : Int} (h : strictL vs gs a b = true) {i j : Nat} (hi : i < vs.length) (hj : j < vs.length) (hn : i ≠ j) (hg : 0 < gs.getD i 0) :
    vs.getD j 0 * mk a b (gs.getD i 0 - 1) < vs.getD i 0 * mk a b (gs.getD j 0) :=
  of_decide_eq_true ((List.all_eq_true.mp h) (i, j) (mem_pairsL.mpr ⟨hi, hj, hn, hg⟩))
theorem strict_of {vs gs : List Int} {a b : Int} (h : ∀ i j, i < vs.length → j < vs.length → i ≠ j → 0 < gs.getD i 0 → vs.getD j 0 * mk a b (gs.getD i 0 - 1) < vs.getD i 0 * mk a b (gs.getD j 0)) : strictL vs gs a b = true :=
  List.all_eq_true.mpr fun p hp => by
    obtain ⟨h1, h2, h3, h4⟩ := mem_pairsL.mp hp
    exact decide_eq_true (h p.1 p.2 h1 h2 h3 h4)
theorem strict_stable {vs gs : List Int} {a b : Int} (hl : gs.length = vs.length) (hn : ∀ i, 0 ≤ gs.getD i 0) (h : strictL vs gs a b = true) : Stable vs a b gs :=
  ⟨hl, hn, fun i j hi hj ne hg => .inl (strict_at h hi hj ne hg)⟩

/-! ### what the laws draw -/
def mixed (ns : List Int) (k : Nat) : Int :=
  ((ns.getD k 0 + 7919 * (k : Int) + 1) * 48271 % 2147483647 * ((ns.getD k 0 + 7919 * (k : Int) + 1) * 48271 % 2147483647) + 7 * ((ns.getD k 0 + 7919 * (k : Int) + 1) * 48271 % 2147483647) + (k : Int)) % 2147483629
def drawn (n : Int) (k : Nat) : Int :=
  ((n + 104729 * (k : Int) + 17) * 69621 % 2147483647 * ((n + 104729 * (k : Int) + 17) * 69621 % 2147483647) + 3 * ((n + 104729 * (k : Int) + 17) * 69621 % 2147483647) + (k : Int)) % 2147483629
theorem mixed_bd (ns : List Int) (k : Nat) : 0 ≤ mixed ns k ∧ mixed ns k < 2147483629 := by
  unfold mixed
  exact ⟨Int.emod_nonneg _ (by decide), Int.emod_lt_of_pos _ (by decide)⟩
theorem drawn_bd (n : Int) (k : Nat) : 0 ≤ drawn n k ∧ drawn n k < 2147483629 := by
  unfold drawn
  exact ⟨Int.emod_nonneg _ (by decide), Int.emod_lt_of_pos _ (by decide)⟩
def highOf (n most : Int) : Int := [3, 20, 1000, most + 1].getD (n / 8 % 4).toNat 0
theorem highOf_bd {n most : Int} (h : 999 ≤ most) : 3 ≤ highOf n most ∧ highOf n most ≤ most + 1 := by
  unfold highOf
  have h1 : 0 ≤ n / 8 % 4 := Int.emod_nonneg _ (by decide)
  have h2 : n / 8 % 4 < 4 := Int.emod_lt_of_pos _ (by decide)
  have h3 : n / 8 % 4 = 0 ∨ n / 8 % 4 = 1 ∨ n / 8 % 4 = 2 ∨ n / 8 % 4 = 3 := by omega
  rcases h3 with e | e | e | e <;> rw [e]
  · show 3 ≤ (3 : Int) ∧ (3 : Int) ≤ most + 1
    omega
  · show 3 ≤ (20 : Int) ∧ (20 : Int) ≤ most + 1
    omega
  · show 3 ≤ (1000 : Int) ∧ (1000 : Int) ≤ most + 1
    omega
  · show 3 ≤ most + 1 ∧ most + 1 ≤ most + 1
    omega
def manyOf (n : Int) : Nat := (1 + n % 8).toNat
theorem manyOf_bd (n : Int) : 1 ≤ manyOf n ∧ manyOf n ≤ 8 ∧ ((manyOf n : Nat) : Int) = 1 + n % 8 := by
  have h1 : 0 ≤ n % 8 := Int.emod_nonneg _ (by decide)
  have h2 : n % 8 < 8 := Int.emod_lt_of_pos _ (by decide)
  unfold manyOf
  omega
def rawVotes (n most : Int) : List Int := (List.range (manyOf n)).map fun k => drawn n k / 8 % highOf n most
def votesOf (n most : Int) : List Int := if (rawVotes n most).sum = 0 then (rawVotes n most).set 0 1 else rawVotes n most
theorem rawVotes_len (n most : Int) : (rawVotes n most).length = manyOf n := by
  unfold rawVotes
  rw [List.length_map, List.length_range]
theorem votesOf_len (n most : Int) : (votesOf n most).length = manyOf n := by
  unfold votesOf
  split
  · rw [List.length_set, rawVotes_len]
  · exact rawVotes_len n most
theorem rawVotes_bd {n most : Int} (h : 999 ≤ most) : ∀ v ∈ rawVotes n most, 0 ≤ v ∧ v ≤ most := by
  intro v hv
  obtain ⟨k, _, rfl⟩ := List.mem_map.mp hv
  have h1 := highOf_bd (n := n) h
  have h2 : 0 ≤ drawn n k / 8 % highOf n most := Int.emod_nonneg _ (by omega)
  have h3 : drawn n k / 8 % highOf n most < highOf n most := Int.emod_lt_of_pos _ (by omega)
  omega
theorem votesOf_bd {n most : Int} (h : 999 ≤ most) : ∀ v ∈ votesOf n most, 0 ≤ v ∧ v ≤ most := by
  intro v hv
  unfold votesOf at hv
  split at hv
  · rcases List.mem_or_eq_of_mem_set hv with q | q
    · exact rawVotes_bd h v q
    · omega
  · exact rawVotes_bd h v hv
theorem sum_nn : ∀ {xs : List Int}, (∀ x ∈ xs, 0 ≤ x) → 0 ≤ xs.sum
  | [], _ => Int.le_refl 0
  | x :: r, h => by
    rw [List.sum_cons]
    have h1 := h x List.mem_cons_self
    have h2 := sum_nn (xs := r) fun y hy => h y (List.mem_cons_of_mem _ hy)
    omega
theorem sum_le : ∀ {xs : List Int} {m : Int}, (∀ x ∈ xs, x ≤ m) → xs.sum ≤ (xs.length : Int) * m
  | [], m, _ => by simp
  | x :: r, m, h => by
    rw [List.sum_cons, List.length_cons]
    have h1 := h x List.mem_cons_self
    have h2 := sum_le (xs := r) fun y hy => h y (List.mem_cons_of_mem _ hy)
    have e : ((r.length + 1 : Nat) : Int) * m = (r.length : Int) * m + m := by
      rw [show ((r.length + 1 : Nat) : Int) = (r.length : Int) + 1 by omega, Int.add_mul, Int.one_mul]
    omega
theorem sum_ge : ∀ {xs : List Int} {i : Nat}, (∀ x ∈ xs, 0 ≤ x) → xs.getD i 0 ≤ xs.sum
  | [], i, _ => by simp
  | x :: r, 0, h => by
    rw [List.sum_cons]
    have h2 := sum_nn (xs := r) fun y hy => h y (List.mem_cons_of_mem _ hy)
    show x ≤ x + r.sum
    omega
  | x :: r, i + 1, h => by
    rw [List.sum_cons]
    have h1 := h x List.mem_cons_self
    have h2 := sum_ge (xs := r) (i := i) fun y hy => h y (List.mem_cons_of_mem _ hy)
    show r.getD i 0 ≤ x + r.sum
    omega
theorem votesOf_sum {n most : Int} (h : 999 ≤ most) : 0 < (votesOf n most).sum := by
  have hl := manyOf_bd n
  have hr := rawVotes_bd (n := n) h
  have hb := votesOf_bd (n := n) h
  have h0 := sum_nn fun v hv => (hr v hv).1
  unfold votesOf at hb ⊢
  split
  · rename_i hc
    rw [if_pos hc] at hb
    have q := sum_ge (xs := (rawVotes n most).set 0 1) (i := 0) fun v hv => (hb v hv).1
    rw [getD_set (by rw [rawVotes_len]; omega), if_pos rfl] at q
    omega
  · omega
def scaleOf (n : Int) : Int × Int := [((1 : Int), (1 : Int)), (1, 2), (2, 1), (1 + n / 5 % 10, 1 + n / 50 % 10), (10, 10)].getD (n % 5).toNat (1, 1)
theorem five (n : Int) : n % 5 = 0 ∨ n % 5 = 1 ∨ n % 5 = 2 ∨ n % 5 = 3 ∨ n % 5 = 4 := by
  have h1 : 0 ≤ n % 5 := Int.emod_nonneg _ (by decide)
  have h2 : n % 5 < 5 := Int.emod_lt_of_pos _ (by decide)
  omega
theorem sc_of {a b : Int} (h : 1 ≤ a ∧ a ≤ 10 ∧ 1 ≤ b ∧ b ≤ 10) : Sc a b := ⟨h.1, h.2.1, h.2.2.1, h.2.2.2⟩
theorem scaleOf_sc (n : Int) : Sc (scaleOf n).1 (scaleOf n).2 := by
  unfold scaleOf
  have h1 : 0 ≤ n / 5 % 10 := Int.emod_nonneg _ (by decide)
  have h2 : n / 5 % 10 < 10 := Int.emod_lt_of_pos _ (by decide)
  have h3 : 0 ≤ n / 50 % 10 := Int.emod_nonneg _ (by decide)
  have h4 : n / 50 % 10 < 10 := Int.emod_lt_of_pos _ (by decide)
  rcases five n with e | e | e | e | e <;> rw [e]
  · exact sc_of (a := 1) (b := 1) (by decide)
  · exact sc_of (a := 1) (b := 2) (by decide)
  · exact sc_of (a := 2) (b := 1) (by decide)
  · exact sc_of (a := 1 + n / 5 % 10) (b := 1 + n / 50 % 10) (by omega)
  · exact sc_of (a := 10) (b := 10) (by decide)
end Bd

namespace Bk
open PySem PySem.Spec PyProof.Rows L2 Evl

/-! ### a def that may be called by its name -/
structure Cal (P : Program) (w : World) (K : PySem.W.Frag) (mg : Str → Option Value) (base : Heap) (k : Nat) (x : Str) (sp : Sp) : Prop where
  ex : ∃ (f : Addr) (fd : FuncData) (ps : List Str), FnOk P w K mg base CX0 k f fd ps sp ∧ mg x = some (.ref f) ∧ PySem.W.keepIn K (.ref f) = true ∧ Binds K fd ps []
theorem pe_k {X : Cx} {k j : Nat} {x : Str} {sp : Sp} {p pos : Pos} {e : Expr} {es : List Expr} {t : TA} (c : Cal X.prog X.w X.K X.mg X.base k x sp) (hr : Room j X.A) (hk : k ≤ j) (hg : Gl X x) (ha : PA X (e :: es) t)
    (hdb : (x == ("__debug__" : Str)) = false := by decide) (he : starEach (e :: es) X.env = (false, eval e X.env) :: starEach es X.env := by rfl) (hpl : (backTo pos (starEach es X.env)).any (·.1) = false := by rfl) :
    PE X (.Call (.Name x p) (e :: es) [] pos) (tCall sp [] E0 t) := by
  obtain ⟨f, fd, ps, F, hm, kp, b⟩ := c.ex
  exact pe_call F (hr.mono hk) hg hm kp b .nil pass0 ha hdb he hpl
/-- the built-in names that no module has taken -/
structure Blt (mg : Str → Option Value) : Prop where
  len : mg "len" = none
  range : mg "range" = none
  tuple : mg "tuple" = none
  list : mg "list" = none
  sum : mg "sum" = none
  int : mg "int" = none
  bool : mg "bool" = none
  isinstance : mg "isinstance" = none
  enumerate : mg "enumerate" = none
  max : mg "max" = none
  min : mg "min" = none
  all : mg "all" = none
  any : mg "any" = none

/-! ### what a part of the text comes to, told by what is true of it -/
def EvP (te : TE) (σ : L2.St) (H : Hp) (P : V → Hp → Prop) : Prop := ∀ H1, Ex H H1 → ∀ Q : VK, (∀ v H2, Ex H1 H2 → P v H2 → Q v H2) → te σ H1 Q
def EvAP (ta : TA) (σ : L2.St) (H : Hp) (P : List V → Hp → Prop) : Prop := ∀ H1, Ex H H1 → ∀ Q : List V → Hp → Prop, (∀ vs H2, Ex H1 H2 → P vs H2 → Q vs H2) → ta σ H1 Q
/-- it is a tuple of these -/
def IsT (xs : List V) : V → Hp → Prop := fun v H => ∃ p, v = .ref p ∧ H p = some (.tup xs)
abbrev EvW (te : TE) (σ : L2.St) (H : Hp) (xs : List V) : Prop := EvP te σ H (IsT xs)
def SpP (sp : Sp) (vs : List V) (H : Hp) (P : V → Hp → Prop) : Prop := ∀ H1, Ex H H1 → ∀ Q : VK, (∀ v H2, Ex H1 H2 → P v H2 → Q v H2) → ∀ E : XK, sp vs H1 Q E
/-- what a promise says of what is handed back -/
def RetP (P : V → Hp → Prop) (H : Hp) (Q : VK) : Prop := ∀ v H2, Ex H H2 → P v H2 → Q v H2
theorem RetP.go {P : V → Hp → Prop} {H H' : Hp} {Q : VK} {v : V} (k : RetP P H Q) (e : Ex H H') (h : P v H') : Q v H' := k v H' e h
theorem IsT.mono {xs : List V} {v : V} {H H' : Hp} (e : Ex H H') (h : IsT xs v H) : IsT xs v H' := by
  obtain ⟨p, rfl, hp⟩ := h
  exact ⟨p, rfl, e p _ hp⟩
section
variable {K : PySem.W.Frag} {σ : L2.St} {H H' : Hp} {ta tb te tx : TE} {t u : TT} {x y z v : V} {r : R2} {P R : V → Hp → Prop} {xs ys : List V} {D : Ends} {tu tw tz : TS}
theorem EvP.mono (e : Ex H H') (h : EvP te σ H P) : EvP te σ H' P := fun H1 a Q q => h H1 (e.trans a) Q q
theorem EvP.imp (h : EvP te σ H P) (i : ∀ v H1, Ex H H1 → P v H1 → R v H1) : EvP te σ H R := fun H1 a Q q => h H1 a Q fun v H2 e p => q v H2 e (i v H2 (a.trans e) p)
theorem ep_ev (h : Ev te σ H v) (i : ∀ H1, Ex H H1 → P v H1) : EvP te σ H P := fun H1 a Q q => h H1 a Q fun H2 e => q v H2 e (i H2 (a.trans e))
theorem ev_ep (h : EvP te σ H fun x _ => x = v) : Ev te σ H v := fun H1 a Q q => h H1 a Q fun x H2 e p => p ▸ q H2 e
theorem ew_var {i : Nat} {p : Addr} (h : σ[i]? = some (some (.ref p))) (hp : H p = some (.tup xs)) : EvW (tVar i) σ H xs := ep_ev (ev_var h) fun H1 e => ⟨p, rfl, e p _ hp⟩
theorem ew_u (h : EvU te σ H xs) : EvW te σ H xs := fun H1 a Q q => h H1 a Q fun p H2 _ e hp => q _ H2 e ⟨p, rfl, hp⟩
theorem ew_is (h : EvW te σ H xs) (e : xs = ys) : EvW te σ H ys := e ▸ h
theorem ew_tup {ta : TA} (h : EvA ta σ H xs) (hl : xs.length ≤ 100000) : EvW (tTup ta) σ H xs := ew_u (eu_tup h hl)
/-- tuple(e), e a list -/
def rTupS (K : PySem.W.Frag) : List V → Hp → VK → Prop := fun xs H Q => ∃ p ys, xs = [.ref p] ∧ ((SqL K H p ys ∧ ∀ l, H l = none → Q (.ref l) (upd H l (.tup ys))) ∨ (SqT K H p ys ∧ Q (.ref p) H))
theorem ew_tuple {p : Addr} (h : Ev te σ H (.ref p)) (hp : SqL K H p xs) : EvW (tCB (rTupS K) (tCons te tNil)) σ H xs := fun H1 e Q q =>
  h H1 e _ fun H2 e2 => ⟨p, xs, rfl, .inl ⟨ex_l (e.trans e2) hp, fun l hl => q _ _ (e2.trans (Ex.new hl)) ⟨l, rfl, upd_same⟩⟩⟩
theorem ew_tupleL (h : EvL te σ H xs) : EvW (tCB (rTupS K) (tCons te tNil)) σ H xs := fun H1 e Q q =>
  h H1 e _ fun p H2 _ e2 hp => ⟨p, xs, rfl, .inl ⟨sq_of hp, fun l hl => q _ _ (e2.trans (Ex.new hl)) ⟨l, rfl, upd_same⟩⟩⟩
/-- list(e), e a tuple -/
theorem el_listW (h : EvW te σ H xs) : EvL (tCB (rListS K) (tCons te tNil)) σ H xs := fun H1 e Q q =>
  h H1 e _ fun v H2 e2 hv => by
    obtain ⟨p, rfl, hp⟩ := hv
    exact ⟨p, xs, rfl, .inr (st_of hp), fun l hl => q l _ (fresh_back e2 hl) (e2.trans (Ex.new hl)) upd_same⟩
theorem ev_lenW (h : EvW te σ H xs) : Ev (tCB (rLenS K) (tCons te tNil)) σ H (.int (xs.length : Int)) := fun H1 e Q q =>
  h H1 e _ fun v H2 e2 hv => by
    obtain ⟨p, rfl, hp⟩ := hv
    exact ⟨p, xs, rfl, .inr (st_of hp), q H2 e2⟩
theorem ev_ixW {i : Int} (ha : EvW ta σ H xs) (hb : Ev tb σ H (.int i)) (hi : atI xs i = some v) : Ev (tOp (rIxT K) ta tb) σ H v := fun H1 e Q q =>
  ha H1 e _ fun w H2 e2 hw => hb H2 (e.trans e2) _ fun H3 e3 => by
    obtain ⟨p, rfl, hp⟩ := hw
    exact ⟨p, xs, i, v, rfl, rfl, st_of (e3 p _ hp), hi, q H3 (e2.trans e3)⟩
theorem ev_ixL {i : Int} {p : Addr} (ha : Ev ta σ H (.ref p)) (hp : SqL K H p xs) (hb : Ev tb σ H (.int i)) (hi : atI xs i = some v) : Ev (tOp (rIxL K) ta tb) σ H v := fun H1 e Q q =>
  ha H1 e _ fun H2 e2 => hb H2 (e.trans e2) _ fun H3 e3 => ⟨p, xs, i, v, rfl, rfl, ex_l ((e.trans e2).trans e3) hp, hi, q H3 (e2.trans e3)⟩
/-- e[i] of a new list -/
theorem ev_ixNL {i : Int} (ha : EvL ta σ H xs) (hb : Ev tb σ H (.int i)) (hi : atI xs i = some v) : Ev (tOp (rIxL K) ta tb) σ H v := fun H1 e Q q =>
  ha H1 e _ fun p H2 _ e2 hp => hb H2 (e.trans e2) _ fun H3 e3 => ⟨p, xs, i, v, rfl, rfl, sq_of (e3 p _ hp), hi, q H3 (e2.trans e3)⟩
theorem eap_nil : EvAP tNil σ H fun vs _ => vs = [] := fun H1 _ _ q => q [] H1 (Ex.refl H1) rfl
theorem eap_cons {tr : TA} {R : List V → Hp → Prop} (h : EvP te σ H P) (hr : EvAP tr σ H R) (m : ∀ v H1 H2, Ex H1 H2 → P v H1 → P v H2) : EvAP (tCons te tr) σ H fun vs H' => ∃ v r, vs = v :: r ∧ P v H' ∧ R r H' := fun H1 e _ q =>
  h H1 e _ fun v H2 e2 p => hr H2 (e.trans e2) _ fun r H3 e3 pr => q _ H3 (e2.trans e3) ⟨v, r, rfl, m v H2 H3 e3 p, pr⟩
theorem eap_of {ta : TA} {vs : List V} (h : EvA ta σ H vs) : EvAP ta σ H fun us _ => us = vs := fun H1 e _ q => h H1 e _ fun H2 e2 => q vs H2 e2 rfl
theorem eap_consV {tr : TA} {R : List V → Hp → Prop} (h : Ev te σ H v) (hr : EvAP tr σ H R) : EvAP (tCons te tr) σ H fun vs H' => ∃ r, vs = v :: r ∧ R r H' := fun H1 e _ q =>
  h H1 e _ fun H2 e2 => hr H2 (e.trans e2) _ fun r H3 e3 pr => q _ H3 (e2.trans e3) ⟨r, rfl, pr⟩
theorem SpP.mono {sp : Sp} {vs : List V} (e : Ex H H') (h : SpP sp vs H P) : SpP sp vs H' P := fun H1 a Q q E => h H1 (e.trans a) Q q E
theorem ep_call {sp : Sp} {vs : List V} {E : XK} {ta : TA} (h : EvA ta σ H vs) (hs : SpP sp vs H P) : EvP (tCall sp [] E ta) σ H P := fun H1 e Q q =>
  h H1 e _ fun H2 e2 => by
    rw [List.append_nil]
    exact hs H2 (e.trans e2) Q (fun v H3 e3 p => q v H3 (e2.trans e3) p) E
theorem ep_callA {sp : Sp} {R : List V → Hp → Prop} {E : XK} {ta : TA} (h : EvAP ta σ H R) (hs : ∀ vs H1, Ex H H1 → R vs H1 → SpP sp vs H1 P) : EvP (tCall sp [] E ta) σ H P := fun H1 e Q q =>
  h H1 e _ fun vs H2 e2 hr => by
    rw [List.append_nil]
    exact hs vs H2 (e.trans e2) hr H2 (Ex.refl H2) Q (fun v H3 e3 p => q v H3 (e2.trans e3) p) E
theorem ev_callA {sp : Sp} {R : List V → Hp → Prop} {E : XK} {ta : TA} (h : EvAP ta σ H R) (hs : ∀ vs H1, Ex H H1 → R vs H1 → SpV sp vs H1 v) : Ev (tCall sp [] E ta) σ H v :=
  ev_ep (ep_callA h fun vs H1 e r H2 e2 Q q E => hs vs H1 e r H2 e2 Q (fun H3 e3 => q v H3 e3 rfl) E)
theorem ev_call0 {sp : Sp} {vs : List V} {E : XK} {ta : TA} (h : EvA ta σ H vs) (hs : SpV sp vs H z) : Ev (tCall sp [] E ta) σ H z := ev_call h (by rw [List.append_nil]; exact hs)
/-! tuples glued and cut -/
theorem ew_cat (ha : EvW ta σ H xs) (hb : EvW tb σ H ys) (hl : xs.length + ys.length ≤ 100000) : EvW (tOp (rCatA K) ta tb) σ H (xs ++ ys) := fun H1 e Q q =>
  ha H1 e _ fun v H2 e2 hv => hb H2 (e.trans e2) _ fun w H3 e3 hw => by
    obtain ⟨p, rfl, hp⟩ := hv
    obtain ⟨p', rfl, hp'⟩ := hw
    refine ⟨p, p', xs, ys, rfl, rfl, st_of (e3 p _ hp), st_of hp', sz_of hl, fun h => ?_, fun _ h => ?_, fun _ _ n hn => ?_⟩
    · exact q _ H3 (e2.trans e3) ⟨p', rfl, by rw [h, List.nil_append]; exact hp'⟩
    · exact q _ H3 (e2.trans e3) ⟨p, rfl, by rw [h, List.append_nil]; exact e3 p _ hp⟩
    · exact q _ _ ((e2.trans e3).trans (Ex.new hn)) ⟨n, rfl, upd_same⟩
theorem cutV_whole {lo hi : Option Int} (h : HT.sIx xs.length 0 lo = 0 ∧ HT.sIx xs.length xs.length hi = xs.length) : cutV xs lo hi = xs := by
  unfold cutV
  rw [h.1, h.2, List.drop_zero, Nat.sub_zero, List.take_length]
theorem cutV_to (xs : List V) (n : Nat) : cutV xs none (some (n : Int)) = xs.take n := by
  unfold cutV
  rw [HT.sIx_none, HT.sIx_nat, List.drop_zero, Nat.sub_zero, List.take_eq_take_iff]
  omega
theorem cutV_from (xs : List V) (n : Nat) : cutV xs (some (n : Int)) none = xs.drop n := by
  unfold cutV
  rw [HT.sIx_none, HT.sIx_nat]
  by_cases h : n ≤ xs.length
  · rw [Nat.min_eq_left h, List.take_of_length_le (by rw [List.length_drop]; exact Nat.le_refl _)]
  · rw [Nat.min_eq_right (by omega), Nat.sub_self, List.take_zero, List.drop_eq_nil_of_le (by omega)]
theorem ew_cut {tl th : TO} {lo hi : Option Int} (h : EvW te σ H xs) (h1 : EvO tl σ H lo) (h2 : EvO th σ H hi) : EvW (tSl (rSlA K) te tl th) σ H (cutV xs lo hi) := fun H1 e Q q =>
  h H1 e _ fun v H2 e2 hv => h1 H2 (e.trans e2) _ fun H3 e3 => h2 H3 ((e.trans e2).trans e3) _ fun H4 e4 => by
    obtain ⟨p, rfl, hp⟩ := hv
    have hp4 := e4 p _ (e3 p _ hp)
    refine ⟨p, xs, rfl, st_of hp4, fun hw => q _ H4 ((e2.trans e3).trans e4) ⟨p, rfl, by rw [cutV_whole hw]; exact hp4⟩, fun _ n hn => q _ _ (((e2.trans e3).trans e4).trans (Ex.new hn)) ⟨n, rfl, upd_same⟩⟩
theorem ew_to {tl : TE} {n : Nat} (h : EvW te σ H xs) (h2 : Ev tl σ H (.int (n : Int))) : EvW (tSl (rSlA K) te tNoPart (tPart tl)) σ H (xs.take n) := ew_is (ew_cut h eo_none (eo_some h2)) (cutV_to xs n)
theorem ew_from {tl : TE} {n : Nat} (h : EvW te σ H xs) (h2 : Ev tl σ H (.int (n : Int))) : EvW (tSl (rSlA K) te (tPart tl) tNoPart) σ H (xs.drop n) := ew_is (ew_cut h (eo_some h2) eo_none) (cutV_from xs n)
/-! statements -/
theorem q_asgP {i : Nat} (h : EvP te σ H P) (k : ∀ v H1, Ex H H1 → P v H1 → tz D (σ.set i (some v)) H1) : tSeq (tAsg te (gName i)) tz D σ H := h H (Ex.refl H) _ fun v H1 e p => k v H1 e p
theorem q_asgW {i : Nat} (h : EvW te σ H xs) (k : ∀ p H1, Ex H H1 → H1 p = some (.tup xs) → tz D (σ.set i (some (.ref p))) H1) : tSeq (tAsg te (gName i)) tz D σ H := h H (Ex.refl H) _ fun v H1 e hv => by
  obtain ⟨p, rfl, hp⟩ := hv
  exact k p H1 e hp
theorem s_asgW {i : Nat} (h : EvW te σ H xs) (k : ∀ p H1, Ex H H1 → H1 p = some (.tup xs) → D.nx (σ.set i (some (.ref p))) H1) : tAsg te (gName i) D σ H := h H (Ex.refl H) _ fun v H1 e hv => by
  obtain ⟨p, rfl, hp⟩ := hv
  exact k p H1 e hp
theorem s_retP (h : EvP te σ H P) (k : ∀ v H1, Ex H H1 → P v H1 → D.rt v H1) : tRet te D σ H := h H (Ex.refl H) _ fun v H1 e p => k v H1 e p
theorem s_retW (h : EvW te σ H xs) (k : ∀ p H1, Ex H H1 → H1 p = some (.tup xs) → D.rt (.ref p) H1) : tRet te D σ H := h H (Ex.refl H) _ fun v H1 e hv => by
  obtain ⟨p, rfl, hp⟩ := hv
  exact k p H1 e hp
end
end Bk

namespace Bk
open PySem PySem.Spec PyProof.Rows L2 Evl

/-! ### sum, max, min of a tuple of ints; its index -/
section
variable {X : Cx}
def rSumT (K : PySem.W.Frag) : List V → Hp → VK → Prop := fun vs H Q => ∃ (a : Addr) (ns : List Int), vs = [V.ref a] ∧ SqT K H a (ns.map V.int) ∧ Q (.int ns.sum) H
def rMaxT (K : PySem.W.Frag) : List V → Hp → VK → Prop := fun vs H Q => ∃ (a : Addr) (ns : List Int), vs = [V.ref a] ∧ SqT K H a (ns.map V.int) ∧ 0 < ns.length ∧ ∀ m, m ∈ ns → (∀ y, y ∈ ns → y ≤ m) → Q (.int m) H
def rMinT (K : PySem.W.Frag) : List V → Hp → VK → Prop := fun vs H Q => ∃ (a : Addr) (ns : List Int), vs = [V.ref a] ∧ SqT K H a (ns.map V.int) ∧ 0 < ns.length ∧ ∀ m, m ∈ ns → (∀ y, y ∈ ns → m ≤ y) → Q (.int m) H
theorem cr_sumT (hc : X.calm = true) : CallR X (.builtin "sum") (rSumT X.K) := by
  intro pins s σ H vs us Q I r h
  obtain ⟨a, ns, rfl, hs, q⟩ := h
  obtain ⟨its, rv, hl, _⟩ := I.tuple hs
  rw [Vals.ref1 r]
  have hi := rv.ints
  have ht : s.heap.IsTuple a its.toArray := hl
  obtain ⟨xs, e⟩ := hi.allInts.items
  have hn : numsOf (intItems xs).toList = ns := by rw [← e]; exact hi.numsOf
  rw [nums_intItems] at hn
  rw [e] at ht
  refine PySem.W.ktm_sumG (I.ok.hd hc) ht fun h' tk t' hk => ?_
  have e2 : preSum (numAt xs) xs.size = ns.sum := by rw [preSum_eq, List.take_of_length_le (by simp), hn]
  exact ⟨.int ns.sum, H, I.kept hk, ⟨t', by rw [e2]⟩, q⟩
end
end Bk

namespace Bk
open PySem PySem.Spec PyProof.Rows L2 Evl
section
variable {K : PySem.W.Frag} {σ : L2.St} {H H' : Hp} {ta tb te tx tl : TE} {t u : TT} {x y z v : V} {r : R2} {P R : V → Hp → Prop} {xs ys : List V} {D : Ends} {tu tw tz : TS}
/-! ### lists made by * and + -/
theorem el_rep {k : Int} (ha : EvL ta σ H xs) (hb : Ev tb σ H (.int k)) (hk : 0 ≤ k ∧ k ≤ 1000) (hl : xs.length ≤ 50) : EvL (tOp rRep ta tb) σ H (List.replicate k.toNat xs).flatten := fun H1 e Q q =>
  ha H1 e _ fun p H2 hp e2 h2 => hb H2 (e.trans e2) _ fun H3 e3 => by
    refine ⟨p, k, xs, rfl, rfl, e3 p _ h2, by omega, by omega, sz_of ?_, fun n hn => q n _ (fresh_back (e2.trans e3) hn) ((e2.trans e3).trans (Ex.new hn)) upd_same⟩
    have h1 : xs.length * k.toNat ≤ 50 * 1000 := Nat.mul_le_mul hl (by omega)
    omega
theorem el_one {e : V} (ha : Ev ta σ H e) : EvL (tLst (tCons ta tNil)) σ H [e] := el_lst (ea_cons ha ea_nil) (by show 1 ≤ 100000; decide)
theorem rep1 (e : V) : ∀ n : Nat, (List.replicate n [e]).flatten = List.replicate n e
  | 0 => rfl
  | n + 1 => by rw [List.replicate_succ, List.flatten_cons, rep1 e n, List.replicate_succ]; rfl
theorem el_cat (ha : EvL ta σ H xs) (hb : EvL tb σ H ys) (hl : xs.length + ys.length ≤ 100000) : EvL (tOp rCat ta tb) σ H (xs ++ ys) := fun H1 e Q q =>
  ha H1 e _ fun p H2 hp e2 h2 => hb H2 (e.trans e2) _ fun p' H3 hp' e3 h3 =>
    ⟨p, p', xs, ys, rfl, rfl, e3 p _ h2, h3, sz_of hl, fun n hn => q n _ (fresh_back (e2.trans e3) hn) ((e2.trans e3).trans (Ex.new hn)) upd_same⟩
theorem el_is (h : EvL te σ H xs) (e : xs = ys) : EvL te σ H ys := e ▸ h
theorem el_to {tl : TE} {a : Addr} {n : Nat} (h : Ev te σ H (.ref a)) (hs : SqL K H a xs) (h2 : Ev tl σ H (.int (n : Int))) : EvL (tSl (rSlL K) te tNoPart (tPart tl)) σ H (xs.take n) := el_is (el_sl h eo_none (eo_some h2) hs) (cutV_to xs n)
theorem el_from {tl : TE} {a : Addr} {n : Nat} (h : Ev te σ H (.ref a)) (hs : SqL K H a xs) (h2 : Ev tl σ H (.int (n : Int))) : EvL (tSl (rSlL K) te (tPart tl) tNoPart) σ H (xs.drop n) := el_is (el_sl h (eo_some h2) eo_none hs) (cutV_from xs n)
theorem et_yes : EvT tYes σ H true := fun H1 _ Q q => q H1 (Ex.refl H1)
/-- a call whose second of three arguments is a new tuple made of a list -/
theorem eap_3 {ta tb tc : TE} {x z : V} (h1 : Ev ta σ H x) (h2 : EvW tb σ H xs) (h3 : Ev tc σ H z) : EvAP (tCons ta (tCons tb (tCons tc tNil))) σ H fun vs H' => ∃ q, vs = [x, .ref q, z] ∧ H' q = some (.tup xs) := fun H1 e Q q =>
  h1 H1 e _ fun H2 e2 => h2 H2 (e.trans e2) _ fun v H3 e3 hv => h3 H3 ((e.trans e2).trans e3) _ fun H4 e4 => by
    obtain ⟨p, rfl, hp⟩ := hv
    exact q _ H4 ((e2.trans e3).trans e4) ⟨p, rfl, e4 p _ hp⟩

/-! ### comprehensions -/
theorem given_fm (p : V → Bool) (g : V → V) : ∀ xs : List V, given xs.length (fun i => p (xs.getD i .non)) (fun i => g (xs.getD i .non)) = (xs.filter p).map g := by
  intro xs
  have e : (List.range xs.length).map (fun i => xs.getD i .non) = xs := by
    refine List.ext_getElem (by rw [List.length_map, List.length_range]) fun i h1 h2 => ?_
    rw [List.getElem_map, List.getElem_range, List.getD_eq_getElem?_getD, List.getElem?_eq_getElem h2]
    rfl
  have h := congrArg (fun l => (l.filter p).map g) e
  rw [List.filter_map, List.map_map] at h
  exact h
theorem given_map (n : Nat) (v : Nat → V) : given n (fun _ => true) v = (List.range n).map v := by
  unfold given
  rw [List.filter_eq_self.mpr fun _ _ => rfl]
theorem getD_at {xs : List V} {i : Nat} {x : V} (h : xs[i]? = some x) : xs.getD i .non = x := by
  rw [List.getD_eq_getElem?_getD, h]
  rfl
/-- over a tuple -/
theorem el_lcW {j : Nat} {vs : List Nat} (p : V → Bool) (g : V → V) (h : EvW tl σ H xs) (hz : xs.length ≤ 40000) (hw : ∀ x, wipe ((wipe σ vs).set j (some x)) vs = wipe σ vs)
    (ht : ∀ (x : V) H1, Ex H H1 → x ∈ xs → EvT t ((wipe σ vs).set j (some x)) H1 (p x)) (he : ∀ (x : V) H1, Ex H H1 → x ∈ xs → p x = true → Ev te ((wipe σ vs).set j (some x)) H1 (g x)) :
    EvL (tLc (iTup K tl) (gName j) t te vs) σ H ((xs.filter p).map g) := fun H0 e Q q => h H0 e _ fun v H1 e1 hv => by
  obtain ⟨a, rfl, ha⟩ := hv
  refine ⟨a, rfl, ⟨xs, st_of ha⟩, fun Dl hD => ?_⟩
  refine lc_tup (xs := xs) (Cw H1 (fun i => p (xs.getD i .non)) (fun i => g (xs.getD i .non)) Dl) ⟨hD, Ex.new hD, upd_same⟩ (fun i H' _ c => st_of (c.2.1 a _ ha)) (fun i x H' hi c => ⟨hw x, cw_turn c (by have := (List.getElem?_eq_some_iff.mp hi).1; omega) ?_ ?_⟩)
    (fun H' c => q Dl H' (fresh_back e1 c.1) (e1.trans c.2.1) (by rw [← given_fm]; exact c.2.2))
  · rw [getD_at hi]
    exact ht x H1 (e.trans e1) (List.mem_of_getElem? hi)
  · rw [getD_at hi]
    exact fun hf => he x H1 (e.trans e1) (List.mem_of_getElem? hi) hf
/-- over range(n), without a test -/
theorem el_lcR {ta : TA} {j : Nat} {vs : List Nat} {n : Nat} (v : Nat → V) (h : EvA ta σ H [.int (n : Int)]) (hn : n ≤ 40000) (hw : ∀ x, wipe ((wipe σ vs).set j (some x)) vs = wipe σ vs)
    (he : ∀ (i : Nat) H1, Ex H H1 → i < n → Ev te ((wipe σ vs).set j (some (.int (i : Int)))) H1 (v i)) : EvL (tLc (iRng1 ta) (gName j) tYes te vs) σ H ((List.range n).map v) :=
  el_is (el_lcR1 (n := (n : Int)) (fun _ => true) v h (by omega) hw (fun _ _ _ _ => et_yes) (fun i H1 e hi _ => he i H1 e (by omega))) (given_map n v)
/-- over range(n), with a test -/
theorem el_lcRt {ta : TA} {j : Nat} {vs : List Nat} {n : Nat} (f : Nat → Bool) (v : Nat → V) (h : EvA ta σ H [.int (n : Int)]) (hn : n ≤ 40000) (hw : ∀ x, wipe ((wipe σ vs).set j (some x)) vs = wipe σ vs)
    (ht : ∀ (i : Nat) H1, Ex H H1 → i < n → EvT t ((wipe σ vs).set j (some (.int (i : Int)))) H1 (f i))
    (he : ∀ (i : Nat) H1, Ex H H1 → i < n → f i = true → Ev te ((wipe σ vs).set j (some (.int (i : Int)))) H1 (v i)) : EvL (tLc (iRng1 ta) (gName j) t te vs) σ H (((List.range n).filter f).map v) :=
  el_lcR1 (n := (n : Int)) f v h (by omega) hw (fun i H1 e hi => ht i H1 e (by omega)) (fun i H1 e hi hf => he i H1 e (by omega) hf)
/-- a new list of things told by what is true of them -/
def EvLP (te : TE) (σ : L2.St) (H : Hp) (S : List V → Hp → Prop) : Prop := ∀ H1, Ex H H1 → ∀ Q : VK, (∀ p acc H2, H1 p = none → Ex H1 H2 → H2 p = some (.lst acc) → S acc H2 → Q (.ref p) H2) → te σ H1 Q
theorem paired_mono {α β : Type} {F G : α → β → Prop} (h : ∀ a b, F a b → G a b) : ∀ {l₁ : List α} {l₂ : List β}, Paired F l₁ l₂ → Paired G l₁ l₂
  | _, _, .nil => .nil
  | _, _, .cons r t => .cons (h _ _ r) (paired_mono h t)
theorem paired_app {α β : Type} {F : α → β → Prop} : ∀ {l₁ l₃ : List α} {l₂ l₄ : List β}, Paired F l₁ l₂ → Paired F l₃ l₄ → Paired F (l₁ ++ l₃) (l₂ ++ l₄)
  | _, _, _, _, .nil, s => s
  | _, _, _, _, .cons r t, s => .cons r (paired_app t s)
theorem paired_len {α β : Type} {F : α → β → Prop} : ∀ {l₁ : List α} {l₂ : List β}, Paired F l₁ l₂ → l₁.length = l₂.length
  | _, _, .nil => rfl
  | _, _, .cons _ t => congrArg (· + 1) (paired_len t)
theorem paired_at {α β : Type} {F : α → β → Prop} : ∀ {l₁ : List α} {l₂ : List β} {i : Nat} {x : α}, Paired F l₁ l₂ → l₁[i]? = some x → ∃ y, l₂[i]? = some y ∧ F x y
  | _, _, _, _, .nil, e => by simp at e
  | _, _, 0, _, .cons r _, e => by simp at e; subst e; exact ⟨_, rfl, r⟩
  | _, _, i + 1, _, .cons _ t, e => by
    obtain ⟨y, h1, h2⟩ := paired_at t (by simpa using e)
    exact ⟨y, by simpa using h1, h2⟩
def Cp (H : Hp) (f : Nat → Bool) (F : Nat → V → Hp → Prop) (Dl : Addr) (i : Nat) (H' : Hp) : Prop := H Dl = none ∧ Ex H H' ∧ ∃ acc, H' Dl = some (.lst acc) ∧ Paired (fun v k => F k v H') acc ((List.range i).filter f)
theorem elp_lcR {ta : TA} {j : Nat} {vs : List Nat} {n : Nat} (f : Nat → Bool) (F : Nat → V → Hp → Prop) (Fm : ∀ k v H H', (∀ b xs, H b = some (.tup xs) → H' b = some (.tup xs)) → F k v H → F k v H') (h : EvA ta σ H [.int (n : Int)]) (hn : n ≤ 40000)
    (hw : ∀ x, wipe ((wipe σ vs).set j (some x)) vs = wipe σ vs) (ht : ∀ (i : Nat) H1, Ex H H1 → i < n → EvT t ((wipe σ vs).set j (some (.int (i : Int)))) H1 (f i))
    (he : ∀ (i : Nat) H1, Ex H H1 → i < n → f i = true → EvP te ((wipe σ vs).set j (some (.int (i : Int)))) H1 (F i)) :
    EvLP (tLc (iRng1 ta) (gName j) t te vs) σ H (fun acc H' => Paired (fun v k => F k v H') acc ((List.range n).filter f)) := fun H0 e Q q => h H0 e _ fun H1 e1 => ⟨(n : Int), rfl, by omega, by omega, fun Dl hD =>
  lc_range (lo := 0) (n := (n : Int).toNat) (Cp H1 f F Dl) ⟨hD, Ex.new hD, [], upd_same, .nil⟩ (fun i H' hi c => by
    have hi' : i < n := by omega
    have e0 : (0 : Int) + (i : Int) = (i : Int) := Int.zero_add _
    show wipe ((wipe σ vs).set j (some (.int ((0 : Int) + (i : Int))))) vs = wipe σ vs ∧ t ((wipe σ vs).set j (some (.int ((0 : Int) + (i : Int))))) H' fun b H3 => if b = true then te ((wipe σ vs).set j (some (.int ((0 : Int) + (i : Int))))) H3 fun y H4 => ∃ acc, H4 Dl = some (.lst acc) ∧ acc.length < sizeLine ∧ Cp H1 f F Dl (i + 1) (upd H4 Dl (.lst (acc ++ [y]))) else Cp H1 f F Dl (i + 1) H3
    rw [e0]
    obtain ⟨c1, c2, acc, c3, c4⟩ := c
    refine ⟨hw _, ht i H1 (e.trans e1) hi' H' c2 _ fun H3 e3 => ?_⟩
    have tk : ∀ {H H' : Hp}, Ex H H' → ∀ b xs, H b = some (.tup xs) → H' b = some (.tup xs) := fun e b xs h => e b _ h
    have lacc : acc.length ≤ i := by
      rw [paired_len c4]
      have h := List.length_filter_le f (List.range i)
      rw [List.length_range] at h
      exact h
    cases hf : f i with
    | true =>
      show te _ H3 fun y H4 => _
      refine he i H1 (e.trans e1) hi' hf H3 (c2.trans e3) _ fun y H4 e4 hy => ⟨acc, e4 Dl _ (e3 Dl _ c3), sz_lt (by omega), c1, Ex.mut ((c2.trans e3).trans e4) c1, acc ++ [y], upd_same, ?_⟩
      have tu : ∀ b xs, H4 b = some (.tup xs) → upd H4 Dl (.lst (acc ++ [y])) b = some (.tup xs) := fun b xs hb => by
        rw [upd_ne (ne_of hb (e4 Dl _ (e3 Dl _ c3)) (by intro z; cases z))]
        exact hb
      rw [List.range_succ, List.filter_append, List.filter_cons, if_pos hf]
      exact paired_app (paired_mono (fun v k h => Fm k v _ _ (fun b xs hb => tu b xs (tk (e3.trans e4) b xs hb)) h) c4) (.cons (Fm i y _ _ tu hy) .nil)
    | false =>
      show Cp H1 f F Dl (i + 1) H3
      refine ⟨c1, c2.trans e3, acc, e3 Dl _ c3, ?_⟩
      rw [List.range_succ, List.filter_append, List.filter_cons, if_neg (by rw [hf]; decide)]
      show Paired _ acc (_ ++ [])
      rw [List.append_nil]
      exact paired_mono (fun v k h => Fm k v _ _ (tk e3) h) c4) (fun H' c => by
    obtain ⟨c1, c2, acc, c3, c4⟩ := c
    exact q Dl acc H' (fresh_back e1 c1) (e1.trans c2) c3 (by rw [Int.toNat_natCast] at c4; exact c4))⟩
end
end Bk

namespace Bk
open PySem PySem.Spec PyProof.Rows L2 Evl
/-! ### the rules with the written part by its own name (within a comprehension the reading must not speak of the block) -/
section
variable {X : Cx} {K : PySem.W.Frag}
theorem ix_tupK (h : X.K = K) : IxR X (rIxT K) := h ▸ ix_tup
theorem ix_listK (h : X.K = K) : IxR X (rIxL K) := h ▸ ix_list
theorem ix_seqK (h : X.K = K) : IxR X (rIx K) := h ▸ ix_seq
theorem call_lenK (h : X.K = K) : CallR X (.builtin "len") (rLenS K) := h ▸ call_len_seq
theorem call_listK (h : X.K = K) : CallR X (.type "list") (rListS K) := h ▸ call_list_of
theorem call_tupleK (h : X.K = K) : CallR X (.type "tuple") (rTupS K) := h ▸ call_tuple_of
theorem cr_sumK (h : X.K = K) (hc : X.calm = true) : CallR X (.builtin "sum") (rSum K) := h ▸ cr_sum hc
theorem cr_sumTK (h : X.K = K) (hc : X.calm = true) : CallR X (.builtin "sum") (rSumT K) := h ▸ cr_sumT hc
theorem cr_allK (h : X.K = K) (hc : X.calm = true) : CallR X (.builtin "all") (rAll K) := h ▸ cr_all hc
theorem cr_anyK (h : X.K = K) (hc : X.calm = true) : CallR X (.builtin "any") (rAny K) := h ▸ cr_any hc
theorem call_isiK2 (h : X.K = K) : CallR X (.builtin "isinstance") (rIsi K) := h ▸ call_isi
theorem op_catAK (h : X.K = K) : OpR X (binaryOp .Add) (rCatA K) := h ▸ op_catA
theorem op_eqDK (h : X.K = K) (hu : X.A.units + 64 < cLine) : OpR X (compareOp .Eq) (rEqD K) := h ▸ op_eqD hu
theorem op_neDK (h : X.K = K) (hu : X.A.units + 64 < cLine) : OpR X (compareOp .NotEq) (rNeD K) := h ▸ op_neD hu
theorem sl_tupAK (h : X.K = K) : SlR X (rSlA K) := h ▸ sl_tupA
theorem sl_listK (h : X.K = K) : SlR X (rSlL K) := h ▸ sl_list
theorem op_repTK (h : X.K = K) : OpR X (binaryOp .Mult) (rRepT K) := h ▸ op_repT
theorem pg_tupK {es : List Expr} {kk : Nat} {t : TGs} {n : Nat} {pos : Pos} (h : X.K = K) (hc : X.calm = true) (hs : PGs X es t)
    (hn : (assignEach es X.env).length = n := by rfl) (hst : (assignEach es X.env).findIdx? (·.1) = none := by rfl) : PG X (.Tuple es kk pos) (gTup K n t) := h ▸ pg_tup hc hs hn hst
theorem pi_tupK {tg l : Expr} {tl : TE} (h : X.K = K) (hl : PE X l tl) : PI X tg l (iTup K tl) := h ▸ pi_tup hl
theorem pi_listK {tg l : Expr} {tl : TE} (h : X.K = K) (hl : PE X l tl) : PI X tg l (iList K tl) := h ▸ pi_list hl
end
end Bk

namespace Bk
open PySem PySem.Spec PyProof.Rows L2 Evl
/-! ### enumerate(t), t a tuple -/
def tupIt (t : Addr) : Obj := { cls := .type "tuple_iterator", data := .fields #[.ref t, .int 0 0] }
def enumOf (it : Addr) : Obj := { cls := .type "enumerate", data := .fields #[.none, .bool false, .ref it, rawInt 0, .none, .none] }
theorem enumT_new (t : Addr) (items : Array Value) :
    Meets (Builtin.«enumerate.__new__» ⟨[.type "enumerate", .ref t], []⟩) (fun _ R s => s.heap.IsTuple t items ∧
      R (.ok (.ret (.ref (s.heap.push (tupIt t)).objs.size))) { s with heap := (s.heap.push (tupIt t)).push (enumOf s.heap.objs.size) }) :=
  .of_wp fun prog w A R sh hyp => by
    obtain ⟨hp, g, d, tk, os⟩ := sh
    obtain ⟨h1, hyp⟩ := hyp
    have hs1 := sub_enumerate
    have stp : ∀ {A' : Around} {E : Value → Shared → Prop} {Q : Value → Shared → Prop}, Q (.ref hp.objs.size) ⟨hp.push (tupIt t), g, d, tk, os⟩ → wpAny (model prog w) A' (pyIter (.ref t)) Q E ⟨hp, g, d, tk, os⟩ :=
      fun z => (begins_tuple t items).iter prog w _ _ ⟨hp, g, d, tk, os⟩ _ h1 z
    wp_walk using stp
    refine wpAny_stack_any fun st => wpAny_pure ?_
    split
    · rename_i c _ _ _ _ _
      cases (c == Value.type "enumerate") <;> (wp_walk using stp; exact ⟨_, rfl, hyp⟩)
    · wp_walk using stp
      exact ⟨_, rfl, hyp⟩
section
variable {prog : Program} {w : World} {A : Around} {E : Value → Shared → Prop} {s : Shared}
theorem call_enumT {t : Addr} {items : Array Value} {Q : Value → Shared → Prop} (ht : s.heap.IsTuple t items)
    (k : ∀ h2, IsEnum h2 (s.heap.objs.size + 1) s.heap.objs.size 0 .none → h2.IsTupleIter s.heap.objs.size t 0 → (∀ b ob, s.heap.get? b = some ob → h2.get? b = some ob) → Q (.ref (s.heap.objs.size + 1)) { s with heap := h2 }) :
    wpAny (model prog w) A (call (.type "enumerate") [.ref t]) Q E s := by
  have z1 : (s.heap.push (tupIt t)).objs.size = s.heap.objs.size + 1 := Heap.size_push ..
  have e1 : IsEnum ((s.heap.push (tupIt t)).push (enumOf s.heap.objs.size)) (s.heap.objs.size + 1) s.heap.objs.size 0 .none := by
    have q := Heap.get?_push_size (s.heap.push (tupIt t)) (o := enumOf s.heap.objs.size) rfl
    rw [z1] at q
    exact q
  refine callType_new F.called_enumerate (by decide) (F.typeCall_enumerate_1 _) (F.newCall_enumerate_1 _) (fun ob => F.args_object_init_2 ob _) F.entry_enumerate_new (enumT_new t items) ⟨ht, ?_⟩
  show _ ∧ _
  rw [z1]
  exact ⟨⟨_, e1, rfl⟩, k _ e1 ⟨_, Heap.get?_push_of_some _ (Heap.get?_push_size _ rfl), rfl, rfl⟩ fun b ob x => Heap.get?_push_of_some _ (Heap.get?_push_of_some _ x)⟩
end
/-- the tuple at a, item by item with its place, in new pairs -/
def IteT (K : PySem.W.Frag) (a : Addr) : It :=
  ⟨fun i H => ∃ (xs : List V) (x : V), SqT K H a xs ∧ xs[i]? = some x, fun i H v H2 => ∃ T x, v = .ref T ∧ H T = none ∧ H2 = upd H T (.tup [.int (i : Nat), x]) ∧ ∀ xs, SqT K H a xs → xs[i]? = some x, fun i H => ∃ xs : List V, SqT K H a xs ∧ xs.length ≤ i⟩
theorem turn_enumT {P : Program} {w : World} {K : PySem.W.Frag} {elts : List Expr} {kk : Nat} {tpos : Pos} (a e it : Addr) :
    Turn P w K (.Tuple elts kk tpos) (IteT K a) [e, it] e (fun i h => (∃ old, IsEnum h e it ((i : Nat) : Int) old) ∧ h.IsTupleIter it a i ∧ e ≠ it) where
  mem := by simp
  obj := fun i h st b hb => by
    obtain ⟨⟨old, he⟩, ⟨ob, ho, hc, hd⟩, _⟩ := st
    rcases (show b = e ∨ b = it by simpa using hb) with rfl | rfl
    · exact ⟨_, he, fun v q => nomatch q⟩
    · exact ⟨ob, ho, fun v q => by rw [hd] at q; cases q⟩
  keep := fun i h h2 st kp => ⟨let ⟨old, he⟩ := st.1; ⟨old, kp e (by simp) _ he⟩, st.2.1.at fun ob q => kp it (by simp) ob q, st.2.2⟩
  item := by
    intro X hP hw hK hc i pins s σ H E I hf st hg
    subst hP hw hK
    obtain ⟨⟨old, he⟩, hit, hne⟩ := st
    obtain ⟨xs, x, hq, hx⟩ := hg
    obtain ⟨its, rv, p, hz⟩ := I.tuple hq
    obtain ⟨u, hu, ru⟩ := rv.get hx
    have hel : e < s.heap.objs.size := Heap.lt_size he
    have hil : it < s.heap.objs.size := by obtain ⟨_, q, _⟩ := hit; exact Heap.lt_size q
    have hait : a ≠ it := fun z => by
      obtain ⟨o1, q1, c1, _⟩ := hit
      obtain ⟨o2, q2, c2, _⟩ := p
      rw [z, q1] at q2
      cases q2
      rw [c1] at c2
      exact absurd (Value.type.inj c2) (by decide)
    have hae : a ≠ e := fun z => by
      obtain ⟨o2, q2, c2, _⟩ := p
      rw [z] at q2
      rw [show s.heap.get? e = some _ from he] at q2
      cases q2
      exact absurd (Value.type.inj c2) (by decide)
    have D := Draws.tuple (prog := X.prog) (w := X.w) (A := X.A.in1) (show X.A.in1.handled = none from I.ok.hd hc) it a hait its.toArray
    refine wpAny_pyNext_enum_itemD D he ⟨hit, show s.heap.IsTuple a its.toArray from p⟩ (by have := (List.getElem?_eq_some_iff.mp hu).1; simpa using this) hne (by simp [hne, Ne.symm hae]) fun y h2 tk hy ho hst hT hsz hk => ?_
    have ey : y = u := by
      have q : its[i]? = some y := by simpa using hy
      rw [hu] at q
      exact (Option.some.inj q).symm
    subst ey
    refine ⟨_, rfl, wpAny_letOwnedTupleGo_enum (s := { s with heap := h2, toks := tk + 1 }) ho fun h3 he3 sb => ?_⟩
    have hT3 : h3.get? s.heap.objs.size = some { cls := .type "tuple", data := .seq #[.int i tk, y] } := (sb.2 _ (Nat.ne_of_gt hel)).trans hT
    have new : ObjOk X.prog X.w (upd H s.heap.objs.size (.tup [.int (i : Nat), x])) h3 s.heap.objs.size (.tup [.int (i : Nat), x]) :=
      ⟨by show 2 ≤ sizeLine; decide, [.int i tk, y], .cons ⟨_, rfl⟩ (.cons ru .nil), ⟨_, hT3, rfl, _, rfl⟩⟩
    have I1 : Inv X pins σ (upd H s.heap.objs.size (.tup [.int (i : Nat), x])) { s with heap := h3, toks := tk + 1 } :=
      I.turnedNew (ch := [e, it]) (fun b ob hb q => (sb.2 b (fun z => hb (by simp [z]))).trans (hk b ob (fun z => hb (by simp [z])) (fun z => hb (by simp [z])) q)) hf (Nat.le_refl _) new
    refine ⟨.ref s.heap.objs.size, _, I1, rfl, ⟨_, x, rfl, I.hok.fresh (Nat.le_refl _), rfl, fun ys hy => by rw [I.tuple_inj hy hq]; exact hx⟩, ⟨⟨y, ?_⟩, hst.1.at fun ob q => (sb.2 it (Ne.symm hne)).trans q, hne⟩, fun b hb => ?_⟩
    · rw [show ((i + 1 : Nat) : Int) = (i : Int) + 1 by omega]
      exact he3
    · have hb2 : b < s.heap.objs.size := by
        rcases (show b = e ∨ b = it by simpa using hb) with z | z <;> rw [z]
        · exact hel
        · exact hil
      rw [upd_ne (Nat.ne_of_lt hb2)]
      exact (hf b hb).1
  done := by
    intro X hP hw hK hc i pins s σ H E I hf st hg
    subst hP hw hK
    obtain ⟨⟨old, he⟩, hit, hne⟩ := st
    obtain ⟨xs, hq, hx⟩ := hg
    obtain ⟨its, rv, p, hz⟩ := I.tuple hq
    obtain ⟨f0, f1, f2, f3, f4, f5⟩ := hf it (by simp)
    have hl := rv.length
    have hT : s.TypeIs (.ref e) "enumerate" := ⟨_, he, rfl⟩
    unfold pyNext
    refine wpAny_bind (wpAny_attempt (wpAny_callSpecial?_slot (name := Str.ofString "__next__") hT F.slot_enumerate_next (wpAny_call_entry F.slot_enumerate_next hT F.entry_enumerate_next ?_ (F.args_enumerate_next_1 _))))
    show wpAny _ _ (field (.ref e) 2 >>= _) _ _ _
    refine wpAny_bind (wpAny_field he rfl (x := .ref it) rfl (wpAny_bind (wpAny_nextOf_tuple_end (show X.A.in1.handled = none from I.ok.hd hc) hit (show s.heap.IsTuple a its.toArray from p) (by simp; omega) fun h2 xx he2 hx2 => ?_)))
    obtain ⟨ob, ho, hc2⟩ := hx2
    refine wpAny_bind (wpAny_isInstance (T := "StopIteration") (b := true) ⟨ob, ho, hc2⟩ isSubtype_stop (wpAny_pure ?_))
    exact ⟨rfl, I.turned (t' := s.toks) (fun b ob hb q => he2 b ob hb q) f0 f1 f3 f4 f5⟩
  self := fun A i s Q E st h => let ⟨⟨_, he⟩, _⟩ := st; wpAny_pyIter_enum he h
def iEnumT (K : PySem.W.Frag) (ta : TA) : TI := fun σ H R => ta σ H fun vs H1 => ∃ a xs, vs = [.ref a] ∧ SqT K H1 a xs ∧ R (IteT K a) H1
theorem pi_enumT {X : Cx} {e : Expr} {ta : TA} {p pos tpos : Pos} {elts : List Expr} {kk : Nat} (hg : Gl X "enumerate") (hm : X.mg "enumerate" = none) (ha : PA X [e] ta) (hs : starEach [e] X.env = [(false, eval e X.env)] := by rfl) :
    PI X (.Tuple elts kk tpos) (.Call (.Name "enumerate" p) [e] [] pos) (iEnumT X.K ta) := by
  refine ⟨fun pins s σ H R I h => ?_⟩
  refine Call_ (ld_blt I hg hm boot_enumerate (PyProof.Rows.callWith_type1 (thn (ha.run pos pins s σ H _ I h) fun us s1 ⟨vs, H1, I1, r1, q1⟩ => ?_) hs rfl))
  obtain ⟨a, xs, rfl, hq, q⟩ := q1
  rw [Vals.ref1 r1]
  obtain ⟨its, rv, p2, hz⟩ := I1.tuple hq
  refine call_enumT (show s1.heap.IsTuple a its.toArray from p2) fun h2 he hit hk => wpAny_pyIter_enum he ?_
  have I2 : Inv X pins σ H1 { s1 with heap := h2 } := I1.kept (t' := s1.toks) hk
  refine ⟨s1.heap.objs.size + 1, [s1.heap.objs.size + 1, s1.heap.objs.size], _, _, H1, rfl, I2, turn_enumT a (s1.heap.objs.size + 1) s1.heap.objs.size, ⟨⟨.none, he⟩, hit, Nat.succ_ne_self _⟩, fun b hb => ?_, q⟩
  have hle : s1.heap.objs.size ≤ b := by
    rcases (show b = s1.heap.objs.size + 1 ∨ b = s1.heap.objs.size by simpa using hb) with z | z <;> rw [z]
    · exact Nat.le_add_right _ _
    · exact Nat.le_refl _
  exact I1.fpOk hle (I1.hok.fresh hle)
theorem pi_enumTK {X : Cx} {K : PySem.W.Frag} {e : Expr} {ta : TA} {p pos tpos : Pos} {elts : List Expr} {kk : Nat} (hK : X.K = K) (hg : Gl X "enumerate") (hm : X.mg "enumerate" = none) (ha : PA X [e] ta) (hs : starEach [e] X.env = [(false, eval e X.env)] := by rfl) :
    PI X (.Tuple elts kk tpos) (.Call (.Name "enumerate" p) [e] [] pos) (iEnumT K ta) := hK ▸ pi_enumT hg hm ha hs
theorem walk_enumT {K : PySem.W.Frag} {a : Addr} {xs : List V} : Walk (IteT K a) xs.length (fun H => SqT K H a xs) (YPair (fun i => some (.int (i : Nat))) (fun i => xs[i]?)) := by
  refine ⟨fun i _ hi q => ⟨xs, xs[i], q, by simp [hi]⟩, fun _ q => ⟨xs, q, Nat.le_refl _⟩, fun i H v H2 _ q y => ?_⟩
  obtain ⟨T, x, h1, h2, h3, h4⟩ := y
  exact ⟨T, .int (i : Nat), x, h1, h2, h3, rfl, h4 xs q⟩
end Bk

namespace Bk
open PySem PySem.Spec PyProof.Rows L2 Evl

/-! ### what the tuples hold -/
def iv (vs : List Int) : List V := vs.map V.int
theorem iv_len (vs : List Int) : (iv vs).length = vs.length := List.length_map _
theorem iv_at {vs : List Int} {i : Nat} (h : i < vs.length) : atI (iv vs) (i : Int) = some (.int (vs.getD i 0)) := by
  refine atI_nat ?_
  unfold iv
  rw [List.getElem?_map, List.getElem?_eq_getElem h, List.getD_eq_getElem?_getD, List.getElem?_eq_getElem h]
  all_goals rfl
structure Vo (H : Hp) (p : Addr) (vs : List Int) : Prop where
  here : H p = some (.tup (iv vs))
  ok : ∀ v ∈ vs, 0 ≤ v ∧ v ≤ 1000000
  pos : 0 < vs.length
  len : vs.length ≤ 8
structure Gi (H : Hp) (p : Addr) (gs : List Int) (n : Nat) : Prop where
  here : H p = some (.tup (iv gs))
  ok : ∀ g ∈ gs, 0 ≤ g ∧ g ≤ 60
  len : gs.length = n
structure Sl (H : Hp) (p : Addr) (a b : Int) : Prop where
  here : H p = some (.tup [.int a, .int b])
  sc : Bd.Sc a b
theorem Vo.mono {H H' : Hp} {p : Addr} {vs : List Int} (h : Vo H p vs) (e : Ex H H') : Vo H' p vs := ⟨e p _ h.here, h.ok, h.pos, h.len⟩
theorem Gi.mono {H H' : Hp} {p : Addr} {gs : List Int} {n : Nat} (h : Gi H p gs n) (e : Ex H H') : Gi H' p gs n := ⟨e p _ h.here, h.ok, h.len⟩
theorem Sl.mono {H H' : Hp} {p : Addr} {a b : Int} (h : Sl H p a b) (e : Ex H H') : Sl H' p a b := ⟨e p _ h.here, h.sc⟩
theorem Vo.bd {H : Hp} {p : Addr} {vs : List Int} (h : Vo H p vs) (i : Nat) : 0 ≤ vs.getD i 0 ∧ vs.getD i 0 ≤ 1000000 := by
  by_cases hi : i < vs.length
  · exact h.ok _ (Bd.getD_mem hi)
  · rw [Bd.getD_out (by omega)]
    omega
theorem Gi.bd {H : Hp} {p : Addr} {gs : List Int} {n : Nat} (h : Gi H p gs n) (i : Nat) : 0 ≤ gs.getD i 0 ∧ gs.getD i 0 ≤ 60 := by
  by_cases hi : i < gs.length
  · exact h.ok _ (Bd.getD_mem hi)
  · rw [Bd.getD_out (by omega)]
    omega
theorem mk_bd {a b k : Int} (s : Bd.Sc a b) (h0 : -1 ≤ k) (h : k ≤ 60) : -10 ≤ Bd.mk a b k ∧ Bd.mk a b k ≤ 610 := by
  have h1 := Bd.mk_le s.a2 s.b2 (by have := s.b1; omega) h (by omega)
  have h2 := Bd.mk_mono (a := a) s.b1 h0
  have h3 := s.a1
  have h4 := s.b2
  unfold Bd.mk at h2 ⊢
  unfold Bd.mk at h1
  omega

/-! ### the promises -/
def spMark : Sp := fun vs H Q _ => ∃ (p : Addr) (a b k : Int), vs = [.ref p, .int k] ∧ Sl H p a b ∧ (-1 ≤ k ∧ k ≤ 1000) ∧ RetV (.int (Bd.mk a b k)) H Q
theorem sv_mark {H : Hp} {p : Addr} {a b k : Int} (h : Sl H p a b) (hk : -1 ≤ k ∧ k ≤ 1000) : SpV spMark [.ref p, .int k] H (.int (Bd.mk a b k)) := fun H1 e Q q E => ⟨p, a, b, k, rfl, h.mono e, hk, q⟩
def spGreater : Sp := fun ws H Q _ => ∃ (p : Addr) (vs : List Int) (i j : Nat) (m n : Int), ws = [.ref p, .int (i : Int), .int m, .int (j : Int), .int n] ∧ Vo H p vs ∧ i < vs.length ∧ j < vs.length ∧ RetV (.bl (Bd.isGr vs i m j n)) H Q
theorem sv_greater {H : Hp} {p : Addr} {vs : List Int} {i j : Nat} {m n : Int} (h : Vo H p vs) (hi : i < vs.length) (hj : j < vs.length) : SpV spGreater [.ref p, .int (i : Int), .int m, .int (j : Int), .int n] H (.bl (Bd.isGr vs i m j n)) :=
  fun H1 e Q q E => ⟨p, vs, i, j, m, n, rfl, h.mono e, hi, hj, q⟩
def spNext : Sp := fun ws H Q _ => ∃ (p g s : Addr) (vs gs : List Int) (a b : Int), ws = [.ref p, .ref g, .ref s] ∧ Vo H p vs ∧ Gi H g gs vs.length ∧ Sl H s a b ∧ RetV (.int (Bd.nextL vs gs a b : Nat)) H Q
theorem sv_next {H : Hp} {p g s : Addr} {vs gs : List Int} {a b : Int} (h : Vo H p vs) (hg : Gi H g gs vs.length) (hs : Sl H s a b) : SpV spNext [.ref p, .ref g, .ref s] H (.int (Bd.nextL vs gs a b : Nat)) :=
  fun H1 e Q q E => ⟨p, g, s, vs, gs, a, b, rfl, h.mono e, hg.mono e, hs.mono e, q⟩
def nv (os : List Nat) : List V := os.map fun o => V.int (o : Nat)
def spOrder : Sp := fun ws H Q _ => ∃ (p s : Addr) (vs : List Int) (n : Nat) (a b : Int), ws = [.ref p, .int (n : Int), .ref s] ∧ Vo H p vs ∧ n ≤ 60 ∧ Sl H s a b ∧ RetP (IsT (nv (Bd.orderTo vs a b n))) H Q
theorem sv_order {H : Hp} {p s : Addr} {vs : List Int} {n : Nat} {a b : Int} (h : Vo H p vs) (hn : n ≤ 60) (hs : Sl H s a b) : SpP spOrder [.ref p, .int (n : Int), .ref s] H (IsT (nv (Bd.orderTo vs a b n))) :=
  fun H1 e Q q E => ⟨p, s, vs, n, a, b, rfl, h.mono e, hn, hs.mono e, q⟩
def spDealt : Sp := fun ws H Q _ => ∃ (p s : Addr) (vs : List Int) (n : Nat) (a b : Int), ws = [.ref p, .int (n : Int), .ref s] ∧ Vo H p vs ∧ n ≤ 60 ∧ Sl H s a b ∧ RetP (IsT (iv (Bd.givenTo vs a b n))) H Q
theorem sv_dealt {H : Hp} {p s : Addr} {vs : List Int} {n : Nat} {a b : Int} (h : Vo H p vs) (hn : n ≤ 60) (hs : Sl H s a b) : SpP spDealt [.ref p, .int (n : Int), .ref s] H (IsT (iv (Bd.givenTo vs a b n))) :=
  fun H1 e Q q E => ⟨p, s, vs, n, a, b, rfl, h.mono e, hn, hs.mono e, q⟩
theorem iv_set {gs : List Int} {i : Nat} : (iv gs).set i (.int (gs.getD i 0 + 1)) = iv (Bd.addAt gs i) := by
  unfold iv Bd.addAt
  rw [List.map_set]
theorem iv_rep (n : Nat) : List.replicate n (V.int 0) = iv (List.replicate n 0) := by
  unfold iv
  rw [List.map_replicate]
theorem nv_app (os : List Nat) (o : Nat) : nv os ++ [.int (o : Int)] = nv (os ++ [o]) := by
  unfold nv
  rw [List.map_append]
  rfl
theorem nv_count (os : List Nat) (i : Nat) : ((nv os).filter fun x => decide (x = V.int (i : Int))).length = Bd.countAt os i := by
  unfold nv Bd.countAt
  rw [List.filter_map, List.length_map]
  refine congrArg List.length (List.filter_congr fun o _ => ?_)
  show decide (V.int (o : Int) = V.int (i : Int)) = decide (o = i)
  by_cases h : o = i
  · subst h
    rw [decide_eq_true rfl, decide_eq_true rfl]
  · rw [decide_eq_false h, decide_eq_false fun e : V.int (o : Int) = V.int (i : Int) => h (Int.ofNat.inj (V.int.inj e))]
/-- the scope of a comprehension; the only argument of the call that the last statement of a def hands back -/
def lcScope : Expr → Scope
  | .ListComp _ _ sc _ => sc
  | _ => { kind := .function, names := [], isGenerator := false, isCoroutine := false }
def callArg : Expr → Expr
  | .Call _ (e :: _) _ _ => e
  | e => e
def lastRet : List Stmt → Expr
  | [.Return (some e) _] => e
  | _ :: r => lastRet r
  | [] => .Constant .none 0 ⟨0, 0, 0, 0⟩
def retArg (s : Stmt) : Expr := callArg (lastRet (defBody s))
theorem nv_len (os : List Nat) : (nv os).length = os.length := List.length_map _
end Bk

namespace Bk
open PySem PySem.Spec PyProof.Rows L2 Evl
/-! ### pairs -/
def pairV (p : Nat × Nat) : List V := [.int (p.1 : Int), .int (p.2 : Int)]
def IsPairs (L : List (Nat × Nat)) : V → Hp → Prop := fun v H => ∃ l acc, v = .ref l ∧ H l = some (.lst acc) ∧ Paired (fun v p => IsT (pairV p) v H) acc L
def IsOver (o : Option (Nat × Nat)) : V → Hp → Prop := fun v H => match o with
  | none => v = .non
  | some p => IsT (pairV p) v H
def spPairs : Sp := fun ws H Q _ => ∃ (p g : Addr) (vs gs : List Int), ws = [.ref p, .ref g] ∧ Vo H p vs ∧ Gi H g gs vs.length ∧ RetP (IsPairs (Bd.pairsL vs gs)) H Q
theorem sv_pairs {H : Hp} {p g : Addr} {vs gs : List Int} (h : Vo H p vs) (hg : Gi H g gs vs.length) : SpP spPairs [.ref p, .ref g] H (IsPairs (Bd.pairsL vs gs)) := fun H1 e Q q E => ⟨p, g, vs, gs, rfl, h.mono e, hg.mono e, q⟩
def spOver : Sp := fun ws H Q _ => ∃ (p g s : Addr) (vs gs : List Int) (a b : Int), ws = [.ref p, .ref g, .ref s] ∧ Vo H p vs ∧ Gi H g gs vs.length ∧ Sl H s a b ∧ RetP (IsOver (Bd.overL vs gs a b)) H Q
theorem sv_over {H : Hp} {p g s : Addr} {vs gs : List Int} {a b : Int} (h : Vo H p vs) (hg : Gi H g gs vs.length) (hs : Sl H s a b) : SpP spOver [.ref p, .ref g, .ref s] H (IsOver (Bd.overL vs gs a b)) :=
  fun H1 e Q q E => ⟨p, g, s, vs, gs, a, b, rfl, h.mono e, hg.mono e, hs.mono e, q⟩
def priceV (vs gs : List Int) (a b : Int) : List V := [.int (vs.getD (Bd.nextL vs gs a b) 0), .int (Bd.mk a b (gs.getD (Bd.nextL vs gs a b) 0))]
def IsPrice (vs gs : List Int) (a b : Int) : V → Hp → Prop := fun v H => if Bd.overL vs gs a b = none then IsT (priceV vs gs a b) v H else v = .non
def spPrice : Sp := fun ws H Q _ => ∃ (p g s : Addr) (vs gs : List Int) (a b : Int), ws = [.ref p, .ref g, .ref s] ∧ Vo H p vs ∧ Gi H g gs vs.length ∧ Sl H s a b ∧ RetP (IsPrice vs gs a b) H Q
theorem sv_price {H : Hp} {p g s : Addr} {vs gs : List Int} {a b : Int} (h : Vo H p vs) (hg : Gi H g gs vs.length) (hs : Sl H s a b) : SpP spPrice [.ref p, .ref g, .ref s] H (IsPrice vs gs a b) :=
  fun H1 e Q q E => ⟨p, g, s, vs, gs, a, b, rfl, h.mono e, hg.mono e, hs.mono e, q⟩
def spStrict : Sp := fun ws H Q _ => ∃ (p g s : Addr) (vs gs : List Int) (a b : Int), ws = [.ref p, .ref g, .ref s] ∧ Vo H p vs ∧ Gi H g gs vs.length ∧ Sl H s a b ∧ RetV (.bl (Bd.strictL vs gs a b)) H Q
theorem sv_strict {H : Hp} {p g s : Addr} {vs gs : List Int} {a b : Int} (h : Vo H p vs) (hg : Gi H g gs vs.length) (hs : Sl H s a b) : SpV spStrict [.ref p, .ref g, .ref s] H (.bl (Bd.strictL vs gs a b)) :=
  fun H1 e Q q E => ⟨p, g, s, vs, gs, a, b, rfl, h.mono e, hg.mono e, hs.mono e, q⟩
theorem IsOver.mono {o : Option (Nat × Nat)} {v : V} {H H' : Hp} (e : Ex H H') (h : IsOver o v H) : IsOver o v H' := by
  cases o with
  | none => exact h
  | some p => exact IsT.mono e h
theorem IsOver.non {o : Option (Nat × Nat)} {v : V} {H : Hp} (h : IsOver o v H) : decide (v = .non) = o.isNone := by
  cases o with
  | none =>
    have e : v = .non := h
    subst e
    rfl
  | some p =>
    obtain ⟨q, rfl, _⟩ := h
    rfl

/-! ### what the law reads and draws -/
structure Scr (K : PySem.W.Frag) (H : Hp) (a : Addr) (ns : List Int) : Prop where
  here : SqL K H a (iv ns)
  len : ns.length ≤ 63
theorem Scr.mono {K : PySem.W.Frag} {H H' : Hp} {a : Addr} {ns : List Int} (h : Scr K H a ns) (e : Ex H H') : Scr K H' a ns := ⟨ex_l e h.here, h.len⟩
def spCellL (K : PySem.W.Frag) : Sp := fun ws H Q _ => ∃ (l : Addr) (ns : List Int) (k : Nat), ws = [.ref l, .int (k : Int)] ∧ Scr K H l ns ∧ RetV (.int (ns.getD k 0)) H Q
theorem sv_cell {K : PySem.W.Frag} {H : Hp} {l : Addr} {ns : List Int} {k : Nat} (h : Scr K H l ns) : SpV (spCellL K) [.ref l, .int (k : Int)] H (.int (ns.getD k 0)) := fun H1 e Q q E => ⟨l, ns, k, rfl, h.mono e, q⟩
def spMixed (K : PySem.W.Frag) : Sp := fun ws H Q _ => ∃ (l : Addr) (ns : List Int) (k : Nat), ws = [.ref l, .int (k : Int)] ∧ Scr K H l ns ∧ RetV (.int (Bd.mixed ns k)) H Q
theorem sv_mixed {K : PySem.W.Frag} {H : Hp} {l : Addr} {ns : List Int} (k : Nat) (h : Scr K H l ns) : SpV (spMixed K) [.ref l, .int (k : Int)] H (.int (Bd.mixed ns k)) := fun H1 e Q q E => ⟨l, ns, k, rfl, h.mono e, q⟩
def spDrawn : Sp := fun ws H Q _ => ∃ (n : Int) (k : Nat), ws = [.int n, .int (k : Int)] ∧ RetV (.int (Bd.drawn n k)) H Q
theorem sv_drawn {H : Hp} (n : Int) (k : Nat) : SpV spDrawn [.int n, .int (k : Int)] H (.int (Bd.drawn n k)) := fun H1 e Q q E => ⟨n, k, rfl, q⟩
def spVotes : Sp := fun ws H Q _ => ∃ (n most : Int), ws = [.int n, .int most] ∧ 999 ≤ most ∧ RetP (IsT (iv (Bd.votesOf n most))) H Q
theorem sv_votes {H : Hp} (n : Int) {most : Int} (h : 999 ≤ most) : SpP spVotes [.int n, .int most] H (IsT (iv (Bd.votesOf n most))) := fun H1 e Q q E => ⟨n, most, rfl, h, q⟩
def spScale : Sp := fun ws H Q _ => ∃ n : Int, ws = [.int n] ∧ RetP (IsT [.int (Bd.scaleOf n).1, .int (Bd.scaleOf n).2]) H Q
theorem sv_scale {H : Hp} (n : Int) : SpP spScale [.int n] H (IsT [.int (Bd.scaleOf n).1, .int (Bd.scaleOf n).2]) := fun H1 e Q q E => ⟨n, rfl, q⟩
theorem vo_of {H : Hp} {p : Addr} {n most : Int} (h : H p = some (.tup (iv (Bd.votesOf n most)))) (h1 : 999 ≤ most) (h2 : most ≤ 1000000) : Vo H p (Bd.votesOf n most) := by
  have hl := Bd.manyOf_bd n
  have e := Bd.votesOf_len n most
  exact ⟨h, fun v hv => by have := Bd.votesOf_bd h1 v hv; omega, by omega, by omega⟩
theorem gi_of {H : Hp} {g : Addr} {vs : List Int} {a b : Int} {n : Nat} (h : H g = some (.tup (iv (Bd.givenTo vs a b n)))) (hp : 0 < vs.length) (hn : n ≤ 60) : Gi H g (Bd.givenTo vs a b n) vs.length :=
  ⟨h, fun x hx => by
    obtain ⟨k, _, e⟩ := Bd.mem_getD hx
    have := Bd.givenTo_nn (a := a) (b := b) hp n k
    omega, Bd.givenTo_len vs a b n⟩
theorem Vo.nn {H : Hp} {p : Addr} {vs : List Int} (h : Vo H p vs) : ∀ v ∈ vs, 0 ≤ v := fun v hv => (h.ok v hv).1
/-- a whole number or not: what the law asks of any thing -/
inductive Kd (H : Hp) : V → Prop where
  | non : Kd H .non
  | bl (b : Bool) : Kd H (.bl b)
  | int (i : Int) : Kd H (.int i)
  | str (s : Str) : Kd H (.str s)
  | tup {a : Addr} {xs : List V} (h : H a = some (.tup xs)) : Kd H (.ref a)
  | lst {a : Addr} {xs : List V} (h : H a = some (.lst xs)) : Kd H (.ref a)
theorem Kd.mono {H H' : Hp} {x : V} (e : Ex H H') (h : Kd H x) : Kd H' x := by
  cases h with
  | non => exact .non
  | bl b => exact .bl b
  | int i => exact .int i
  | str s => exact .str s
  | tup h => exact .tup (e _ _ h)
  | lst h => exact .lst (e _ _ h)
def isNum (x : V) (lo hi : Int) : Bool := match x with
  | .int i => decide (lo ≤ i) && decide (i ≤ hi)
  | _ => false
def spNumber : Sp := fun ws H Q _ => ∃ (x : V) (lo hi : Int), ws = [x, .int lo, .int hi] ∧ Kd H x ∧ RetV (.bl (isNum x lo hi)) H Q
theorem sv_number {H : Hp} {x : V} {lo hi : Int} (h : Kd H x) : SpV spNumber [x, .int lo, .int hi] H (.bl (isNum x lo hi)) := fun H1 e Q q E => ⟨x, lo, hi, rfl, h.mono e, q⟩
/-- isinstance(x, T) -/
def isA (H : Hp) (T : String) : V → Bool := fun x => match x with
  | .non => T == "NoneType"
  | .bl _ => T == "bool" || T == "int"
  | .int _ => T == "int"
  | .str _ => T == "str"
  | .ref a => match H a with
    | some (.tup _) => T == "tuple"
    | some (.lst _) => T == "list"
    | _ => false
  | _ => false
theorem ev_isa {K : PySem.W.Frag} {σ : L2.St} {H : Hp} {te tc : TE} {x : V} {T : String} {t : String} {b : Bool} (h : Ev te σ H x) (hc : Ev tc σ H (.ty T)) (hk : ∀ H1, Ex H H1 → TyX K H1 x (.type t)) (hb : kitB t T = some b) :
    Ev (tCB (rIsi K) (tCons te (tCons tc tNil))) σ H (.bl b) := fun H1 e Q q =>
  h H1 e _ fun H2 e2 => hc H2 (e.trans e2) _ fun H3 e3 => ⟨x, .ty T, .type t, .type T, b, rfl, .ty T, hk H3 ((e.trans e2).trans e3), kit_ty hb, q H3 (e2.trans e3)⟩
end Bk

namespace Bk
open PySem PySem.Spec PyProof.Rows L2 Evl
section
variable {K : PySem.W.Frag} {σ : L2.St} {H H' : Hp} {ta tb te tx tl : TE} {t u : TT} {x y z v : V} {r : R2} {P R : V → Hp → Prop} {xs ys : List V} {D : Ends} {tu tw tz : TS} {g : TG}
/-- xs.extend(e), e a new list -/
theorem s_ext {l : Addr} {S : List V → Hp → Prop} (hl : H l = some (.lst xs)) (ha : Ev ta σ H (.ref l)) (h : EvLP te σ H S) (hz : ∀ acc H1, S acc H1 → xs.length + acc.length ≤ 100000) (k : ∀ acc H1, Ex H H1 → S acc H1 → D.nx σ (upd H1 l (.lst (xs ++ acc)))) :
    tDrop (tBM K "list" rExtend ta (tCons te tNil)) D σ H := ha H (Ex.refl H) _ fun H1 e1 =>
  ⟨Or.inl ⟨rfl, xs, sq_of (e1 l _ hl)⟩, h H1 e1 _ fun p acc H2 _ e2 h2 hs => ⟨l, p, xs, acc, rfl, rfl, e2 l _ (e1 l _ hl), h2, sz_of (hz acc H2 hs), k acc H2 (e1.trans e2) hs⟩⟩
/-- for .. in e, e told by what is true of it: a list -/
theorem q_forP {S : List V → Hp → Prop} (h : EvP tl σ H fun v H1 => ∃ a acc, v = .ref a ∧ H1 a = some (.lst acc) ∧ S acc H1)
    (k : ∀ a acc H1, Ex H H1 → H1 a = some (.lst acc) → S acc H1 → ∃ Pv : Nat → L2.St → Hp → Prop, Pv 0 σ H1 ∧ (∀ i σ' H', i ≤ acc.length → Pv i σ' H' → H' a = some (.lst acc)) ∧
      (∀ i x σ' H', acc[i]? = some x → Pv i σ' H' → g x σ' H' fun σ2 H2 => tu { D with nx := Pv (i + 1), ct := Pv (i + 1), bk := tz D } σ2 H2) ∧ ∀ σ' H', Pv acc.length σ' H' → tz D σ' H') : tSeq (tFor (iList K tl) g tu) tz D σ H :=
  h H (Ex.refl H) _ fun v H1 e p => by
    obtain ⟨a, acc, rfl, ha, hs⟩ := p
    obtain ⟨Pv, h0, hl, ht, hd⟩ := k a acc H1 e ha hs
    exact ⟨a, rfl, ⟨acc, sq_of ha⟩, for_list (K := K) Pv h0 (fun i σ' H' hi p => sq_of (hl i σ' H' hi p)) ht hd⟩
theorem g_pair {i j : Nat} {Q : L2.St → Hp → Prop} (h : IsT [x, y] v H) (k : Q ((σ.set i (some x)).set j (some y)) H) : gTup K 2 (gCons (gName i) (gCons (gName j) gNil)) v σ H Q := by
  obtain ⟨p, rfl, hp⟩ := h
  exact ⟨p, [x, y], rfl, st_of hp, rfl, x, [y], rfl, y, [], rfl, rfl, k⟩
theorem et_notN {b : Bool} (h : EvP ta σ H P) (hd : ∀ v H1, P v H1 → decide (v = .non) = b) : EvT (tB (tNotN ta)) σ H (!b) := fun H1 e Q q =>
  h H1 e _ fun v H2 e2 p => ⟨_, rfl, by rw [hd v H2 p]; exact q H2 e2⟩
theorem et_isN {b : Bool} (h : EvP ta σ H P) (hd : ∀ v H1, P v H1 → decide (v = .non) = b) : EvT (tB (tIsN ta)) σ H b := fun H1 e Q q =>
  h H1 e _ fun v H2 e2 p => ⟨_, rfl, by rw [hd v H2 p]; exact q H2 e2⟩
theorem ev_sumW {ns : List Int} (h : EvW te σ H (iv ns)) : Ev (tCB (rSumT K) (tCons te tNil)) σ H (.int ns.sum) := fun H1 e Q q =>
  h H1 e _ fun v H2 e2 hv => by
    obtain ⟨p, rfl, hp⟩ := hv
    exact ⟨p, ns, rfl, st_of hp, q H2 e2⟩
theorem ev_sumL {ns : List Int} {p : Addr} (h : Ev te σ H (.ref p)) (hp : H p = some (.lst (iv ns))) : Ev (tCB (rSum K) (tCons te tNil)) σ H (.int ns.sum) := fun H1 e Q q =>
  h H1 e _ fun H2 e2 => ⟨p, ns, rfl, sq_of (e2 p _ (e p _ hp)), q H2 e2⟩
/-- three alternatives, none of which holds -/
theorem or3_false {a b c : Bool} (h1 : a = false) (h2 : b = false) (h3 : c = false) : (a || (b || c)) = false := by rw [h1, h2, h3]; rfl
theorem dec_ne {i j : Int} (h : i = j) : (!decide (V.int i = V.int j)) = false := by rw [h, decide_eq_true rfl]; rfl
theorem dec_eq_int (i j : Int) : decide (V.int i = V.int j) = decide (i = j) := by
  by_cases h : i = j
  · rw [h, decide_eq_true rfl, decide_eq_true rfl]
  · rw [decide_eq_false h, decide_eq_false fun e => h (V.int.inj e)]
/-- a chain a <= b <= c of whole numbers, as a value -/
theorem ev_chain {g g' : Int → Int → Bool} {tc : TE} {i j k : Int} (ha : Ev ta σ H (.int i)) (hb : Ev tb σ H (.int j)) (hc : Ev tc σ H (.int k)) :
    Ev (tChain (rI0 fun i j => .bl (g i j)) (rI0 fun i j => .bl (g' i j)) ta tb tc) σ H (.bl (g i j && g' j k)) := fun H1 e Q q =>
  ha H1 e _ fun H2 e2 => hb H2 (e.trans e2) _ fun H3 e3 => ⟨i, j, rfl, rfl, _, rfl, by
    cases hg : g i j with
    | true =>
      rw [if_pos rfl]
      refine hc H3 ((e.trans e2).trans e3) _ fun H4 e4 => ⟨j, k, rfl, rfl, ?_⟩
      have := q H4 ((e2.trans e3).trans e4)
      rw [hg, Bool.true_and] at this
      exact this
    | false =>
      rw [if_neg Bool.false_ne_true]
      have := q H3 (e2.trans e3)
      rw [hg, Bool.false_and] at this
      exact this⟩
theorem ev_pow {i : Int} {k : Nat} (ha : Ev ta σ H (.int i)) (hb : Ev tb σ H (.int (k : Int))) (hk : k ≤ 1000000) (hi : i.natAbs < 2 ^ 64) : Ev (tOp (rI CPow fun i j => .int (i ^ j.toNat)) ta tb) σ H (.int (i ^ k)) :=
  ev_op ha hb (ev_pow_rv hk hi)
where ev_pow_rv {H : Hp} {i : Int} {k : Nat} (hk : k ≤ 1000000) (hi : i.natAbs < 2 ^ 64) : RV (rI CPow fun i j => .int (i ^ j.toNat)) (.int i) (.int (k : Int)) H (.int (i ^ k)) := fun H1 _ _ q => ⟨i, k, rfl, rfl, ⟨by omega, by omega, hi⟩, q H1 (Ex.refl H1)⟩
end
end Bk
namespace Bk
open PySem PySem.Spec PyProof.Rows L2 Evl
theorem paired_map {α β γ : Type} {F : α → γ → Prop} {f : β → γ} : ∀ {l₁ : List α} {l₂ : List β}, Paired (fun a b => F a (f b)) l₁ l₂ → Paired F l₁ (l₂.map f)
  | _, _, .nil => .nil
  | _, _, .cons r t => .cons r (paired_map t)
end Bk
namespace Bk
open PySem PySem.Spec PyProof.Rows L2 Evl
/-- isinstance(x, int) and not isinstance(x, bool) and .., x no whole number -/
theorem ev_noNum {K : PySem.W.Frag} {σ : L2.St} {H : Hp} {t1 t2 c1 c2 tb : TE} {x : V} {t : String} {b : Bool} (h1 : Ev t1 σ H x) (h2 : Ev t2 σ H x) (k1 : Ev c1 σ H (.ty "int")) (k2 : Ev c2 σ H (.ty "bool")) (ht : ∀ H1, Ex H H1 → TyX K H1 x (.type t))
    (hb : kitB t "int" = some b) (hn : b = true → kitB t "bool" = some true) : Ev (tAndV (tCB (rIsi K) (tCons t1 (tCons c1 tNil))) (tAndV (tNotV (tCB (rIsi K) (tCons t2 (tCons c2 tNil)))) tb)) σ H (.bl false) :=
  ev_is (ev_andV (b := false) (ev_isa h1 k1 ht hb) fun hb2 => ev_is (ev_andV (a := false) (b := false) (ev_notV (a := true) (ev_isa h2 k2 ht (hn hb2))) fun z => nomatch z) rfl) (by rw [Bool.and_false])
end Bk
namespace Bk
open PySem PySem.Spec PyProof.Rows L2 Evl
/-- arguments that are new tuples of ints, told in order -/
def IsTs (ls : List (List V)) : List V → Hp → Prop := fun vs H => Paired (fun v l => IsT l v H) vs ls
theorem IsTs.mono {ls : List (List V)} {vs : List V} {H H' : Hp} (e : Ex H H') (h : IsTs ls vs H) : IsTs ls vs H' := paired_mono (fun v l h => IsT.mono e h) h
section
variable {K : PySem.W.Frag} {σ : L2.St} {H H' : Hp} {ta tb te tx tl : TE}
theorem ets_nil : EvAP tNil σ H (IsTs []) := fun H1 _ _ q => q [] H1 (Ex.refl H1) .nil
theorem ets_cons {tr : TA} {l : List V} {ls : List (List V)} (h : EvW te σ H l) (hr : EvAP tr σ H (IsTs ls)) : EvAP (tCons te tr) σ H (IsTs (l :: ls)) := fun H1 e Q q =>
  h H1 e _ fun v H2 e2 hv => hr H2 (e.trans e2) _ fun r H3 e3 hl => q (v :: r) H3 (e2.trans e3) (.cons (hv.mono e3) hl)
/-- [t0, t1, ..][i], a list of new tuples -/
theorem ew_menu {ta : TA} {ls : List (List V)} {i : Nat} {l : List V} (h : EvAP ta σ H (IsTs ls)) (hz : ls.length ≤ 1000) (hi : Ev tb σ H (.int (i : Int))) (hl : ls[i]? = some l) : EvW (tOp (rIxL K) (tLst ta) tb) σ H l := fun H1 e Q q =>
  h H1 e _ fun vs H2 e2 hv => ⟨sz_of (by rw [paired_len hv]; omega), fun p hp => hi _ ((e.trans e2).trans (Ex.new hp)) _ fun H3 e3 => by
    obtain ⟨v, h1, h2⟩ : ∃ v, vs[i]? = some v ∧ IsT l v H2 := by
      have hlen := paired_len hv
      have hi2 : i < vs.length := by rw [hlen]; exact (List.getElem?_eq_some_iff.mp hl).1
      obtain ⟨y, h3, h4⟩ := paired_at hv (List.getElem?_eq_getElem hi2)
      rw [hl] at h3
      cases h3
      exact ⟨_, List.getElem?_eq_getElem hi2, h4⟩
    exact ⟨p, vs, (i : Int), v, rfl, rfl, sq_of (e3 p _ upd_same), atI_nat h1, q v H3 ((e2.trans (Ex.new hp)).trans e3) (h2.mono ((Ex.new hp).trans e3))⟩⟩
theorem ew_pair {x y : V} (h1 : Ev ta σ H x) (h2 : Ev tb σ H y) : EvW (tTup (tCons ta (tCons tb tNil))) σ H [x, y] := ew_tup (ea_cons h1 (ea_cons h2 ea_nil)) (by show 2 ≤ 100000; decide)
end
end Bk

namespace Bk
open PySem PySem.Spec PyProof.Rows L2 Evl
section
variable {K : PySem.W.Frag} {σ : L2.St} {H H' : Hp} {ta tb te tx tl : TE} {t u : TT} {x y z v : V} {r : R2} {P R : V → Hp → Prop} {xs ys : List V} {D : Ends} {tu tw tz : TS} {g : TG}
/-- for i, x in enumerate(t): nothing that was tracked changes; Pv of the turn and the slots; N what a turn is to reach -/
theorem q_forE {i j : Nat} (h : EvW te σ H xs) (Pv : Nat → L2.St → Prop) (h0 : Pv 0 σ)
    (hs : ∀ k x σ2 H2 (N : L2.St → Hp → Prop), xs[k]? = some x → Ex H H2 → Pv k σ2 → (∀ σ3 H3, Ex H2 H3 → Pv (k + 1) σ3 → N σ3 H3) → tu { D with nx := N, ct := N, bk := tz D } ((σ2.set i (some (.int (k : Int)))).set j (some x)) H2)
    (hd : ∀ σ2 H2, Ex H H2 → Pv xs.length σ2 → tz D σ2 H2) : tSeq (tFor (iEnumT K (tCons te tNil)) (gTup K 2 (gCons (gName i) (gCons (gName j) gNil))) tu) tz D σ H :=
  h H (Ex.refl H) _ fun v H1 e1 hv => by
    obtain ⟨a, rfl, ha⟩ := hv
    refine ⟨a, xs, rfl, st_of ha, for_it (walk_enumT (K := K) (xs := xs)) (fun k σ2 H2 => H2 a = some (.tup xs) ∧ Ex H H2 ∧ Pv k σ2) ⟨ha, e1, h0⟩ (fun k σ2 H2 _ q => st_of q.1) (fun k x σ2 H2 H3 hk q yp => ?_) fun σ2 H2 q => hd σ2 H2 q.2.1 q.2.2⟩
    obtain ⟨T, x1, x2, rfl, nT, rfl, f1, f2⟩ := yp
    cases f1
    obtain ⟨q1, q2, q3⟩ := q
    have e4 := Ex.new (o := .tup [.int (k : Nat), x2]) nT
    exact g_pair ⟨T, rfl, upd_same⟩ (hs k x2 σ2 _ _ f2 (q2.trans e4) q3 fun σ3 H3 e5 p => ⟨(e4.trans e5) a _ q1, (q2.trans e4).trans e5, p⟩)
/-- for x in t, a tuple -/
theorem q_forW {j : Nat} (h : EvW te σ H xs) (Pv : Nat → L2.St → Prop) (h0 : Pv 0 σ)
    (hs : ∀ k x σ2 H2 (N : L2.St → Hp → Prop), xs[k]? = some x → Ex H H2 → Pv k σ2 → (∀ σ3 H3, Ex H2 H3 → Pv (k + 1) σ3 → N σ3 H3) → tu { D with nx := N, ct := N, bk := tz D } (σ2.set j (some x)) H2)
    (hd : ∀ σ2 H2, Ex H H2 → Pv xs.length σ2 → tz D σ2 H2) : tSeq (tFor (iTup K te) (gName j) tu) tz D σ H :=
  h H (Ex.refl H) _ fun v H1 e1 hv => by
    obtain ⟨a, rfl, ha⟩ := hv
    exact ⟨a, rfl, ⟨xs, st_of ha⟩, for_tup (K := K) (xs := xs) (fun k σ2 H2 => H2 a = some (.tup xs) ∧ Ex H H2 ∧ Pv k σ2) ⟨ha, e1, h0⟩ (fun k σ2 H2 _ q => st_of q.1)
      (fun k x σ2 H2 hx q => hs k x σ2 H2 _ hx q.2.1 q.2.2 fun σ3 H3 e5 p => ⟨e5 a _ q.1, q.2.1.trans e5, p⟩) fun σ2 H2 q => hd σ2 H2 q.2.1 q.2.2⟩
/-- for i in range(n) -/
theorem q_forR {ta : TA} {j n : Nat} (h : EvA ta σ H [.int (n : Int)]) (hn : n ≤ 100000) (Pv : Nat → L2.St → Prop) (h0 : Pv 0 σ)
    (hs : ∀ k σ2 H2 (N : L2.St → Hp → Prop), k < n → Ex H H2 → Pv k σ2 → (∀ σ3 H3, Ex H2 H3 → Pv (k + 1) σ3 → N σ3 H3) → tu { D with nx := N, ct := N, bk := tz D } (σ2.set j (some (.int (k : Int)))) H2)
    (hd : ∀ σ2 H2, Ex H H2 → Pv n σ2 → tz D σ2 H2) : tSeq (tFor (iRng1 ta) (gName j) tu) tz D σ H :=
  q_forR1 (n := (n : Int)) h (by omega) (fun k σ2 H2 => Ex H H2 ∧ Pv k σ2) (fun H1 e1 => ⟨e1, h0⟩) (fun k σ2 H2 hk q => hs k σ2 H2 _ (by omega) q.1 q.2 fun σ3 H3 e5 p => ⟨q.1.trans e5, p⟩) fun σ2 H2 q => hd σ2 H2 q.1 (by rw [Int.toNat_natCast] at q; exact q.2)
theorem s_forR {ta : TA} {j n : Nat} (h : EvA ta σ H [.int (n : Int)]) (hn : n ≤ 100000) (Pv : Nat → L2.St → Prop) (h0 : Pv 0 σ)
    (hs : ∀ k σ2 H2 (N : L2.St → Hp → Prop), k < n → Ex H H2 → Pv k σ2 → (∀ σ3 H3, Ex H2 H3 → Pv (k + 1) σ3 → N σ3 H3) → tu { D with nx := N, ct := N, bk := D.nx } (σ2.set j (some (.int (k : Int)))) H2)
    (hd : ∀ σ2 H2, Ex H H2 → Pv n σ2 → D.nx σ2 H2) : tFor (iRng1 ta) (gName j) tu D σ H :=
  s_forR1 (n := (n : Int)) h (by omega) (fun k σ2 H2 => Ex H H2 ∧ Pv k σ2) (fun H1 e1 => ⟨e1, h0⟩) (fun k σ2 H2 hk q => hs k σ2 H2 _ (by omega) q.1 q.2 fun σ3 H3 e5 p => ⟨q.1.trans e5, p⟩) fun σ2 H2 q => hd σ2 H2 q.1 (by rw [Int.toNat_natCast] at q; exact q.2)
/-- an if that is not taken -/
theorem q_skip (h : EvT t σ H false) (k : ∀ H1, Ex H H1 → tz D σ H1) : tSeq (tIfS t tu tNext) tz D σ H := q_when h (fun z => nomatch z) fun _ => k
theorem s_skip (h : EvT t σ H false) (k : ∀ H1, Ex H H1 → D.nx σ H1) : tIfS t tu tNext D σ H := s_when h (fun z => nomatch z) fun _ => k
theorem num_big {i lo : Int} (h : lo ≤ i) (h2 : i ≤ 1000000) : isNum (.int i) lo (10 ^ 30) = true := by
  have h3 : (1000000 : Int) ≤ 10 ^ 30 := by decide
  show (decide (lo ≤ i) && decide (i ≤ 10 ^ 30)) = true
  rw [decide_eq_true h, decide_eq_true (Int.le_trans h2 h3)]
  rfl
/-! ### the law's own look at a price -/
def spKeeps : Sp := fun ws H Q _ => ∃ (p g s t : Addr) (vs gs : List Int) (a b u l : Int), ws = [.ref p, .ref g, .ref s, .ref t] ∧ Vo H p vs ∧ Gi H g gs vs.length ∧ Sl H s a b ∧ H t = some (.tup [.int u, .int l]) ∧ (0 ≤ u ∧ u ≤ 1000000) ∧ (1 ≤ l ∧ l ≤ 1000000) ∧ Bd.Keeps vs gs a b u l ∧ RetV (.bl true) H Q
theorem sv_keeps {H : Hp} {p g s t : Addr} {vs gs : List Int} {a b u l : Int} (h : Vo H p vs) (hg : Gi H g gs vs.length) (hs : Sl H s a b) (ht : H t = some (.tup [.int u, .int l])) (hu : 0 ≤ u ∧ u ≤ 1000000) (hl : 1 ≤ l ∧ l ≤ 1000000) (hk : Bd.Keeps vs gs a b u l) :
    SpV spKeeps [.ref p, .ref g, .ref s, .ref t] H (.bl true) := fun H1 e Q q E => ⟨p, g, s, t, vs, gs, a, b, u, l, rfl, h.mono e, hg.mono e, hs.mono e, e t _ ht, hu, hl, hk, q⟩
/-- the law's promise: True, whatever the script holds -/
def spLaw (K : PySem.W.Frag) : Sp := fun ws H Q _ => ∃ (l : Addr) (ns : List Int), ws = [.ref l] ∧ Scr K H l ns ∧ ∀ H', Q (.bl true) H'
end
end Bk

/-! Seats moved. -/
namespace Bd
def moveAt (gs : List Int) (i j : Nat) : List Int := if 0 < gs.getD i 0 ∧ gs.getD j 0 < 60 then (gs.set i (gs.getD i 0 - 1)).set j ((gs.set i (gs.getD i 0 - 1)).getD j 0 + 1) else gs
def movedTo (gs : List Int) (n : Int) : Nat → List Int
  | 0 => gs
  | k + 1 => moveAt (movedTo gs n k) (drawn n (2 * k) % (gs.length : Int)).toNat (drawn n (2 * k + 1) % (gs.length : Int)).toNat
def moved (gs : List Int) (n : Int) : List Int := movedTo gs n (n % 3).toNat
theorem moveAt_len (gs : List Int) (i j : Nat) : (moveAt gs i j).length = gs.length := by
  unfold moveAt
  split
  · rw [List.length_set, List.length_set]
  · rfl
theorem movedTo_len (gs : List Int) (n : Int) : ∀ k, (movedTo gs n k).length = gs.length
  | 0 => rfl
  | k + 1 => by unfold movedTo; rw [moveAt_len, movedTo_len gs n k]
theorem sum_set : ∀ {gs : List Int} {i : Nat} {z : Int}, i < gs.length → (gs.set i z).sum = gs.sum - gs.getD i 0 + z
  | [], i, z, h => absurd h (Nat.not_lt_zero _)
  | g :: r, 0, z, _ => by
    show z + r.sum = (g + r.sum) - g + z
    omega
  | g :: r, i + 1, z, h => by
    have ih := sum_set (gs := r) (i := i) (z := z) (Nat.lt_of_succ_lt_succ h)
    show g + (r.set i z).sum = (g + r.sum) - r.getD i 0 + z
    rw [ih]
    omega
theorem moveAt_sum {gs : List Int} {i j : Nat} (hi : i < gs.length) (hj : j < gs.length) : (moveAt gs i j).sum = gs.sum := by
  unfold moveAt
  split
  · rw [sum_set (by rw [List.length_set]; exact hj), sum_set hi]
    omega
  · rfl
theorem moveAt_bd {gs : List Int} {i j : Nat} (hi : i < gs.length) (hj : j < gs.length) (h : ∀ x ∈ gs, 0 ≤ x ∧ x ≤ 60) : ∀ x ∈ moveAt gs i j, 0 ≤ x ∧ x ≤ 60 := by
  intro x hx
  obtain ⟨k, hk, rfl⟩ := mem_getD hx
  rw [moveAt_len] at hk
  have hb := fun m (hm : m < gs.length) => h _ (getD_mem hm)
  have h1 := hb i hi
  have h2 := hb j hj
  have h3 := hb k hk
  unfold moveAt
  split
  · rename_i hc
    rw [getD_set (by rw [List.length_set]; exact hj), getD_set hi, getD_set hi]
    split <;> split <;> omega
  · exact h3
theorem movedTo_sum {gs : List Int} {n : Int} (h0 : 0 < gs.length) : ∀ k, (movedTo gs n k).sum = gs.sum
  | 0 => rfl
  | k + 1 => by
    have ih := movedTo_sum (n := n) h0 k
    unfold movedTo
    rw [moveAt_sum, ih]
    all_goals
      rw [movedTo_len]
      have h1 := Int.emod_nonneg (drawn n (2 * k)) (show (gs.length : Int) ≠ 0 by omega)
      have h2 := Int.emod_lt_of_pos (drawn n (2 * k)) (show (0 : Int) < (gs.length : Int) by omega)
      have h3 := Int.emod_nonneg (drawn n (2 * k + 1)) (show (gs.length : Int) ≠ 0 by omega)
      have h4 := Int.emod_lt_of_pos (drawn n (2 * k + 1)) (show (0 : Int) < (gs.length : Int) by omega)
      omega
theorem movedTo_bd {gs : List Int} {n : Int} (h0 : 0 < gs.length) (h : ∀ x ∈ gs, 0 ≤ x ∧ x ≤ 60) : ∀ k, ∀ x ∈ movedTo gs n k, 0 ≤ x ∧ x ≤ 60
  | 0 => h
  | k + 1 => by
    have ih := movedTo_bd (n := n) h0 h k
    unfold movedTo
    refine moveAt_bd ?_ ?_ ih
    all_goals
      rw [movedTo_len]
      have h1 := Int.emod_nonneg (drawn n (2 * k)) (show (gs.length : Int) ≠ 0 by omega)
      have h2 := Int.emod_lt_of_pos (drawn n (2 * k)) (show (0 : Int) < (gs.length : Int) by omega)
      have h3 := Int.emod_nonneg (drawn n (2 * k + 1)) (show (gs.length : Int) ≠ 0 by omega)
      have h4 := Int.emod_lt_of_pos (drawn n (2 * k + 1)) (show (0 : Int) < (gs.length : Int) by omega)
      omega
theorem moved_len (gs : List Int) (n : Int) : (moved gs n).length = gs.length := movedTo_len gs n _
theorem moved_sum {gs : List Int} {n : Int} (h0 : 0 < gs.length) : (moved gs n).sum = gs.sum := movedTo_sum h0 _
theorem moved_bd {gs : List Int} {n : Int} (h0 : 0 < gs.length) (h : ∀ x ∈ gs, 0 ≤ x ∧ x ≤ 60) : ∀ x ∈ moved gs n, 0 ≤ x ∧ x ≤ 60 := movedTo_bd h0 h _
/-- of votes that are all 0 the first list is next -/
theorem nextTo_zero {vs gs : List Int} {a b : Int} (h : ∀ i, vs.getD i 0 = 0) : ∀ n, nextTo vs gs a b n = 0
  | 0 => rfl
  | n + 1 => by
    have ih := nextTo_zero (gs := gs) (a := a) (b := b) h n
    unfold nextTo
    rw [ih, if_neg]
    unfold isGr
    rw [h, h, Int.zero_mul, Int.zero_mul]
    decide
theorem nextL_zero {gs : List Int} {a b : Int} (n : Nat) : nextL (List.replicate n 0) gs a b = 0 := nextTo_zero (getD_rep n) _
end Bd
namespace Bd
/-- where what is dealt is strict, of other givings of as many seats one should go over -/
theorem strict_over {vs gs hs : List Int} {a b : Int} (s : Sc a b) (hv : ∀ v ∈ vs, 0 ≤ v) (h1 : strictL vs gs a b = true) (lg : gs.length = vs.length) (lh : hs.length = vs.length) (ng : ∀ i, 0 ≤ gs.getD i 0) (nh : ∀ i, 0 ≤ hs.getD i 0) (he : gs.sum = hs.sum) (hn : hs ≠ gs) :
    overL vs hs a b ≠ none := fun ho => by
  obtain ⟨i, hi, li⟩ := more_of_ne (lh.trans lg.symm) he.symm hn
  obtain ⟨j, hj, lj⟩ := more_of_ne (lg.trans lh.symm) he fun q => hn q.symm
  rw [lh] at hi
  rw [lg] at hj
  have n1 := ng i
  have n2 := nh j
  have hij : i ≠ j := fun e => by rw [e] at li; omega
  have q1 := over_none ho hi hj hij (by omega)
  have q2 := strict_at h1 hj hi (Ne.symm hij) (by omega)
  have m1 : vs.getD i 0 * mk a b (hs.getD j 0) ≤ vs.getD i 0 * mk a b (gs.getD j 0 - 1) := Int.mul_le_mul_of_nonneg_left (mk_mono s.b1 (by omega)) (nn_getD hv i)
  have m2 : vs.getD j 0 * mk a b (gs.getD i 0) ≤ vs.getD j 0 * mk a b (hs.getD i 0 - 1) := Int.mul_le_mul_of_nonneg_left (mk_mono s.b1 (by omega)) (nn_getD hv j)
  omega
theorem strict_false {vs gs : List Int} {a b : Int} {i j : Nat} (hi : i < vs.length) (hj : j < vs.length) (hn : i ≠ j) (hg : 0 < gs.getD i 0) (h : vs.getD i 0 * mk a b (gs.getD j 0) ≤ vs.getD j 0 * mk a b (gs.getD i 0 - 1)) : strictL vs gs a b = false := by
  cases e : strictL vs gs a b with
  | false => rfl
  | true =>
    have q := strict_at e hi hj hn hg
    omega
end Bd

namespace Bk
open PySem PySem.Spec PyProof.Rows L2 Evl
/-! ### == of tuples and of lists of ints -/
def dv (ns : List Int) : List PyData := ns.map PyData.int
theorem dv_all {K : PySem.W.Frag} {H : Hp} : ∀ ns : List Int, DpAll K H (iv ns) (dv ns)
  | [] => .nil
  | n :: r => .cons (.int n) (dv_all r)
theorem dv_eqv : ∀ as bs : List Int, PyData.eqvAll (dv as) (dv bs) = decide (as = bs)
  | [], [] => by rw [decide_eq_true rfl]; rfl
  | [], b :: s => by rw [decide_eq_false (fun e => nomatch e)]; rfl
  | a :: r, [] => by rw [decide_eq_false (fun e => nomatch e)]; rfl
  | a :: r, b :: s => by
    have ih := dv_eqv r s
    show ((a == b) && PyData.eqvAll (dv r) (dv s)) = _
    rw [ih, Bool.beq_eq_decide_eq]
    by_cases h : a = b
    · by_cases h2 : r = s
      · rw [decide_eq_true h, decide_eq_true h2, decide_eq_true (by rw [h, h2])]
        rfl
      · rw [decide_eq_true h, decide_eq_false h2, decide_eq_false (fun e => h2 (List.cons.inj e).2)]
        rfl
    · rw [decide_eq_false h, decide_eq_false (fun e => h (List.cons.inj e).1)]
      rfl
theorem dv_lay : ∀ ns : List Int, PyData.canLayAll0 (dv ns) = true
  | [] => by unfold dv; simp [PyData.canLayAll0]
  | n :: r => by
    have ih := dv_lay r
    unfold dv at ih ⊢
    simp [PyData.canLayAll0, PyData.canLay0, ih]
theorem dv_depth : ∀ ns : List Int, PyData.depthAll (dv ns) ≤ 1
  | [] => by unfold dv; simp [PyData.depthAll]
  | n :: r => by
    have ih := dv_depth r
    unfold dv at ih ⊢
    simp [PyData.depthAll, PyData.depth]
    omega
theorem dv_tup (ns : List Int) : SeqAt.shaped (.tuple (dv ns)) = true := by
  have h := dv_depth ns
  unfold SeqAt.shaped
  rw [Bool.and_eq_true]
  refine ⟨?_, decide_eq_true ?_⟩
  · simp [PyData.canLay0, dv_lay]
  · simp [PyData.depth]
    omega
theorem dv_lst (ns : List Int) : SeqAt.shaped (.list (dv ns)) = true := by
  have h := dv_depth ns
  unfold SeqAt.shaped
  rw [Bool.and_eq_true]
  refine ⟨?_, decide_eq_true ?_⟩
  · simp [PyData.canLay0, dv_lay]
  · simp [PyData.depth]
    omega
theorem nv_iv (os : List Nat) : nv os = iv (os.map fun o : Nat => (o : Int)) := by
  unfold nv iv
  rw [List.map_map]
  rfl
theorem nv_inj {os ps : List Nat} (h : os.map (fun o : Nat => (o : Int)) = ps.map fun o : Nat => (o : Int)) : os = ps := by
  induction os generalizing ps with
  | nil =>
    cases ps with
    | nil => rfl
    | cons p s => cases h
  | cons o r ih =>
    cases ps with
    | nil => cases h
    | cons p s =>
      rw [List.map_cons, List.map_cons] at h
      injection h with h1 h2
      rw [ih h2, Int.ofNat.inj h1]
section
variable {K : PySem.W.Frag} {σ : L2.St} {H H' : Hp} {ta tb te : TE} {as bs : List Int}
theorem ev_eqW (ha : EvW ta σ H (iv as)) (hb : EvW tb σ H (iv bs)) : Ev (tOp (rEqD K) ta tb) σ H (.bl (decide (as = bs))) := fun H1 e Q q =>
  ha H1 e _ fun v H2 e2 hv => hb H2 (e.trans e2) _ fun w H3 e3 hw => by
    obtain ⟨p, rfl, hp⟩ := hv
    obtain ⟨p2, rfl, hp2⟩ := hw
    refine ⟨.tuple (dv as), .tuple (dv bs), .tup (st_of (e3 p _ hp)) (dv_all as), .tup (st_of hp2) (dv_all bs), dv_tup as, dv_tup bs, ?_⟩
    have h : PyData.eqv (.tuple (dv as)) (.tuple (dv bs)) = decide (as = bs) := dv_eqv as bs
    rw [h]
    exact q H3 (e2.trans e3)
theorem ev_neW (ha : EvW ta σ H (iv as)) (hb : EvW tb σ H (iv bs)) : Ev (tOp (rNeD K) ta tb) σ H (.bl (!decide (as = bs))) := fun H1 e Q q =>
  ha H1 e _ fun v H2 e2 hv => hb H2 (e.trans e2) _ fun w H3 e3 hw => by
    obtain ⟨p, rfl, hp⟩ := hv
    obtain ⟨p2, rfl, hp2⟩ := hw
    refine ⟨.tuple (dv as), .tuple (dv bs), .tup (st_of (e3 p _ hp)) (dv_all as), .tup (st_of hp2) (dv_all bs), dv_tup as, dv_tup bs, ?_⟩
    have h : PyData.eqv (.tuple (dv as)) (.tuple (dv bs)) = decide (as = bs) := dv_eqv as bs
    rw [h]
    exact q H3 (e2.trans e3)
theorem ev_eqL (ha : EvL ta σ H (iv as)) (hb : EvL tb σ H (iv bs)) : Ev (tOp (rEqD K) ta tb) σ H (.bl (decide (as = bs))) := fun H1 e Q q =>
  ha H1 e _ fun p H2 _ e2 hp => hb H2 (e.trans e2) _ fun p2 H3 _ e3 hp2 => by
    refine ⟨.list (dv as), .list (dv bs), .lst (sq_of (e3 p _ hp)) (dv_all as), .lst (sq_of hp2) (dv_all bs), dv_lst as, dv_lst bs, ?_⟩
    have h : PyData.eqv (.list (dv as)) (.list (dv bs)) = decide (as = bs) := dv_eqv as bs
    rw [h]
    exact q H3 (e2.trans e3)
theorem ev_neL (ha : EvL ta σ H (iv as)) (hb : EvL tb σ H (iv bs)) : Ev (tOp (rNeD K) ta tb) σ H (.bl (!decide (as = bs))) := fun H1 e Q q =>
  ha H1 e _ fun p H2 _ e2 hp => hb H2 (e.trans e2) _ fun p2 H3 _ e3 hp2 => by
    refine ⟨.list (dv as), .list (dv bs), .lst (sq_of (e3 p _ hp)) (dv_all as), .lst (sq_of hp2) (dv_all bs), dv_lst as, dv_lst bs, ?_⟩
    have h : PyData.eqv (.list (dv as)) (.list (dv bs)) = decide (as = bs) := dv_eqv as bs
    rw [h]
    exact q H3 (e2.trans e3)
/-- a new list that has no items -/
theorem el_none {ta : TA} (h : EvA ta σ H []) : EvL (tLst ta) σ H (iv []) := el_lst h (Nat.zero_le _)
end
/-! ### list or tuple, read by its place -/
def SqAny (H : Hp) (a : Addr) (xs : List V) : Prop := H a = some (.lst xs) ∨ H a = some (.tup xs)
theorem SqAny.mono {H H' : Hp} {a : Addr} {xs : List V} (e : Ex H H') (h : SqAny H a xs) : SqAny H' a xs := h.imp (e a _) (e a _)
theorem ev_ixS {K : PySem.W.Frag} {σ : L2.St} {H : Hp} {ta tb : TE} {a : Addr} {xs : List V} {i : Int} {v : V} (ha : Ev ta σ H (.ref a)) (hx : SqAny H a xs) (hb : Ev tb σ H (.int i)) (hi : atI xs i = some v) : Ev (tOp (rIx K) ta tb) σ H v := fun H1 e Q q =>
  ha H1 e _ fun H2 e2 => hb H2 (e.trans e2) _ fun H3 e3 => by
    rcases hx.mono ((e.trans e2).trans e3) with h | h
    · exact .inl ⟨a, xs, i, v, rfl, rfl, sq_of h, hi, q H3 (e2.trans e3)⟩
    · exact .inr (.inl ⟨a, xs, i, v, rfl, rfl, st_of h, hi, q H3 (e2.trans e3)⟩)
/-- the law's own next_list -/
def spNextA : Sp := fun ws H Q _ => ∃ (p g s : Addr) (vs gs : List Int) (a b : Int), ws = [.ref p, .ref g, .ref s] ∧ Vo H p vs ∧ SqAny H g (iv gs) ∧ ((∀ x ∈ gs, 0 ≤ x ∧ x ≤ 60) ∧ gs.length = vs.length) ∧ Sl H s a b ∧ RetV (.int (Bd.nextL vs gs a b : Nat)) H Q
theorem sv_nextA {H : Hp} {p g s : Addr} {vs gs : List Int} {a b : Int} (h : Vo H p vs) (hg : SqAny H g (iv gs)) (hb : (∀ x ∈ gs, 0 ≤ x ∧ x ≤ 60) ∧ gs.length = vs.length) (hs : Sl H s a b) : SpV spNextA [.ref p, .ref g, .ref s] H (.int (Bd.nextL vs gs a b : Nat)) :=
  fun H1 e Q q E => ⟨p, g, s, vs, gs, a, b, rfl, h.mono e, hg.mono e, hb, hs.mono e, q⟩
theorem bd_at {gs : List Int} (h : ∀ x ∈ gs, 0 ≤ x ∧ x ≤ 60) (i : Nat) : 0 ≤ gs.getD i 0 ∧ gs.getD i 0 ≤ 60 := by
  by_cases hi : i < gs.length
  · exact h _ (Bd.getD_mem hi)
  · rw [Bd.getD_out (by omega)]
    omega
end Bk
namespace Bk
open PySem PySem.Spec PyProof.Rows L2 Evl
structure Gm (H : Hp) (g : Addr) (gs : List Int) : Prop where
  here : H g = some (.tup (iv gs))
  ok : ∀ x ∈ gs, 0 ≤ x ∧ x ≤ 60
  pos : 0 < gs.length
  len : gs.length ≤ 8
theorem Gm.mono {H H' : Hp} {g : Addr} {gs : List Int} (h : Gm H g gs) (e : Ex H H') : Gm H' g gs := ⟨e g _ h.here, h.ok, h.pos, h.len⟩
theorem Gi.gm {H : Hp} {g : Addr} {gs : List Int} {n : Nat} (h : Gi H g gs n) (h0 : 0 < n) (h8 : n ≤ 8) : Gm H g gs := ⟨h.here, h.ok, by rw [h.len]; exact h0, by rw [h.len]; exact h8⟩
def spMoved : Sp := fun ws H Q _ => ∃ (g : Addr) (gs : List Int) (n : Int), ws = [.ref g, .int n] ∧ Gm H g gs ∧ RetP (IsT (iv (Bd.moved gs n))) H Q
theorem sv_moved {H : Hp} {g : Addr} {gs : List Int} (n : Int) (h : Gm H g gs) : SpP spMoved [.ref g, .int n] H (IsT (iv (Bd.moved gs n))) := fun H1 e Q q E => ⟨g, gs, n, rfl, h.mono e, q⟩
theorem iv_put {gs : List Int} {i : Nat} {z : Int} : (iv gs).set i (.int z) = iv (gs.set i z) := by
  unfold iv
  rw [List.map_set]
end Bk
namespace Bk
open PySem PySem.Spec PyProof.Rows L2 Evl
theorem iv_kd {H : Hp} {gs : List Int} {x : V} (h : x ∈ iv gs) : Kd H x := by
  obtain ⟨i, _, rfl⟩ := List.mem_map.mp h
  exact .int i
end Bk

namespace Bk
open PySem PySem.Spec PyProof.Rows L2 Evl
section
variable {K : PySem.W.Frag} {σ : L2.St} {H H' : Hp} {ta tb te tx tl : TE} {t u : TT} {x y z v : V} {r : R2} {P R : V → Hp → Prop} {xs ys : List V} {D : Ends} {tu tw tz : TS} {g : TG}
/-- an if without else, both ways joined by the word M -/
theorem q_whenJ {b : Bool} (M : L2.St → Hp → Prop) (hk : ∀ σ2 H2, M σ2 H2 → tz D σ2 H2) (h : EvT t σ H b) (h1 : (∀ σ2 H2, M σ2 H2 → tz D σ2 H2) → b = true → ∀ H1, Ex H H1 → tu { D with nx := tz D } σ H1) (h2 : b = false → ∀ H1, Ex H H1 → M σ H1) :
    tSeq (tIfS t tu tNext) tz D σ H := q_when h (h1 hk) fun hb H1 e1 => hk σ H1 (h2 hb H1 e1)
theorem ev_isN {b : Bool} (h : EvP ta σ H P) (hd : ∀ v H1, P v H1 → decide (v = .non) = b) : Ev (tIsN ta) σ H (.bl b) := fun H1 e Q q => h H1 e _ fun v H2 e2 p => by
  rw [hd v H2 p]
  exact q H2 e2
theorem ev_notN {b : Bool} (h : EvP ta σ H P) (hd : ∀ v H1, P v H1 → decide (v = .non) = b) : Ev (tNotN ta) σ H (.bl (!b)) := fun H1 e Q q => h H1 e _ fun v H2 e2 p => by
  rw [hd v H2 p]
  exact q H2 e2
theorem ep_v (h : Ev ta σ H v) : EvP ta σ H fun x _ => x = v := ep_ev h fun _ _ => rfl
def spGoes : Sp := fun ws H Q _ => ∃ (p g s t : Addr) (vs gs : List Int) (a b : Int) (k : Nat × Nat), ws = [.ref p, .ref g, .ref s, .ref t] ∧ Vo H p vs ∧ Gi H g gs vs.length ∧ Sl H s a b ∧ H t = some (.tup (pairV k)) ∧ k.1 < vs.length ∧ k.2 < vs.length ∧ 0 < gs.getD k.1 0 ∧ RetV (.bl (Bd.goesOver vs gs a b k)) H Q
theorem sv_goes {p g s t : Addr} {vs gs : List Int} {a b : Int} {k : Nat × Nat} (h : Vo H p vs) (hg : Gi H g gs vs.length) (hs : Sl H s a b) (ht : H t = some (.tup (pairV k))) (h1 : k.1 < vs.length) (h2 : k.2 < vs.length) (h3 : 0 < gs.getD k.1 0) :
    SpV spGoes [.ref p, .ref g, .ref s, .ref t] H (.bl (Bd.goesOver vs gs a b k)) := fun H1 e Q q E => ⟨p, g, s, t, vs, gs, a, b, k, rfl, h.mono e, hg.mono e, hs.mono e, e t _ ht, h1, h2, h3, q⟩
end
end Bk
namespace Bk
open PySem PySem.Spec PyProof.Rows L2 Evl
theorem pair_or {k : Nat × Nat} {x : V} (h : x ∈ pairV k) : x = .int (k.1 : Int) ∨ x = .int (k.2 : Int) := by
  unfold pairV at h
  simpa using h
theorem pair_kd {H : Hp} {k : Nat × Nat} {x : V} (h : x ∈ pairV k) : Kd H x := by
  rcases pair_or h with e | e <;> subst e <;> exact .int _
end Bk
namespace Bk
open PySem PySem.Spec PyProof.Rows L2 Evl
def rMin2 : List V → Hp → VK → Prop := fun xs H Q => ∃ i j, xs = [.int i, .int j] ∧ Q (.int (if j < i then j else i)) H
theorem ev_min2 {σ : L2.St} {H : Hp} {ta tb : TE} {i j : Int} (ha : Ev ta σ H (.int i)) (hb : Ev tb σ H (.int j)) : Ev (tCB rMin2 (tCons ta (tCons tb tNil))) σ H (.int (if j < i then j else i)) := fun H1 e Q q =>
  ha H1 e _ fun H2 e2 => hb H2 (e.trans e2) _ fun H3 e3 => ⟨i, j, rfl, q H3 (e2.trans e3)⟩
theorem iv_take (gs : List Int) (n : Nat) : (iv gs).take n = iv (gs.take n) := by
  unfold iv
  rw [List.map_take]
theorem iv_drop (gs : List Int) (n : Nat) : (iv gs).drop n = iv (gs.drop n) := by
  unfold iv
  rw [List.map_drop]
theorem iv_app (as bs : List Int) : iv as ++ iv bs = iv (as ++ bs) := by
  unfold iv
  rw [List.map_append]
theorem nv_take (os : List Nat) (n : Nat) : (nv os).take n = nv (os.take n) := by
  unfold nv
  rw [List.map_take]
/-- t == u of tuples of small numbers -/
theorem ev_neN {K : PySem.W.Frag} {σ : L2.St} {H : Hp} {ta tb : TE} {os ps : List Nat} (ha : EvW ta σ H (nv os)) (hb : EvW tb σ H (nv ps)) (h : os = ps) : Ev (tOp (rNeD K) ta tb) σ H (.bl false) := by
  rw [nv_iv] at ha hb
  refine ev_is (ev_neW ha hb) ?_
  rw [h, decide_eq_true rfl]
  rfl
theorem addAt_parts {gs : List Int} {i : Nat} (h : i < gs.length) : Bd.addAt gs i = (gs.take i ++ [gs.getD i 0 + 1]) ++ gs.drop (i + 1) := by
  unfold Bd.addAt
  rw [List.set_eq_take_append_cons_drop, if_pos h, List.append_assoc]
  rfl
end Bk

/-! Votes changed: more votes, some lists by themselves, lists joined, shares, other numbers. -/
namespace Bd
/-- more seats at k and fewer at j can't be where j has no fewer votes than ahead and k the same -/
theorem knot2 {vs ws : List Int} {a b : Int} (s : Sc a b) {j k : Nat} {x x' y y' : Int} (hj : 0 ≤ vs.getD j 0) (hk : 0 ≤ vs.getD k 0) (ek : ws.getD k 0 = vs.getD k 0) (ej : vs.getD j 0 ≤ ws.getD j 0) (h1 : Bt vs a b j x k y) (h2 : Bt ws a b k y' j x') (hx : x' ≤ x) (hy : y ≤ y') (p1 : 0 ≤ y') : False := by
  have m1 : vs.getD j 0 * mk a b y ≤ vs.getD j 0 * mk a b y' := Int.mul_le_mul_of_nonneg_left (mk_mono s.b1 hy) hj
  have m2 : vs.getD j 0 * mk a b y' ≤ ws.getD j 0 * mk a b y' := Int.mul_le_mul_of_nonneg_right ej (Int.le_of_lt (mk_pos s.a1 s.b1 p1))
  have m3 : vs.getD k 0 * mk a b x' ≤ vs.getD k 0 * mk a b x := Int.mul_le_mul_of_nonneg_left (mk_mono s.b1 hx) hk
  unfold Bt at h2
  rw [ek] at h2
  rcases h1 with q1 | q1 <;> rcases h2 with q2 | q2 <;> omega
/-- more votes: the list has no fewer seats, and no other one more -/
theorem more_law {vs gs hs : List Int} {a b : Int} {i : Nat} {by' : Int} (s : Sc a b) (hv : ∀ v ∈ vs, 0 ≤ v) (h0 : 0 ≤ by') (hi : i < vs.length) (h1 : Stable vs a b gs) (h2 : Stable (vs.set i (vs.getD i 0 + by')) a b hs) (he : gs.sum = hs.sum) :
    gs.getD i 0 ≤ hs.getD i 0 ∧ ∀ k, k < vs.length → k ≠ i → hs.getD k 0 ≤ gs.getD k 0 := by
  have lw : (vs.set i (vs.getD i 0 + by')).length = vs.length := List.length_set
  have l1 := h1.len
  have l2 : hs.length = vs.length := h2.len.trans lw
  have wv : ∀ m, (vs.set i (vs.getD i 0 + by')).getD m 0 = if m = i then vs.getD i 0 + by' else vs.getD m 0 := fun m => getD_set hi
  have no : ∀ j k, j < vs.length → k < vs.length → k ≠ i → hs.getD j 0 < gs.getD j 0 → gs.getD k 0 < hs.getD k 0 → False := fun j k hj hk ni lj lk => by
    have hjk : j ≠ k := fun e => by rw [e] at lj; omega
    have n1 := h2.nn j
    have n2 := h1.nn k
    refine knot2 s (nn_getD hv j) (nn_getD hv k) (ws := vs.set i (vs.getD i 0 + by')) ?_ ?_ (h1.best j k hj hk hjk (by omega)) (h2.best k j (by rw [lw]; exact hk) (by rw [lw]; exact hj) (Ne.symm hjk) (by omega)) (by omega) (by omega) (by omega)
    · rw [wv, if_neg ni]
    · rw [wv]
      split
      · rename_i e
        rw [e]
        omega
      · exact Int.le_refl _
  have h3 : ∀ k, k < vs.length → k ≠ i → hs.getD k 0 ≤ gs.getD k 0 := fun k hk ni => by
    refine Int.not_lt.mp fun lk => ?_
    obtain ⟨j, hj, lj⟩ := more_of_ne (l1.trans l2.symm) he fun e => by rw [e] at lk; omega
    exact no j k (by omega) hk ni lj lk
  refine ⟨Int.not_lt.mp fun lj => ?_, h3⟩
  obtain ⟨k, hk, lk⟩ := more_of_ne (l2.trans l1.symm) he.symm fun e => by rw [e] at lj; omega
  have ni : k ≠ i := fun e => by rw [e] at lk; omega
  have := h3 k (by omega) ni
  omega
end Bd

namespace Bk
open PySem PySem.Spec PyProof.Rows L2 Evl
section
variable {K : PySem.W.Frag} {σ : L2.St} {H H' : Hp} {ta tb te tx tl : TE} {t u : TT} {x y z v : V} {xs ys : List V} {D : Ends} {tu tw tz : TS} {g : TG}
/-- [.. for i, x in enumerate(t)], without a test -/
theorem el_lcE {i j : Nat} {vs : List Nat} (v : Nat → V) (h : EvW te σ H xs) (hz : xs.length ≤ 40000) (hw : ∀ x y, wipe (((wipe σ vs).set i (some x)).set j (some y)) vs = wipe σ vs)
    (he : ∀ (k : Nat) (x : V) H1, Ex H H1 → xs[k]? = some x → Ev tx (((wipe σ vs).set i (some (.int (k : Int)))).set j (some x)) H1 (v k)) :
    EvL (tLc (iEnumT K (tCons te tNil)) (gTup K 2 (gCons (gName i) (gCons (gName j) gNil))) tYes tx vs) σ H ((List.range xs.length).map v) := fun H0 e Q q => h H0 e _ fun w H1 e1 hv => by
  obtain ⟨a, rfl, ha⟩ := hv
  refine ⟨a, xs, rfl, st_of ha, fun Dl hD => ?_⟩
  refine lc_it (walk_enumT (K := K) (xs := xs)) (Cw H1 (fun _ => true) v Dl) ⟨hD, Ex.new hD, upd_same⟩ (fun k H2 _ c => st_of (c.2.1 a _ ha)) (fun k x H2 H3 hk c yp => ?_) fun H2 c => q Dl H2 (fresh_back e1 c.1) (e1.trans c.2.1) (by rw [← given_map]; exact c.2.2)
  obtain ⟨T, x1, x2, rfl, nT, rfl, f1, f2⟩ := yp
  cases f1
  obtain ⟨c1, c2, c3⟩ := c
  have e4 := Ex.new (o := .tup [.int (k : Nat), x2]) nT
  refine g_pair ⟨T, rfl, upd_same⟩ ⟨hw _ _, ?_⟩
  exact cw_turn (te := tx) (t := tYes) ⟨c1, c2.trans e4, e4 Dl _ c3⟩ (by omega) et_yes fun _ => he k x2 H1 (e.trans e1) f2
def rInt1 : List V → Hp → VK → Prop := fun xs H Q => (∃ i, xs = [.int i] ∧ Q (.int i) H) ∨ ∃ k, xs = [.bl k] ∧ Q (.int (if k then 1 else 0)) H
theorem ev_intB {b : Bool} (h : Ev te σ H (.bl b)) : Ev (tCB rInt1 (tCons te tNil)) σ H (.int (if b then 1 else 0)) := fun H1 e Q q => h H1 e _ fun H2 e2 => .inr ⟨b, rfl, q H2 e2⟩
/-- more_votes -/
def spMore : Sp := fun ws H Q _ => ∃ (p : Addr) (vs : List Int) (i : Nat) (c : Int), ws = [.ref p, .int (i : Int), .int c] ∧ Vo H p vs ∧ i < vs.length ∧ RetP (IsT (iv (vs.set i (vs.getD i 0 + c)))) H Q
theorem sv_more {p : Addr} {vs : List Int} {i : Nat} {c : Int} (h : Vo H p vs) (hi : i < vs.length) : SpP spMore [.ref p, .int (i : Int), .int c] H (IsT (iv (vs.set i (vs.getD i 0 + c)))) := fun H1 e Q q E => ⟨p, vs, i, c, rfl, h.mono e, hi, q⟩
theorem set_parts {gs : List Int} {i : Nat} {z : Int} (h : i < gs.length) : gs.set i z = (gs.take i ++ [z]) ++ gs.drop (i + 1) := by
  rw [List.set_eq_take_append_cons_drop, if_pos h, List.append_assoc]
  rfl
/-- a rest by a length is a place -/
theorem place_of {m : Int} {n : Nat} (h : 0 < n) : ∃ k : Nat, k < n ∧ m % (n : Int) = (k : Int) := by
  have h1 := Int.emod_nonneg m (show (n : Int) ≠ 0 by omega)
  have h2 := Int.emod_lt_of_pos m (show (0 : Int) < (n : Int) by omega)
  exact ⟨(m % (n : Int)).toNat, by omega, by omega⟩
theorem suc_v (k : Nat) : V.int ((k : Int) + 1) = .int ((k + 1 : Nat) : Int) := by rw [Int.natCast_add]; rfl
/-- (c0, c1, c2, c3)[m % 4] of four numbers -/
theorem four_at (c0 c1 c2 c3 m : Int) : ∃ c, (c = c0 ∨ c = c1 ∨ c = c2 ∨ c = c3) ∧ atI [V.int c0, .int c1, .int c2, .int c3] (m % 4) = some (.int c) := by
  have h1 : 0 ≤ m % 4 := Int.emod_nonneg _ (by decide)
  have h2 : m % 4 < 4 := Int.emod_lt_of_pos _ (by decide)
  rcases (show m % 4 = 0 ∨ m % 4 = 1 ∨ m % 4 = 2 ∨ m % 4 = 3 by omega) with e | e | e | e <;> rw [e]
  · exact ⟨c0, .inl rfl, rfl⟩
  · exact ⟨c1, .inr (.inl rfl), rfl⟩
  · exact ⟨c2, .inr (.inr (.inl rfl)), rfl⟩
  · exact ⟨c3, .inr (.inr (.inr rfl)), rfl⟩
end
end Bk

/-! Lists joined. -/
namespace Bd
def joinL (vs : List Int) (i j : Nat) : List Int := (vs.set i (vs.getD i 0 + vs.getD j 0)).eraseIdx j
/-- the number that the list k had ahead -/
def oldIx (j k : Nat) : Nat := if k < j then k else k + 1
theorem getD_erase (xs : List Int) (j k : Nat) : (xs.eraseIdx j).getD k 0 = xs.getD (oldIx j k) 0 := by
  unfold oldIx
  rw [List.getD_eq_getElem?_getD, List.getElem?_eraseIdx, List.getD_eq_getElem?_getD]
  split <;> rfl
theorem sum_erase : ∀ {xs : List Int} {j : Nat}, j < xs.length → (xs.eraseIdx j).sum = xs.sum - xs.getD j 0
  | [], j, h => absurd h (Nat.not_lt_zero _)
  | x :: r, 0, _ => by
    show r.sum = (x + r.sum) - x
    omega
  | x :: r, j + 1, h => by
    have ih := sum_erase (xs := r) (j := j) (Nat.lt_of_succ_lt_succ h)
    show x + (r.eraseIdx j).sum = (x + r.sum) - r.getD j 0
    rw [ih]
    omega
theorem joinL_len {vs : List Int} {i j : Nat} (hj : j < vs.length) : (joinL vs i j).length = vs.length - 1 := by
  unfold joinL
  rw [List.length_eraseIdx, List.length_set, if_pos hj]
theorem joinL_at {vs : List Int} {i j : Nat} (hij : i < j) (hi : i < vs.length) (k : Nat) : (joinL vs i j).getD k 0 = if k = i then vs.getD i 0 + vs.getD j 0 else vs.getD (oldIx j k) 0 := by
  unfold joinL
  rw [getD_erase, getD_set hi]
  unfold oldIx
  by_cases e : k = i
  · rw [if_pos e, if_pos (by split <;> omega)]
  · rw [if_neg e, if_neg (by split <;> omega)]
theorem joinL_sum {vs : List Int} {i j : Nat} (hij : i < j) (hj : j < vs.length) : (joinL vs i j).sum = vs.sum := by
  have hi : i < vs.length := by omega
  unfold joinL
  rw [sum_erase (by rw [List.length_set]; exact hj), getD_set hi, if_neg (by omega), sum_set hi]
  omega
/-- the list that both make has no fewer seats than both had, and no other one more -/
theorem join_law {vs gs hs : List Int} {a b : Int} {i j : Nat} (s : Sc a b) (hab : b ≤ a) (hv : ∀ v ∈ vs, 0 ≤ v) (hij : i < j) (hj : j < vs.length) (h1 : Stable vs a b gs) (h2 : Stable (joinL vs i j) a b hs) (he : gs.sum = hs.sum) :
    gs.getD i 0 + gs.getD j 0 ≤ hs.getD i 0 ∧ ∀ k, k < vs.length - 1 → k ≠ i → hs.getD k 0 ≤ gs.getD (oldIx j k) 0 := by
  have hi : i < vs.length := by omega
  have lw := joinL_len (i := i) hj
  have l1 := h1.len
  have l2 : hs.length = vs.length - 1 := h2.len.trans lw
  have lR : (joinL gs i j).length = vs.length - 1 := (joinL_len (by omega)).trans (by rw [l1])
  have eR : (joinL gs i j).sum = hs.sum := (joinL_sum hij (by omega)).trans he
  have wv := joinL_at hij hi
  have wr := joinL_at (vs := gs) hij (by omega)
  have nn := nn_getD hv
  have no : ∀ k m, k < vs.length - 1 → m < vs.length - 1 → k ≠ i → (joinL gs i j).getD k 0 < hs.getD k 0 → hs.getD m 0 < (joinL gs i j).getD m 0 → False := fun k m hk hm ni lk lm => by
    have hkm : k ≠ m := fun e => by rw [e] at lk; omega
    have n1 := h2.nn m
    have n0 := h1.nn (oldIx j k)
    have ok : oldIx j k < vs.length := by unfold oldIx; split <;> omega
    have rk : (joinL gs i j).getD k 0 = gs.getD (oldIx j k) 0 := by rw [wr, if_neg ni]
    have vk : (joinL vs i j).getD k 0 = vs.getD (oldIx j k) 0 := by rw [wv, if_neg ni]
    have q := h2.best k m (by rw [lw]; exact hk) (by rw [lw]; exact hm) hkm (by omega)
    unfold Bt at q
    rw [vk] at q
    by_cases e : m = i
    · -- the joined list has fewer than both had
      rw [e] at q lm n1
      rw [wv, if_pos rfl] at q
      rw [wr, if_pos rfl] at lm
      have oki : oldIx j k ≠ i := by unfold oldIx; split <;> omega
      have okj : oldIx j k ≠ j := by unfold oldIx; split <;> omega
      have gi := h1.nn i
      have gj := h1.nn j
      have vi := nn i
      have vj := nn j
      have vm := nn (oldIx j k)
      have lt : k < i → oldIx j k = k := fun z => by unfold oldIx; rw [if_pos (by omega)]
      have m1 : (vs.getD i 0 + vs.getD j 0) * mk a b (gs.getD (oldIx j k) 0) ≤ (vs.getD i 0 + vs.getD j 0) * mk a b (hs.getD k 0 - 1) := Int.mul_le_mul_of_nonneg_left (mk_mono s.b1 (by omega)) (by omega)
      have ex : (vs.getD i 0 + vs.getD j 0) * mk a b (gs.getD (oldIx j k) 0) = vs.getD i 0 * mk a b (gs.getD (oldIx j k) 0) + vs.getD j 0 * mk a b (gs.getD (oldIx j k) 0) := Int.add_mul ..
      have pm : 0 ≤ mk a b (gs.getD (oldIx j k) 0) := Int.le_of_lt (mk_pos s.a1 s.b1 n0)
      have pi : 0 ≤ vs.getD i 0 * mk a b (gs.getD (oldIx j k) 0) := Int.mul_nonneg vi pm
      have pj : 0 ≤ vs.getD j 0 * mk a b (gs.getD (oldIx j k) 0) := Int.mul_nonneg vj pm
      by_cases zi : 0 < gs.getD i 0
      · have q1 := h1.best i (oldIx j k) hi ok (Ne.symm oki) zi
        by_cases zj : 0 < gs.getD j 0
        · have q2 := h1.best j (oldIx j k) hj ok (Ne.symm okj) zj
          have mm : mk a b (hs.getD i 0) ≤ mk a b (gs.getD i 0 - 1) + mk a b (gs.getD j 0 - 1) := by
            have z1 := mk_mono (a := a) s.b1 (show hs.getD i 0 ≤ (gs.getD i 0 - 1) + (gs.getD j 0 - 1) + 1 by omega)
            have z2 : mk a b ((gs.getD i 0 - 1) + (gs.getD j 0 - 1) + 1) = mk a b (gs.getD i 0 - 1) + mk a b (gs.getD j 0 - 1) + b - a := by
              unfold mk
              rw [Int.add_mul, Int.add_mul]
              omega
            omega
          have m2 : vs.getD (oldIx j k) 0 * mk a b (hs.getD i 0) ≤ vs.getD (oldIx j k) 0 * (mk a b (gs.getD i 0 - 1) + mk a b (gs.getD j 0 - 1)) := Int.mul_le_mul_of_nonneg_left mm vm
          rw [Int.mul_add] at m2
          unfold Bt at q1 q2
          rcases q with q | q <;> rcases q1 with q1 | q1 <;> rcases q2 with q2 | q2 <;> omega
        · have m2 : vs.getD (oldIx j k) 0 * mk a b (hs.getD i 0) ≤ vs.getD (oldIx j k) 0 * mk a b (gs.getD i 0 - 1) := Int.mul_le_mul_of_nonneg_left (mk_mono s.b1 (by omega)) vm
          unfold Bt at q1
          rcases q with q | q <;> rcases q1 with q1 | q1 <;> omega
      · have zj : 0 < gs.getD j 0 := by omega
        have q2 := h1.best j (oldIx j k) hj ok (Ne.symm okj) zj
        have m2 : vs.getD (oldIx j k) 0 * mk a b (hs.getD i 0) ≤ vs.getD (oldIx j k) 0 * mk a b (gs.getD j 0 - 1) := Int.mul_le_mul_of_nonneg_left (mk_mono s.b1 (by omega)) vm
        unfold Bt at q2
        rcases q with q | q <;> rcases q2 with q2 | q2 <;> omega
    · -- two others
      have om : oldIx j m < vs.length := by unfold oldIx; split <;> omega
      have rm : (joinL gs i j).getD m 0 = gs.getD (oldIx j m) 0 := by rw [wr, if_neg e]
      have vm : (joinL vs i j).getD m 0 = vs.getD (oldIx j m) 0 := by rw [wv, if_neg e]
      rw [vm] at q
      have hne : oldIx j m ≠ oldIx j k := by unfold oldIx; split <;> split <;> omega
      have q1 := h1.best (oldIx j m) (oldIx j k) om ok hne (by omega)
      have q2 : Bt vs a b (oldIx j k) (hs.getD k 0 - 1) (oldIx j m) (hs.getD m 0) := by
        rcases q with q | q
        · exact .inl q
        · exact .inr ⟨q.1, by unfold oldIx; split <;> split <;> omega⟩
      exact knot s (nn _) (nn _) q1 q2 (by omega) (by omega)
  have h3 : ∀ k, k < vs.length - 1 → k ≠ i → hs.getD k 0 ≤ (joinL gs i j).getD k 0 := fun k hk ni => by
    refine Int.not_lt.mp fun lk => ?_
    obtain ⟨m, hm, lm⟩ := more_of_ne (lR.trans l2.symm) eR fun e => by rw [e] at lk; omega
    exact no k m hk (by omega) ni lk lm
  refine ⟨Int.not_lt.mp fun lm => ?_, fun k hk ni => ?_⟩
  · have ri : (joinL gs i j).getD i 0 = gs.getD i 0 + gs.getD j 0 := by rw [wr, if_pos rfl]
    obtain ⟨k, hk, lk⟩ := more_of_ne (l2.trans lR.symm) eR.symm fun e => by rw [e, ri] at lm; omega
    have ni : k ≠ i := fun e => by rw [e, ri] at lk; omega
    have := h3 k (by omega) ni
    omega
  · have := h3 k hk ni
    rw [wr, if_neg ni] at this
    exact this
end Bd

namespace Bk
open PySem PySem.Spec PyProof.Rows L2 Evl
/-! ### max, min of a tuple of ints; t.index(k) -/
section
variable {prog : Program} {w : World} {A : Around} {E : Value → Shared → Prop} {s : Shared} {t : Addr} {xs : Array (Int × Tok)}
theorem maxT_raw {Q : Value → Shared → Prop} (hh : A.handled = none) (ht : s.heap.IsTuple t (intItems xs)) (h0 : 0 < xs.size)
    (k : ∀ v h2 tk, (intItems xs)[argBest (fun i j => decide (numAt xs i > numAt xs j)) (xs.size - 1)]? = some v → (∀ b ob, s.heap.get? b = some ob → h2.get? b = some ob) → Q v { s with heap := h2, toks := tk }) :
    wpAny (model prog w) A (call (.builtin "max") [.ref t]) Q E s := by
  obtain ⟨ob, ho, hc, n, hd⟩ := id ht
  have lt : t < s.heap.objs.size := Heap.lt_size ho
  have sz : (intItems xs).size = xs.size := by simp [intItems]
  refine call_max_walk (wpAny_pyIter_tuple ht ?_)
  refine ⟨_, _, _, _, _, _, _, rfl, Walks.tuple (A := A.in1) hh s.heap.objs.size t (Nat.ne_of_lt lt) (intItems xs), ⟨⟨_, Heap.get?_push_size _ rfl, rfl, rfl⟩, ht.at fun o e => Heap.get?_push_of_some _ e⟩, fun b hb => ?_, by rw [sz]; exact h0, CmpOf.ints_gt (numAt xs) (fun _ _ => intItems_at), fun v h2 tk hP hk => k v h2 tk (by rw [← sz]; exact hP) (fun b ob e => hk b ob (fun hb => absurd (Heap.lt_size e) ((List.mem_singleton.mp hb) ▸ Nat.lt_irrefl _)) (Heap.get?_push_of_some _ e))⟩
  rcases List.mem_cons.mp hb with rfl | hb
  · exact Heap.lt_size (Heap.get?_push_size _ rfl)
  · obtain rfl := List.mem_singleton.mp hb
    exact Heap.lt_size (Heap.get?_push_of_some _ ho)
theorem minT_raw {Q : Value → Shared → Prop} (hh : A.handled = none) (ht : s.heap.IsTuple t (intItems xs)) (h0 : 0 < xs.size)
    (k : ∀ v h2 tk, (intItems xs)[argBest (fun i j => decide (numAt xs i < numAt xs j)) (xs.size - 1)]? = some v → (∀ b ob, s.heap.get? b = some ob → h2.get? b = some ob) → Q v { s with heap := h2, toks := tk }) :
    wpAny (model prog w) A (call (.builtin "min") [.ref t]) Q E s := by
  obtain ⟨ob, ho, hc, n, hd⟩ := id ht
  have lt : t < s.heap.objs.size := Heap.lt_size ho
  have sz : (intItems xs).size = xs.size := by simp [intItems]
  refine call_min_walk (wpAny_pyIter_tuple ht ?_)
  refine ⟨_, _, _, _, _, _, _, rfl, Walks.tuple (A := A.in1) hh s.heap.objs.size t (Nat.ne_of_lt lt) (intItems xs), ⟨⟨_, Heap.get?_push_size _ rfl, rfl, rfl⟩, ht.at fun o e => Heap.get?_push_of_some _ e⟩, fun b hb => ?_, by rw [sz]; exact h0, CmpOf.ints_lt (numAt xs) (fun _ _ => intItems_at), fun v h2 tk hP hk => k v h2 tk (by rw [← sz]; exact hP) (fun b ob e => hk b ob (fun hb => absurd (Heap.lt_size e) ((List.mem_singleton.mp hb) ▸ Nat.lt_irrefl _)) (Heap.get?_push_of_some _ e))⟩
  rcases List.mem_cons.mp hb with rfl | hb
  · exact Heap.lt_size (Heap.get?_push_size _ rfl)
  · obtain rfl := List.mem_singleton.mp hb
    exact Heap.lt_size (Heap.get?_push_of_some _ ho)
end
section
variable {X : Cx}
theorem cr_maxT (hc : X.calm = true) : CallR X (.builtin "max") (rMaxT X.K) := by
  intro pins s σ H ws us Q I r h
  obtain ⟨a, ns, rfl, hs, h0, q⟩ := h
  obtain ⟨its, rv, hl, _⟩ := I.tuple hs
  rw [Vals.ref1 r]
  have hi := rv.ints
  have ht : s.heap.IsTuple a its.toArray := hl
  obtain ⟨xs, e⟩ := hi.allInts.items
  have hn : numsOf (intItems xs).toList = ns := by rw [← e]; exact hi.numsOf
  rw [nums_intItems] at hn
  subst hn
  rw [e] at ht
  have hz : 0 < xs.size := by simpa using h0
  refine maxT_raw (I.ok.hd hc) ht hz fun v h2 tk hv hk => ?_
  obtain ⟨t, rfl⟩ := intItems_at hv
  obtain ⟨h1, h3⟩ := argBest_gt (numAt xs) (xs.size - 1)
  refine ⟨.int _, H, I.kept hk, ⟨_, rfl⟩, q _ ?_ fun y hy => ?_⟩
  · rw [numAt_eq]
    exact PySem.getD_mem (by rw [List.length_map, Array.length_toList]; omega)
  · obtain ⟨j, hj, rfl⟩ := mem_getD hy
    rw [List.length_map, Array.length_toList] at hj
    rw [← numAt_eq]
    exact h3 j (by omega)
theorem cr_minT (hc : X.calm = true) : CallR X (.builtin "min") (rMinT X.K) := by
  intro pins s σ H ws us Q I r h
  obtain ⟨a, ns, rfl, hs, h0, q⟩ := h
  obtain ⟨its, rv, hl, _⟩ := I.tuple hs
  rw [Vals.ref1 r]
  have hi := rv.ints
  have ht : s.heap.IsTuple a its.toArray := hl
  obtain ⟨xs, e⟩ := hi.allInts.items
  have hn : numsOf (intItems xs).toList = ns := by rw [← e]; exact hi.numsOf
  rw [nums_intItems] at hn
  subst hn
  rw [e] at ht
  have hz : 0 < xs.size := by simpa using h0
  refine minT_raw (I.ok.hd hc) ht hz fun v h2 tk hv hk => ?_
  obtain ⟨t, rfl⟩ := intItems_at hv
  obtain ⟨h1, h3⟩ := argBest_lt (numAt xs) (xs.size - 1)
  refine ⟨.int _, H, I.kept hk, ⟨_, rfl⟩, q _ ?_ fun y hy => ?_⟩
  · rw [numAt_eq]
    exact PySem.getD_mem (by rw [List.length_map, Array.length_toList]; omega)
  · obtain ⟨j, hj, rfl⟩ := mem_getD hy
    rw [List.length_map, Array.length_toList] at hj
    rw [← numAt_eq]
    exact h3 j (by omega)
theorem cr_maxTK {K : PySem.W.Frag} (h : X.K = K) (hc : X.calm = true) : CallR X (.builtin "max") (rMaxT K) := h ▸ cr_maxT hc
theorem cr_minTK {K : PySem.W.Frag} (h : X.K = K) (hc : X.calm = true) : CallR X (.builtin "min") (rMinT K) := h ▸ cr_minT hc
def rTIndex (K : PySem.W.Frag) : V → List V → Hp → VK → Prop := fun x xs H Q => ∃ (a : Addr) (ns : List Int) (k : Int), x = V.ref a ∧ xs = [V.int k] ∧ SqT K H a (iv ns) ∧ k ∈ ns ∧ Q (.int (ns.idxOf k : Nat)) H
theorem mt_tindex : MtR X "tuple.index" (rTIndex X.K) := by
  intro pins s σ H x xs v us Q I r rs h
  obtain ⟨a, ns, k, rfl, rfl, hs, hk, q⟩ := h
  obtain ⟨its, rv, hl, _⟩ := I.tuple hs
  cases r
  obtain ⟨u, rfl, t, rfl⟩ := vals1 rs
  exact PySem.SeqAt.tuple_index_ints (show s.heap.IsTuple a its.toArray from hl) rv.ints hk ⟨.int _, H, I.tok _, ⟨_, rfl⟩, q⟩
end
section
variable {K : PySem.W.Frag} {σ : L2.St} {H : Hp} {te to : TE} {ns : List Int}
theorem top_is : ∀ {xs : List Int}, 0 < xs.length → ∃ m, m ∈ xs ∧ ∀ y ∈ xs, y ≤ m
  | [x], _ => ⟨x, List.mem_cons_self, fun y hy => by rw [List.mem_singleton.mp hy]; exact Int.le_refl _⟩
  | x :: y :: r, _ => by
    obtain ⟨m, hm, hle⟩ := top_is (xs := y :: r) (Nat.succ_pos _)
    by_cases h : x ≤ m
    · exact ⟨m, List.mem_cons_of_mem _ hm, fun z hz => by
        rcases List.mem_cons.mp hz with e | e
        · omega
        · exact hle z e⟩
    · exact ⟨x, List.mem_cons_self, fun z hz => by
        rcases List.mem_cons.mp hz with e | e
        · omega
        · have := hle z e
          omega⟩
/-- max(t), min(t) -/
theorem ev_maxW {m : Int} (h : EvW te σ H (iv ns)) (h1 : m ∈ ns) (h2 : ∀ y ∈ ns, y ≤ m) : Ev (tCB (rMaxT K) (tCons te tNil)) σ H (.int m) := fun H1 e Q q => h H1 e _ fun v H2 e2 hv => by
  obtain ⟨p, rfl, hp⟩ := hv
  refine ⟨p, ns, rfl, st_of hp, List.length_pos_of_mem h1, fun k hk hle => ?_⟩
  have e3 : k = m := Int.le_antisymm (h2 k hk) (hle m h1)
  rw [e3]
  exact q H2 e2
theorem ev_minW {m : Int} (h : EvW te σ H (iv ns)) (h1 : m ∈ ns) (h2 : ∀ y ∈ ns, m ≤ y) : Ev (tCB (rMinT K) (tCons te tNil)) σ H (.int m) := fun H1 e Q q => h H1 e _ fun v H2 e2 hv => by
  obtain ⟨p, rfl, hp⟩ := hv
  refine ⟨p, ns, rfl, st_of hp, List.length_pos_of_mem h1, fun k hk hle => ?_⟩
  have e3 : k = m := Int.le_antisymm (hle m h1) (h2 k hk)
  rw [e3]
  exact q H2 e2
/-- sum of a new list -/
theorem ev_sumNL (h : EvL te σ H (iv ns)) : Ev (tCB (rSum K) (tCons te tNil)) σ H (.int ns.sum) := fun H1 e Q q => h H1 e _ fun p H2 _ e2 hp => ⟨p, ns, rfl, sq_of hp, q H2 e2⟩
theorem q_pop {l : Addr} {xs : List V} {j : Nat} {D : Ends} {tz : TS} (hl : H l = some (.lst xs)) (ho : Ev to σ H (.ref l)) (hj : Ev te σ H (.int (j : Int))) (hlt : j < xs.length) (hz : xs.length ≤ 100000) (k : ∀ H1, Ex H H1 → tz D σ (upd H1 l (.lst (xs.eraseIdx j)))) :
    tSeq (tDrop (tBM K "list" rPopAt to (tCons te tNil))) tz D σ H := ho H (Ex.refl H) _ fun H1 e1 => ⟨.inl ⟨rfl, xs, sq_of (e1 l _ hl)⟩, hj H1 e1 _ fun H2 e2 =>
      ⟨l, xs, (j : Int), j, xs[j], rfl, rfl, e2 l _ (e1 l _ hl), by omega, by omega, (ixN_seq (ixN_nat hlt)).1, List.getElem?_eq_getElem hlt, k H2 (e1.trans e2)⟩⟩
theorem iv_erase (gs : List Int) (j : Nat) : (iv gs).eraseIdx j = iv (gs.eraseIdx j) := by
  unfold iv
  rw [List.eraseIdx_eq_take_drop_succ, List.eraseIdx_eq_take_drop_succ, List.map_append, List.map_take, List.map_drop]
/-- joined -/
def spJoined : Sp := fun ws H Q _ => ∃ (p : Addr) (vs : List Int) (i j : Nat), ws = [.ref p, .int (i : Int), .int (j : Int)] ∧ Vo H p vs ∧ i < j ∧ j < vs.length ∧ RetP (IsT (iv (Bd.joinL vs i j))) H Q
theorem sv_joined {H : Hp} {p : Addr} {vs : List Int} {i j : Nat} (h : Vo H p vs) (hij : i < j) (hj : j < vs.length) : SpP spJoined [.ref p, .int (i : Int), .int (j : Int)] H (IsT (iv (Bd.joinL vs i j))) := fun H1 e Q q E => ⟨p, vs, i, j, rfl, h.mono e, hij, hj, q⟩
end
end Bk

/-! Shares; some lists by themselves; other numbers of the lists. -/
namespace Bd
/-! ### votes in just the proportion of seats -/
theorem just_strict {gs : List Int} {a b o : Int} (s : Sc a b) (hab : a ≤ b) (ho : 0 < o) (hg : ∀ g ∈ gs, 0 ≤ g) : strictL (gs.map fun g => o * g) gs a b = true := by
  refine strict_of fun i j _ _ _ hp => ?_
  have at' : ∀ k, (gs.map fun g => o * g).getD k 0 = o * gs.getD k 0 := fun k => by
    rw [List.getD_eq_getElem?_getD, List.getElem?_map, List.getD_eq_getElem?_getD]
    cases gs[k]? with
    | none => show (0 : Int) = o * 0; omega
    | some x => rfl
  rw [at', at', Int.mul_assoc, Int.mul_assoc]
  refine Int.mul_lt_mul_of_pos_left ?_ ho
  have hj := nn_getD hg j
  generalize gs.getD i 0 = x at hp
  generalize gs.getD j 0 = y at hj
  have e1 : y * mk a b (x - 1) = y * a + y * (x * b) - y * b := by
    unfold mk
    rw [Int.sub_mul, Int.one_mul, Int.mul_add, Int.mul_sub]
    omega
  have e2 : x * mk a b y = x * a + y * (x * b) := by
    unfold mk
    rw [Int.mul_add, ← Int.mul_assoc, ← Int.mul_assoc, Int.mul_comm x y]
  have h1 : y * a ≤ y * b := Int.mul_le_mul_of_nonneg_left hab hj
  have h2 : 0 < x * a := Int.mul_pos hp (by have := s.a1; omega)
  omega
def sharesL (vs : List Int) (n : Int) : List Int := vs.map fun v => v * n / vs.sum
theorem sum_map_mul (o : Int) : ∀ gs : List Int, (gs.map fun g => o * g).sum = o * gs.sum
  | [] => by simp
  | g :: r => by
    rw [List.map_cons, List.sum_cons, List.sum_cons, sum_map_mul o r, Int.mul_add]
theorem just_shares {gs : List Int} {o : Int} (ho : 0 < o) (hs : 0 < gs.sum) : sharesL (gs.map fun g => o * g) gs.sum = gs := by
  unfold sharesL
  rw [List.map_map, sum_map_mul]
  have e : (fun v => v * gs.sum / (o * gs.sum)) ∘ (fun g => o * g) = fun g : Int => g := by
    funext g
    show o * g * gs.sum / (o * gs.sum) = g
    rw [Int.mul_assoc, Int.mul_ediv_mul_of_pos _ _ ho, Int.mul_ediv_cancel _ (by omega)]
  rw [e, List.map_id']
/-! ### at least the whole share, by the scale (1, 1) -/
theorem sum_mul_le {vs gs : List Int} {c d : Int} : vs.length = gs.length → (∀ k, k < vs.length → d * gs.getD k 0 ≤ vs.getD k 0 * c) → d * gs.sum ≤ vs.sum * c := by
  induction vs generalizing gs with
  | nil =>
    intro hl _
    cases gs with
    | nil => simp
    | cons g r => cases hl
  | cons v t ih =>
    intro hl h
    cases gs with
    | nil => cases hl
    | cons g r =>
      have h0 := h 0 (Nat.succ_pos _)
      have h1 := ih (gs := r) (Nat.succ.inj hl) fun k hk => h (k + 1) (Nat.succ_lt_succ hk)
      rw [List.sum_cons, List.sum_cons, Int.mul_add, Int.add_mul]
      have h0' : d * g ≤ v * c := h0
      omega
theorem share_law {vs gs : List Int} {n : Nat} (hv : ∀ v ∈ vs, 0 ≤ v) (hV : 0 < vs.sum) (h : Stable vs 1 1 gs) (hs : gs.sum = (n : Int)) {i : Nat} (hi : i < vs.length) : (sharesL vs n).getD i 0 ≤ gs.getD i 0 := by
  have at' : (sharesL vs n).getD i 0 = vs.getD i 0 * n / vs.sum := by
    unfold sharesL
    rw [List.getD_eq_getElem?_getD, List.getElem?_map, List.getD_eq_getElem?_getD, List.getElem?_eq_getElem hi]
    rfl
  rw [at']
  refine Int.not_lt.mp fun lt => ?_
  have g0 := h.nn i
  have m1 : ∀ k : Int, mk 1 1 k = k + 1 := fun k => by unfold mk; omega
  -- each list's votes, times what i would have with one more, are no fewer than i's votes times its seats
  have hk : ∀ k, k < vs.length → vs.getD i 0 * (gs.set i (gs.getD i 0 + 1)).getD k 0 ≤ vs.getD k 0 * (gs.getD i 0 + 1) := fun k hk => by
    rw [getD_set (by rw [h.len]; exact hi)]
    by_cases e : k = i
    · rw [if_pos e, e]
      exact Int.le_refl _
    · rw [if_neg e]
      by_cases z : 0 < gs.getD k 0
      · have q := (h.best k i hk hi e z).le
        rw [m1, m1, Int.sub_add_cancel] at q
        exact q
      · have z0 := h.nn k
        have ez : gs.getD k 0 = 0 := by omega
        rw [ez, Int.mul_zero]
        exact Int.mul_nonneg (nn_getD hv k) (by omega)
  have q := sum_mul_le (by rw [List.length_set, h.len]) hk
  rw [sum_set (by rw [h.len]; exact hi), hs] at q
  have e1 : (n : Int) - gs.getD i 0 + (gs.getD i 0 + 1) = (n : Int) + 1 := by omega
  rw [e1, Int.mul_add, Int.mul_one] at q
  have q2 : (gs.getD i 0 + 1) * vs.sum ≤ vs.getD i 0 * n := by
    have e2 := Int.ediv_mul_le (vs.getD i 0 * n) (show vs.sum ≠ 0 by omega)
    have e3 : (gs.getD i 0 + 1) * vs.sum ≤ vs.getD i 0 * n / vs.sum * vs.sum := Int.mul_le_mul_of_nonneg_right (by omega) (by omega)
    omega
  rw [Int.mul_comm] at q2
  have v0 := nn_getD hv i
  have p : 0 < (gs.getD i 0 + 1) * vs.sum := Int.mul_pos (by omega) hV
  rw [Int.mul_comm] at p
  have p2 : vs.getD i 0 = 0 := by omega
  rw [p2, Int.zero_mul] at q2
  omega
/-! ### so many times as many votes, marks so many times as great -/
theorem times_at (vs : List Int) (c : Int) (k : Nat) : (vs.map fun v => v * c).getD k 0 = vs.getD k 0 * c := by
  rw [List.getD_eq_getElem?_getD, List.getElem?_map, List.getD_eq_getElem?_getD]
  cases vs[k]? with
  | none => show (0 : Int) = 0 * c; omega
  | some x => rfl
theorem isGr_times {vs : List Int} {c : Int} (hc : 0 < c) (i j : Nat) (m n : Int) : isGr (vs.map fun v => v * c) i m j n = isGr vs i m j n := by
  unfold isGr
  rw [times_at, times_at, Int.mul_assoc, Int.mul_assoc, Int.mul_comm c m, Int.mul_comm c n, ← Int.mul_assoc, ← Int.mul_assoc]
  refine decide_eq_decide.mpr ⟨fun h => Int.lt_of_mul_lt_mul_right h (by omega), fun h => Int.mul_lt_mul_of_pos_right h hc⟩
theorem nextTo_times {vs gs : List Int} {a b c : Int} (hc : 0 < c) : ∀ n, nextTo (vs.map fun v => v * c) gs a b n = nextTo vs gs a b n
  | 0 => rfl
  | n + 1 => by
    unfold nextTo
    rw [nextTo_times hc n, isGr_times hc]
theorem given_times {vs : List Int} {a b c : Int} (hc : 0 < c) : ∀ n, givenTo (vs.map fun v => v * c) a b n = givenTo vs a b n
  | 0 => by unfold givenTo; rw [List.length_map]
  | n + 1 => by
    unfold givenTo
    rw [given_times hc n]
    unfold nextL
    rw [nextTo_times hc, List.length_map]
theorem order_times {vs : List Int} {a b c : Int} (hc : 0 < c) (n : Nat) : orderTo (vs.map fun v => v * c) a b n = orderTo vs a b n := by
  unfold orderTo
  refine List.map_congr_left fun k _ => ?_
  rw [given_times hc]
  unfold nextL
  rw [nextTo_times hc, List.length_map]
theorem mk_times (a b c k : Int) : mk (a * c) (b * c) k = mk a b k * c := by
  unfold mk
  rw [Int.add_mul, Int.mul_assoc]
theorem isGr_marks {vs : List Int} {c : Int} (hc : 0 < c) (i j : Nat) (m n : Int) : isGr vs i (m * c) j (n * c) = isGr vs i m j n := by
  unfold isGr
  rw [← Int.mul_assoc, ← Int.mul_assoc]
  refine decide_eq_decide.mpr ⟨fun h => Int.lt_of_mul_lt_mul_right h (by omega), fun h => Int.mul_lt_mul_of_pos_right h hc⟩
theorem nextTo_marks {vs gs : List Int} {a b c : Int} (hc : 0 < c) : ∀ n, nextTo vs gs (a * c) (b * c) n = nextTo vs gs a b n
  | 0 => rfl
  | n + 1 => by
    unfold nextTo
    rw [nextTo_marks hc n, mk_times, mk_times, isGr_marks hc]
theorem given_marks {vs : List Int} {a b c : Int} (hc : 0 < c) : ∀ n, givenTo vs (a * c) (b * c) n = givenTo vs a b n
  | 0 => rfl
  | n + 1 => by
    unfold givenTo
    rw [given_marks hc n]
    unfold nextL
    rw [nextTo_marks hc]
theorem order_marks {vs : List Int} {a b c : Int} (hc : 0 < c) (n : Nat) : orderTo vs (a * c) (b * c) n = orderTo vs a b n := by
  unfold orderTo
  refine List.map_congr_left fun k _ => ?_
  rw [given_marks hc]
  unfold nextL
  rw [nextTo_marks hc]
/-! ### lists picked by their numbers -/
def pick (xs : List Int) (is : List Nat) : List Int := is.map fun i => xs.getD i 0
theorem pick_len (xs : List Int) (is : List Nat) : (pick xs is).length = is.length := by
  unfold pick
  rw [List.length_map]
theorem pick_at {xs : List Int} {is : List Nat} {k : Nat} (h : k < is.length) : (pick xs is).getD k 0 = xs.getD (is[k]) 0 := by
  unfold pick
  rw [List.getD_eq_getElem?_getD, List.getElem?_map, List.getElem?_eq_getElem h]
  rfl
theorem pick_nn {xs : List Int} {is : List Nat} (h : ∀ i, 0 ≤ xs.getD i 0) (k : Nat) : 0 ≤ (pick xs is).getD k 0 := by
  by_cases hk : k < is.length
  · rw [pick_at hk]
    exact h _
  · rw [getD_out (by rw [pick_len]; omega)]
    exact Int.le_refl 0
/-- some lists by themselves -/
theorem pick_stable {vs gs : List Int} {a b : Int} {is : List Nat} (h : Stable vs a b gs) (hi : ∀ i ∈ is, i < vs.length) (hr : is.Pairwise (· < ·)) : Stable (pick vs is) a b (pick gs is) := by
  refine ⟨by rw [pick_len, pick_len], pick_nn h.nn, fun x y hx hy hn hp => ?_⟩
  rw [pick_len] at hx hy
  rw [pick_at hx] at hp ⊢
  rw [pick_at hy]
  have lt := List.pairwise_iff_getElem.mp hr
  have ne : is[x] ≠ is[y] := fun e => by
    rcases Nat.lt_or_gt_of_ne hn with z | z
    · have := lt x y hx hy z
      omega
    · have := lt y x hy hx z
      omega
  have q := h.best (is[x]) (is[y]) (hi _ (List.getElem_mem hx)) (hi _ (List.getElem_mem hy)) ne hp
  unfold Bt at q ⊢
  rw [pick_at hx, pick_at hy]
  rcases q with q | q
  · exact .inl q
  · refine .inr ⟨q.1, ?_⟩
    rcases Nat.lt_or_gt_of_ne hn with z | z
    · exact z
    · have := lt y x hy hx z
      omega
theorem pick_range (xs : List Int) : pick xs (List.range xs.length) = xs := by
  refine ext_getD (by rw [pick_len, List.length_range]) fun i hi => ?_
  rw [pick_len, List.length_range] at hi
  rw [pick_at (by rw [List.length_range]; exact hi), List.getElem_range]
theorem pick_filter_sum {xs : List Int} {f : Nat → Bool} (h : ∀ i, 0 ≤ xs.getD i 0) : ∀ is : List Nat, (pick xs (is.filter f)).sum ≤ (pick xs is).sum
  | [] => Int.le_refl _
  | i :: r => by
    have ih := pick_filter_sum (f := f) h r
    have hi := h i
    rw [List.filter_cons]
    split
    · show xs.getD i 0 + (pick xs (r.filter f)).sum ≤ xs.getD i 0 + (pick xs r).sum
      omega
    · show (pick xs (r.filter f)).sum ≤ xs.getD i 0 + (pick xs r).sum
      omega
theorem pick_sum_nn {xs : List Int} {is : List Nat} (h : ∀ i, 0 ≤ xs.getD i 0) : 0 ≤ (pick xs is).sum := sum_nn fun x hx => by
  obtain ⟨i, _, rfl⟩ := List.mem_map.mp hx
  exact h i
/-- lists with other numbers, where all is strict -/
theorem pick_strict {vs gs : List Int} {a b : Int} {is : List Nat} (h : strictL vs gs a b = true) (hi : ∀ i ∈ is, i < vs.length) (hd : is.Nodup) : strictL (pick vs is) (pick gs is) a b = true := by
  refine strict_of fun x y hx hy hn hp => ?_
  rw [pick_len] at hx hy
  rw [pick_at hx] at hp ⊢
  rw [pick_at hy, pick_at hx, pick_at hy]
  have ne : is[x] ≠ is[y] := fun e => hn ((List.getElem_inj hd).mp e)
  exact strict_at h (hi _ (List.getElem_mem hx)) (hi _ (List.getElem_mem hy)) ne hp
theorem perm_sum {xs ys : List Int} (h : xs.Perm ys) : xs.sum = ys.sum := by
  induction h with
  | nil => rfl
  | cons x _ ih => rw [List.sum_cons, List.sum_cons, ih]
  | swap x y l => rw [List.sum_cons, List.sum_cons, List.sum_cons, List.sum_cons]; omega
  | trans _ _ h1 h2 => exact h1.trans h2
theorem pick_perm_sum {xs : List Int} {is : List Nat} (h : is.Perm (List.range xs.length)) : (pick xs is).sum = xs.sum := by
  have e := perm_sum (h.map fun i => xs.getD i 0)
  have e2 := congrArg List.sum (pick_range xs)
  exact e.trans e2
end Bd

namespace Bk
open PySem PySem.Spec PyProof.Rows L2 Evl
def spShares : Sp := fun ws H Q _ => ∃ (p : Addr) (vs : List Int) (n : Nat), ws = [.ref p, .int (n : Int)] ∧ Vo H p vs ∧ 0 < vs.sum ∧ n ≤ 60 ∧ RetP (IsT (iv (Bd.sharesL vs n))) H Q
theorem sv_shares {H : Hp} {p : Addr} {vs : List Int} {n : Nat} (h : Vo H p vs) (hs : 0 < vs.sum) (hn : n ≤ 60) : SpP spShares [.ref p, .int (n : Int)] H (IsT (iv (Bd.sharesL vs n))) := fun H1 e Q q E => ⟨p, vs, n, rfl, h.mono e, hs, hn, q⟩
theorem Vo.sum_le {H : Hp} {p : Addr} {vs : List Int} (h : Vo H p vs) : vs.sum ≤ 8000000 := by
  have h1 := Bd.sum_le fun v hv => (h.ok v hv).2
  have h2 := h.len
  omega
/-- a comprehension over a tuple of ints, without a test -/
theorem el_lcI {K : PySem.W.Frag} {σ : L2.St} {H : Hp} {te tl : TE} {j : Nat} {vs : List Nat} {ns : List Int} (g : Int → Int) (h : EvW tl σ H (iv ns)) (hz : ns.length ≤ 40000) (hw : ∀ x, wipe ((wipe σ vs).set j (some x)) vs = wipe σ vs)
    (he : ∀ (n : Int) H1, Ex H H1 → n ∈ ns → Ev te ((wipe σ vs).set j (some (.int n))) H1 (.int (g n))) : EvL (tLc (iTup K tl) (gName j) tYes te vs) σ H (iv (ns.map g)) := by
  refine el_is (el_lcW (fun _ => true) (fun x => match x with | .int n => .int (g n) | x => x) h (by rw [iv_len]; exact hz) hw (fun _ _ _ _ => et_yes) fun x H1 e hx _ => ?_) ?_
  · obtain ⟨n, hn, rfl⟩ := List.mem_map.mp hx
    exact he n H1 e hn
  · rw [List.filter_eq_self.mpr fun _ _ => rfl]
    unfold iv
    rw [List.map_map, List.map_map]
    rfl
/-- .. over a list -/
theorem el_lcIL {K : PySem.W.Frag} {σ : L2.St} {H : Hp} {te tl : TE} {j : Nat} {vs : List Nat} {ns : List Int} {a : Addr} (g : Int → Int) (h : Ev tl σ H (.ref a)) (ha : H a = some (.lst (iv ns))) (hz : ns.length ≤ 40000) (hw : ∀ x, wipe ((wipe σ vs).set j (some x)) vs = wipe σ vs)
    (he : ∀ (n : Int) H1, Ex H H1 → n ∈ ns → Ev te ((wipe σ vs).set j (some (.int n))) H1 (.int (g n))) : EvL (tLc (iList K tl) (gName j) tYes te vs) σ H (iv (ns.map g)) := by
  refine el_is (el_lcL (xs := iv ns) (fun _ => true) (fun i => .int (g (ns.getD i 0))) h (sq_of ha) (by rw [iv_len]; exact hz) hw (fun _ _ _ _ _ => et_yes) fun i x H1 e hx _ => ?_) ?_
  · have hi : i < ns.length := by
      have := (List.getElem?_eq_some_iff.mp hx).1
      rw [iv_len] at this
      exact this
    have ex : x = .int (ns.getD i 0) := by
      have z := iv_at hi
      rw [atI_nat hx] at z
      exact Option.some.inj z
    subst ex
    exact he _ H1 e (Bd.getD_mem hi)
  · rw [given_map, iv_len]
    unfold iv
    refine List.ext_getElem (by rw [List.length_map, List.length_map, List.length_map, List.length_range]) fun i h1 h2 => ?_
    rw [List.length_map, List.length_range] at h1
    rw [List.getElem_map, List.getElem_map, List.getElem_map, List.getElem_range, List.getD_eq_getElem?_getD, List.getElem?_eq_getElem h1]
    rfl
theorem ev_sumLv {K : PySem.W.Frag} {σ : L2.St} {H : Hp} {te : TE} {ns : List Int} {p : Addr} (h : Ev te σ H (.ref p)) (hp : H p = some (.lst (iv ns))) : Ev (tCB (rSum K) (tCons te tNil)) σ H (.int ns.sum) := ev_sumL h hp
end Bk
namespace Bk
open PySem PySem.Spec PyProof.Rows L2 Evl
theorem rv_isBl {H : Hp} {a b : Bool} : RV rIsB (.bl a) (.bl b) H (.bl (decide (a = b))) := fun H1 _ _ q => ⟨a, b, rfl, rfl, q H1 (Ex.refl H1)⟩
end Bk

namespace Bk
open PySem PySem.Spec PyProof.Rows L2 Evl
theorem nv_drop (os : List Nat) (n : Nat) : (nv os).drop n = nv (os.drop n) := by
  unfold nv
  rw [List.map_drop]
theorem nv_apps (as bs : List Nat) : nv as ++ nv bs = nv (as ++ bs) := by
  unfold nv
  rw [List.map_append]
theorem nv_at {os : List Nat} {i : Nat} {x : V} (h : (nv os)[i]? = some x) : ∃ o, o ∈ os ∧ os[i]? = some o ∧ x = .int (o : Int) := by
  unfold nv at h
  rw [List.getElem?_map] at h
  cases e : os[i]? with
  | none =>
    rw [e] at h
    cases h
  | some o =>
    rw [e] at h
    exact ⟨o, List.mem_of_getElem? e, rfl, (Option.some.inj h).symm⟩
section
variable {K : PySem.W.Frag} {σ : L2.St} {H : Hp} {te tl : TE} {j : Nat} {vs : List Nat} {is : List Nat} {xs : List Int}
/-- [xs[i] for i in is], is a list of places -/
theorem el_lcP {a : Addr} (h : Ev tl σ H (.ref a)) (ha : H a = some (.lst (nv is))) (hz : is.length ≤ 40000) (hw : ∀ x, wipe ((wipe σ vs).set j (some x)) vs = wipe σ vs)
    (he : ∀ (i : Nat) H1, Ex H H1 → i ∈ is → Ev te ((wipe σ vs).set j (some (.int (i : Int)))) H1 (.int (xs.getD i 0))) : EvL (tLc (iList K tl) (gName j) tYes te vs) σ H (iv (Bd.pick xs is)) := by
  refine el_is (el_lcL (xs := nv is) (fun _ => true) (fun k => .int (xs.getD (is.getD k 0) 0)) h (sq_of ha) (by rw [nv_len]; exact hz) hw (fun _ _ _ _ _ => et_yes) fun k x H1 e hx _ => ?_) ?_
  · obtain ⟨o, ho, ho2, rfl⟩ := nv_at hx
    have eo : is.getD k 0 = o := by rw [List.getD_eq_getElem?_getD, ho2]; rfl
    rw [eo]
    exact he o H1 e ho
  · rw [given_map, nv_len]
    unfold iv Bd.pick
    refine List.ext_getElem (by rw [List.length_map, List.length_map, List.length_map, List.length_range]) fun i h1 h2 => ?_
    rw [List.length_map, List.length_range] at h1
    have e2 : is.getD i 0 = is[i] := by
      rw [List.getD_eq_getElem?_getD, List.getElem?_eq_getElem h1]
      rfl
    rw [List.getElem_map, List.getElem_map, List.getElem_map, List.getElem_range, e2]
/-- .. a tuple of places -/
theorem el_lcPW (h : EvW tl σ H (nv is)) (hz : is.length ≤ 40000) (hw : ∀ x, wipe ((wipe σ vs).set j (some x)) vs = wipe σ vs)
    (he : ∀ (i : Nat) H1, Ex H H1 → i ∈ is → Ev te ((wipe σ vs).set j (some (.int (i : Int)))) H1 (.int (xs.getD i 0))) : EvL (tLc (iTup K tl) (gName j) tYes te vs) σ H (iv (Bd.pick xs is)) := by
  refine el_is (el_lcW (fun _ => true) (fun x => match x with | .int n => .int (xs.getD n.toNat 0) | x => x) h (by rw [nv_len]; exact hz) hw (fun _ _ _ _ => et_yes) fun x H1 e hx _ => ?_) ?_
  · obtain ⟨o, ho, rfl⟩ := List.mem_map.mp hx
    show Ev te _ H1 (.int (xs.getD ((o : Int).toNat) 0))
    rw [Int.toNat_natCast]
    exact he o H1 e ho
  · rw [List.filter_eq_self.mpr fun _ _ => rfl]
    unfold nv iv Bd.pick
    rw [List.map_map, List.map_map]
    refine List.map_congr_left fun o _ => ?_
    show V.int (xs.getD ((o : Int).toNat) 0) = V.int (xs.getD o 0)
    rw [Int.toNat_natCast]
end
end Bk

namespace Bk
open PySem PySem.Spec PyProof.Rows L2 Evl
/-! ### a tuple times 1; a list compared with the empty one -/
section
variable {X : Cx}
def rEqNil (K : PySem.W.Frag) : R2 := fun x y H Q => ∃ a b xs, x = .ref a ∧ y = .ref b ∧ SqL K H a xs ∧ SqL K H b [] ∧ Q (.bl xs.isEmpty) H
theorem op_eqNil (hu : X.A.units < cLine) : OpR X (compareOp .Eq) (rEqNil X.K) := by
  intro pins s σ H x y v u Q I rx ry h
  obtain ⟨a, b, xs, rfl, rfl, ha, hb, q⟩ := h
  cases rx
  cases ry
  obtain ⟨its, r, pl, _⟩ := I.list ha
  obtain ⟨its2, r2, pl2, _⟩ := I.list hb
  cases r2
  cases r with
  | nil => exact SeqAt.eq_listAt (e := fun _ => true) pl.isList pl2.isList rfl hu (fun j h _ => absurd h (Nat.not_lt_zero _)) ⟨.bl true, H, I, rfl, q⟩
  | cons r1 r2 => exact SeqAt.eq_list_lengthsAt pl.isList pl2.isList (by simp) hu ⟨.bl false, H, I, rfl, q⟩
theorem op_eqNilK {K : PySem.W.Frag} (h : X.K = K) (hu : X.A.units + 64 < cLine) : OpR X (compareOp .Eq) (rEqNil K) := h ▸ op_eqNil (by omega)
theorem tuple_mulOne (l : Addr) (items : Array Value) (n : Nat) (dd : Option Addr) (sl : Array (Option Value)) (u : Tok) :
    Meets (Builtin.«tuple.__mul__» ⟨[.ref l, .int 1 u], []⟩) (fun _ R s => s.heap.get? l = some { cls := .type "tuple", dict := dd, data := .seq items n, slots := sl } ∧ R (.ok (.ret (.ref l))) s) :=
  .of_wp fun prog w A R s h => by
    obtain ⟨hp, g, d, tk, os⟩ := s
    obtain ⟨hl, h⟩ := h
    have f1 := AutoSeq1.idx_int
    have ht : Shared.TypeIs ⟨hp, g, d, tk, os⟩ (.ref l) "tuple" := ⟨_, hl, rfl⟩
    wp_walk using wpAny_loadPart' hl
    exact ⟨_, rfl, h⟩
def rRep1 (K : PySem.W.Frag) : R2 := fun x y H Q => ∃ l k xs, x = .ref l ∧ y = .int k ∧ SqT K H l xs ∧ xs ≠ [] ∧ 1 ≤ k ∧ k ≤ 1000 ∧ xs.length ≤ 1000 ∧ (k = 1 → Q (.ref l) H) ∧ (k ≠ 1 → ∀ p, H p = none → Q (.ref p) (upd H p (.tup (List.replicate k.toNat xs).flatten)))
theorem op_rep1 : OpR X (binaryOp .Mult) (rRep1 X.K) := by
  intro pins s σ H x y v u Q I rx ry h
  obtain ⟨l, k, xs, rfl, rfl, hT, hne, h1, h2, hz, q1, q2⟩ := h
  by_cases hk : k = 1
  · subst hk
    cases rx
    obtain ⟨t, rfl⟩ := ry
    obtain ⟨its, r, ⟨⟨cls, dd, data, sl⟩, ho, hc, n, hd⟩, hs⟩ := I.tuple hT
    simp only at hc hd
    subst hc hd
    exact wpAny_binaryOp_repeat_ref (T := "tuple") (U := "int") (by decide) ⟨_, ho, rfl⟩ (fun s' => typeIs_int s' 1 t) noFill_tuple_mul F.fills_int_mul F.slot_int_rmul repeat_tuple F.slot_int_index.lookup
      (call_meets F.slot_int_rmul (typeIs_int s 1 t) F.entry_int_rmul (F.args_int_rmul_2 _ _) (int_rmul_tuple 1 t l its.toArray n dd sl)
        ⟨ho, rfl, ⟨_, ho, rfl⟩, call_meets F.slot_tuple_mul ⟨_, ho, rfl⟩ F.entry_tuple_mul (F.args_tuple_mul_2 _ _) (tuple_mulOne l its.toArray n dd sl t) ⟨ho, .ref l, H, I, rfl, q1 rfl⟩⟩)
  · exact op_repT pins s σ H _ _ v u Q I rx ry ⟨l, k, xs, rfl, rfl, hT, hne, by omega, h2, hz, q2 hk⟩
theorem op_rep1K {K : PySem.W.Frag} (h : X.K = K) : OpR X (binaryOp .Mult) (rRep1 K) := h ▸ op_rep1
end
/-! ### any thing at all: none, or the parts of the tuple that it is -/
inductive ThV (H : Hp) : V → Option (List V) → Prop where
  | non : ThV H .non none
  | bl (b : Bool) : ThV H (.bl b) none
  | int (i : Int) : ThV H (.int i) none
  | str (s : Str) : ThV H (.str s) none
  | lst {a : Addr} {xs : List V} (h : H a = some (.lst xs)) : ThV H (.ref a) none
  | tup {a : Addr} {xs : List V} (h : H a = some (.tup xs)) (k : ∀ x ∈ xs, Kd H x) (z : xs.length ≤ 40) : ThV H (.ref a) (some xs)
def ThP : V → Hp → Prop := fun v H => ∃ o, ThV H v o
theorem ThV.mono {H H' : Hp} {v : V} {o : Option (List V)} (e : Ex H H') (h : ThV H v o) : ThV H' v o := by
  cases h with
  | non => exact .non
  | bl b => exact .bl b
  | int i => exact .int i
  | str s => exact .str s
  | lst h => exact .lst (e _ _ h)
  | tup h k z => exact .tup (e _ _ h) (fun x hx => (k x hx).mono e) z
theorem ThP.mono {H H' : Hp} {v : V} (e : Ex H H') : ThP v H → ThP v H' := fun ⟨o, h⟩ => ⟨o, h.mono e⟩
theorem ThP.kd {H : Hp} {v : V} : ThP v H → Kd H v := fun ⟨o, h⟩ => by
  cases h with
  | non => exact .non
  | bl b => exact .bl b
  | int i => exact .int i
  | str s => exact .str s
  | lst h => exact .lst h
  | tup h k z => exact .tup h
def AllTh (m : Nat) : List V → Hp → Prop := fun vs H => vs.length = m ∧ ∀ v ∈ vs, ThP v H
theorem AllTh.mono {H H' : Hp} {m : Nat} {vs : List V} (e : Ex H H') (h : AllTh m vs H) : AllTh m vs H' := ⟨h.1, fun v hv => (h.2 v hv).mono e⟩
def TupK (m : Nat) : V → Hp → Prop := fun v H => ∃ p xs, v = .ref p ∧ H p = some (.tup xs) ∧ (∀ x ∈ xs, Kd H x) ∧ xs.length ≤ m
section
variable {K : PySem.W.Frag} {σ : L2.St} {H H' : Hp} {ta tb tc te tx tl : TE} {t u : TT} {x y z v : V} {r : R2} {P R : V → Hp → Prop} {xs ys : List V} {D : Ends} {tu tw tz : TS} {m n : Nat}
theorem th_int {i : Int} (h : Ev te σ H (.int i)) : EvP te σ H ThP := ep_ev h fun _ _ => ⟨_, .int i⟩
theorem th_bl {b : Bool} (h : Ev te σ H (.bl b)) : EvP te σ H ThP := ep_ev h fun _ _ => ⟨_, .bl b⟩
theorem th_str {s : Str} (h : Ev te σ H (.str s)) : EvP te σ H ThP := ep_ev h fun _ _ => ⟨_, .str s⟩
theorem th_non (h : Ev te σ H .non) : EvP te σ H ThP := ep_ev h fun _ _ => ⟨_, .non⟩
theorem th_tup (h : EvW te σ H xs) (k : ∀ x ∈ xs, Kd H x) (hz : xs.length ≤ 40) : EvP te σ H ThP := fun H1 e Q q => h H1 e _ fun v H2 e2 hv => by
  obtain ⟨p, rfl, hp⟩ := hv
  exact q _ H2 e2 ⟨_, .tup hp (fun x hx => (k x hx).mono (e.trans e2)) hz⟩
theorem th_lst (h : EvL te σ H xs) : EvP te σ H ThP := fun H1 e Q q => h H1 e _ fun p H2 _ e2 hp => q _ H2 e2 ⟨_, .lst hp⟩
theorem ath_nil : EvAP tNil σ H (AllTh 0) := fun H1 _ _ q => q [] H1 (Ex.refl H1) ⟨rfl, fun _ h => nomatch h⟩
theorem ath_cons {tr : TA} (h : EvP te σ H ThP) (hr : EvAP tr σ H (AllTh m)) : EvAP (tCons te tr) σ H (AllTh (m + 1)) := fun H1 e Q q =>
  h H1 e _ fun v H2 e2 hv => hr H2 (e.trans e2) _ fun r H3 e3 hl => q (v :: r) H3 (e2.trans e3) ⟨by rw [List.length_cons, hl.1], fun w hw => by
    rcases List.mem_cons.mp hw with rfl | hw
    · exact hv.mono e3
    · exact hl.2 w hw⟩
theorem elp_ath {ts : TA} (h : EvAP ts σ H (AllTh m)) (hz : m ≤ 1000) : EvLP (tLst ts) σ H (AllTh m) := fun H1 e Q q =>
  h H1 e _ fun vs H2 e2 hv => ⟨sz_of (by rw [hv.1]; omega), fun p hp => q p vs _ (fresh_back e2 hp) (e2.trans (Ex.new hp)) upd_same (hv.mono (Ex.new hp))⟩
theorem q_asgLP {i : Nat} {S : List V → Hp → Prop} (h : EvLP te σ H S) (k : ∀ p acc H1, H p = none → Ex H H1 → H1 p = some (.lst acc) → S acc H1 → tz D (σ.set i (some (.ref p))) H1) : tSeq (tAsg te (gName i)) tz D σ H := h H (Ex.refl H) _ fun p acc H1 n e hp hs => k p acc H1 n e hp hs
theorem elp_cat {p : Addr} (ha : Ev ta σ H (.ref p)) (hp : H p = some (.lst xs)) (hx : AllTh m xs H) (hb : EvLP tb σ H (AllTh n)) (hz : m + n ≤ 1000) : EvLP (tOp rCat ta tb) σ H (AllTh (m + n)) := fun H1 e Q q =>
  ha H1 e _ fun H2 e2 => hb H2 (e.trans e2) _ fun p' acc H3 np e3 hp' hs => by
    have e03 := (e.trans e2).trans e3
    refine ⟨p, p', xs, acc, rfl, rfl, e03 p _ hp, hp', sz_of (by rw [hx.1, hs.1]; omega), fun l hl => q l _ _ (fresh_back (e2.trans e3) hl) ((e2.trans e3).trans (Ex.new hl)) upd_same ⟨by rw [List.length_append, hx.1, hs.1], fun v hv => ?_⟩⟩
    rcases List.mem_append.mp hv with hv | hv
    · exact ((hx.2 v hv).mono e03).mono (Ex.new hl)
    · exact (hs.2 v hv).mono (Ex.new hl)
theorem ep_ixTh {i : Int} (ha : EvLP ta σ H (AllTh m)) (hb : Ev tb σ H (.int i)) (h0 : 0 ≤ i) (h1 : i < (m : Int)) : EvP (tOp (rIxL K) ta tb) σ H ThP := fun H1 e Q q =>
  ha H1 e _ fun p acc H2 np e2 hp hs => hb H2 (e.trans e2) _ fun H3 e3 => by
    have hi : i.toNat < acc.length := by rw [hs.1]; omega
    refine ⟨p, acc, i, acc[i.toNat], rfl, rfl, sq_of (e3 p _ hp), ?_, q _ H3 (e2.trans e3) ((hs.2 _ (List.getElem_mem hi)).mono e3)⟩
    have h := atI_nat (xs := acc) (j := i.toNat) (List.getElem?_eq_getElem hi)
    rw [show ((i.toNat : Nat) : Int) = i by omega] at h
    exact h
theorem tk_w (h : EvW te σ H xs) (k : ∀ x ∈ xs, Kd H x) (hz : xs.length ≤ m) : EvP te σ H (TupK m) := fun H1 e Q q => h H1 e _ fun v H2 e2 hv => by
  obtain ⟨p, rfl, hp⟩ := hv
  exact q _ H2 e2 ⟨p, xs, rfl, hp, fun x hx => (k x hx).mono (e.trans e2), hz⟩
theorem TupK.mono (e : Ex H H') : TupK m v H → TupK m v H' := fun ⟨p, xs, h1, h2, h3, h4⟩ => ⟨p, xs, h1, e p _ h2, fun x hx => (h3 x hx).mono e, h4⟩
theorem tk_one (h : EvP te σ H ThP) : EvP (tTup (tCons te tNil)) σ H (TupK 1) := fun H1 e Q q => h H1 e _ fun v H2 e2 hv =>
  ⟨sz_of (by show 1 ≤ 100000; decide), fun p hp => q _ _ (e2.trans (Ex.new hp)) ⟨p, [v], rfl, upd_same, fun x hx => by
    rw [List.mem_singleton.mp hx]
    exact (hv.kd).mono (Ex.new hp), Nat.le_refl 1⟩⟩
theorem tk_cat (ha : EvP ta σ H (TupK m)) (hb : EvP tb σ H (TupK n)) (hz : m + n ≤ 1000) : EvP (tOp (rCatA K) ta tb) σ H (TupK (m + n)) := fun H1 e Q q =>
  ha H1 e _ fun v H2 e2 hv => hb H2 (e.trans e2) _ fun w H3 e3 hw => by
    obtain ⟨p, xs, rfl, hp, kx, zx⟩ := hv.mono e3
    obtain ⟨p', ys, rfl, hp', ky, zy⟩ := hw
    refine ⟨p, p', xs, ys, rfl, rfl, st_of hp, st_of hp', sz_of (by omega), fun h => ?_, fun _ h => ?_, fun _ _ l hn => ?_⟩
    · exact q _ H3 (e2.trans e3) ⟨p', ys, rfl, hp', ky, by omega⟩
    · exact q _ H3 (e2.trans e3) ⟨p, xs, rfl, hp, kx, by omega⟩
    · refine q _ _ ((e2.trans e3).trans (Ex.new hn)) ⟨l, xs ++ ys, rfl, upd_same, fun x hx => ?_, by rw [List.length_append]; omega⟩
      rcases List.mem_append.mp hx with hx | hx
      · exact (kx x hx).mono (Ex.new hn)
      · exact (ky x hx).mono (Ex.new hn)
theorem tk_th (h : EvP te σ H (TupK m)) (hz : m ≤ 40) : EvP te σ H ThP := h.imp fun v H1 _ ⟨p, xs, h1, h2, h3, h4⟩ => h1 ▸ ⟨_, .tup h2 h3 (by omega)⟩
theorem ew_rep {k : Nat} (ha : EvW ta σ H xs) (hb : Ev tb σ H (.int (k : Int))) (hx : xs ≠ []) (hk : 1 ≤ k ∧ k ≤ 1000) (hl : xs.length ≤ 1000) : EvW (tOp (rRep1 K) ta tb) σ H (List.replicate k xs).flatten := fun H1 e Q q =>
  ha H1 e _ fun v H2 e2 hv => hb H2 (e.trans e2) _ fun H3 e3 => by
    obtain ⟨p, rfl, hp⟩ := hv
    refine ⟨p, (k : Int), xs, rfl, rfl, st_of (e3 p _ hp), hx, by omega, by omega, hl, fun h1 => q _ H3 (e2.trans e3) ⟨p, rfl, ?_⟩, fun _ l hn => q _ _ ((e2.trans e3).trans (Ex.new hn)) ⟨l, rfl, upd_same⟩⟩
    obtain rfl : k = 1 := by omega
    rw [List.replicate_one, List.flatten_cons, List.flatten_nil, List.append_nil]
    exact e3 p _ hp
theorem cutV_mem {lo hi : Option Int} (h : x ∈ cutV xs lo hi) : x ∈ xs := List.mem_of_mem_drop (List.mem_of_mem_take h)
theorem ev_all {bs : List Bool} (h : EvL te σ H (bs.map V.bl)) : Ev (tCB (rAll K) (tCons te tNil)) σ H (.bl (bs.all id)) := fun H1 e Q q =>
  h H1 e _ fun p H2 _ e2 hp => ⟨p, bs, rfl, sq_of hp, q H2 e2⟩
theorem ev_any {bs : List Bool} (h : EvL te σ H (bs.map V.bl)) : Ev (tCB (rAny K) (tCons te tNil)) σ H (.bl (bs.any id)) := fun H1 e Q q =>
  h H1 e _ fun p H2 _ e2 hp => ⟨p, bs, rfl, sq_of hp, q H2 e2⟩
/-- all of a tuple's parts, any of them -/
theorem ev_allW {j : Nat} {vs : List Nat} (f : V → Bool) (h : EvW tl σ H xs) (hz : xs.length ≤ 40000) (hw : ∀ x, wipe ((wipe σ vs).set j (some x)) vs = wipe σ vs) (he : ∀ (x : V) H1, Ex H H1 → x ∈ xs → Ev te ((wipe σ vs).set j (some x)) H1 (.bl (f x))) :
    Ev (tCB (rAll K) (tCons (tLc (iTup K tl) (gName j) tYes te vs) tNil)) σ H (.bl (xs.all f)) := by
  have h1 := el_lcW (K := K) (te := te) (t := tYes) (fun _ => true) (fun x => .bl (f x)) h hz hw (fun _ _ _ _ => et_yes) (fun x H1 e hx _ => he x H1 e hx)
  have h2 : ((xs.filter fun _ => true).map fun x => V.bl (f x)) = (xs.map f).map V.bl := by
    rw [List.filter_eq_self.mpr fun _ _ => rfl, List.map_map]
    rfl
  exact ev_is (ev_all (el_is h1 h2)) (by rw [List.all_map]; rfl)
theorem ev_anyW {j : Nat} {vs : List Nat} (f : V → Bool) (h : EvW tl σ H xs) (hz : xs.length ≤ 40000) (hw : ∀ x, wipe ((wipe σ vs).set j (some x)) vs = wipe σ vs) (he : ∀ (x : V) H1, Ex H H1 → x ∈ xs → Ev te ((wipe σ vs).set j (some x)) H1 (.bl (f x))) :
    Ev (tCB (rAny K) (tCons (tLc (iTup K tl) (gName j) tYes te vs) tNil)) σ H (.bl (xs.any f)) := by
  have h1 := el_lcW (K := K) (te := te) (t := tYes) (fun _ => true) (fun x => .bl (f x)) h hz hw (fun _ _ _ _ => et_yes) (fun x H1 e hx _ => he x H1 e hx)
  have h2 : ((xs.filter fun _ => true).map fun x => V.bl (f x)) = (xs.map f).map V.bl := by
    rw [List.filter_eq_self.mpr fun _ _ => rfl, List.map_map]
    rfl
  exact ev_is (ev_any (el_is h1 h2)) (by rw [List.any_map]; rfl)
/-- isinstance(x, tuple) -/
theorem ev_isTup {o : Option (List V)} (ho : ThV H x o) (h : Ev te σ H x) (hc : Ev tc σ H (.ty "tuple")) : Ev (tCB (rIsi K) (tCons te (tCons tc tNil))) σ H (.bl o.isSome) := by
  cases ho with
  | non => exact ev_isa (t := "NoneType") (b := false) h hc (fun _ _ => .base .non) (by decide +kernel)
  | bl b => exact ev_isa (t := "bool") (b := false) h hc (fun _ _ => .base (.bl b)) (by decide +kernel)
  | int i => exact ev_isa (t := "int") (b := false) h hc (fun _ _ => .base (.int i)) (by decide +kernel)
  | str s => exact ev_isa (t := "str") (b := false) h hc (fun _ _ => .base (.str s)) (by decide +kernel)
  | lst hl => exact ev_isa (t := "list") (b := false) h hc (fun _ e => .base (.lst (e _ _ hl))) (by decide +kernel)
  | tup ht k z => exact ev_isa (t := "tuple") (b := true) h hc (fun _ e => .base (.tup (e _ _ ht))) (by decide +kernel)
/-- a new list compared with the empty one -/
theorem ev_eqNil (ha : EvL ta σ H xs) (hb : EvL tb σ H []) : Ev (tOp (rEqNil K) ta tb) σ H (.bl xs.isEmpty) := ev_opLL ha hb fun p q H1 hp hq e H2 e2 Q k => ⟨p, q, xs, rfl, rfl, sq_of (e2 p _ hp), sq_of (e2 q _ hq), k H2 (Ex.refl H2)⟩
end
/-! ### what the functions say of a thing -/
def areB (o : Option (List V)) (lo hi : Int) : Bool := match o with
  | none => false
  | some xs => xs.all fun x => isNum x lo hi
def lenIn (o : Option (List V)) (lo hi : Int) : Bool := match o with
  | none => false
  | some xs => decide (lo ≤ (xs.length : Int)) && decide ((xs.length : Int) ≤ hi)
def lenIs (o : Option (List V)) (m : Int) : Bool := match o with
  | none => false
  | some xs => decide ((xs.length : Int) = m)
def notAll0 (o : Option (List V)) : Bool := match o with
  | none => false
  | some xs => xs.any fun x => !decide (x = .int 0)
def spOdd : Sp := fun ws H Q _ => ∃ n : Int, ws = [.int n] ∧ RetP ThP H Q
theorem sv_odd {H : Hp} (n : Int) : SpP spOdd [.int n] H ThP := fun H1 e Q q E => ⟨n, rfl, q⟩
structure Th8 (H : Hp) (p : Addr) (xs : List V) : Prop where
  here : H p = some (.tup xs)
  kd : ∀ x ∈ xs, Kd H x
  pos : 0 < xs.length
  len : xs.length ≤ 8
theorem Th8.mono {H H' : Hp} {p : Addr} {xs : List V} (h : Th8 H p xs) (e : Ex H H') : Th8 H' p xs := ⟨e p _ h.here, fun x hx => (h.kd x hx).mono e, h.pos, h.len⟩
def spSpoilt : Sp := fun ws H Q _ => ∃ (p : Addr) (xs : List V) (n : Int), ws = [.ref p, .int n] ∧ Th8 H p xs ∧ RetP ThP H Q
theorem sv_spoilt {H : Hp} {p : Addr} {xs : List V} (n : Int) (h : Th8 H p xs) : SpP spSpoilt [.ref p, .int n] H ThP := fun H1 e Q q E => ⟨p, xs, n, rfl, h.mono e, q⟩
def spAre : Sp := fun ws H Q _ => ∃ (x : V) (o : Option (List V)) (lo hi : Int), ws = [x, .int lo, .int hi] ∧ ThV H x o ∧ RetV (.bl (areB o lo hi)) H Q
theorem sv_are {H : Hp} {x : V} {o : Option (List V)} {lo hi : Int} (h : ThV H x o) : SpV spAre [x, .int lo, .int hi] H (.bl (areB o lo hi)) := fun H1 e Q q E => ⟨x, o, lo, hi, rfl, h.mono e, q⟩
def spSame : Sp := fun ws H Q _ => ∃ a b : Bool, ws = [.bl a, .bl b] ∧ RetV (.bl (decide (a = b))) H Q
theorem sv_same {H : Hp} {a b : Bool} : SpV spSame [.bl a, .bl b] H (.bl (decide (a = b))) := fun H1 e Q q E => ⟨a, b, rfl, q⟩
def spAreVotes : Sp := fun ws H Q _ => ∃ (x : V) (o : Option (List V)), ws = [x] ∧ ThV H x o ∧ RetV (.bl (lenIn o 1 8 && (areB o 0 1000000 && notAll0 o))) H Q
theorem sv_areVotes {H : Hp} {x : V} {o : Option (List V)} (h : ThV H x o) : SpV spAreVotes [x] H (.bl (lenIn o 1 8 && (areB o 0 1000000 && notAll0 o))) := fun H1 e Q q E => ⟨x, o, rfl, h.mono e, q⟩
def spIsScale : Sp := fun ws H Q _ => ∃ (x : V) (o : Option (List V)), ws = [x] ∧ ThV H x o ∧ RetV (.bl (lenIs o 2 && areB o 1 10)) H Q
theorem sv_isScale {H : Hp} {x : V} {o : Option (List V)} (h : ThV H x o) : SpV spIsScale [x] H (.bl (lenIs o 2 && areB o 1 10)) := fun H1 e Q q E => ⟨x, o, rfl, h.mono e, q⟩
def spAreGiven : Sp := fun ws H Q _ => ∃ (x : V) (o : Option (List V)) (p : Addr) (ys : List V), ws = [x, .ref p] ∧ ThV H x o ∧ H p = some (.tup ys) ∧ RetV (.bl (lenIs o ys.length && areB o 0 60)) H Q
theorem sv_areGiven {H : Hp} {x : V} {o : Option (List V)} {p : Addr} {ys : List V} (h : ThV H x o) (hp : H p = some (.tup ys)) : SpV spAreGiven [x, .ref p] H (.bl (lenIs o ys.length && areB o 0 60)) := fun H1 e Q q E => ⟨x, o, p, ys, rfl, h.mono e, e p _ hp, q⟩
theorem ThV.of {H : Hp} {x : V} {xs : List V} (h : ThV H x (some xs)) : ∃ a, x = .ref a ∧ H a = some (.tup xs) ∧ (∀ y ∈ xs, Kd H y) ∧ xs.length ≤ 40 := by
  cases h with
  | tup h k z => exact ⟨_, rfl, h, k, z⟩
/-- whole numbers, none below 0 -/
theorem nums_of {hi : Int} : ∀ {xs : List V}, areB (some xs) 0 hi = true → ∃ ns : List Int, xs = iv ns ∧ ∀ i ∈ ns, 0 ≤ i
  | [], _ => ⟨[], rfl, fun _ h => nomatch h⟩
  | x :: xs, h => by
    have h' : (isNum x 0 hi && xs.all fun x => isNum x 0 hi) = true := h
    obtain ⟨h1, h2⟩ := (Bool.and_eq_true _ _).mp h'
    obtain ⟨ns, rfl, hn⟩ := nums_of (xs := xs) h2
    cases x with
    | int i =>
      have h3 : (decide (0 ≤ i) && decide (i ≤ hi)) = true := h1
      refine ⟨i :: ns, rfl, fun j hj => ?_⟩
      rcases List.mem_cons.mp hj with rfl | hj
      · exact of_decide_eq_true ((Bool.and_eq_true _ _).mp h3).1
      · exact hn j hj
    | _ => cases h1
theorem sum_pos : ∀ {ns : List Int}, (∀ i ∈ ns, 0 ≤ i) → 0 ≤ ns.sum ∧ decide (0 < ns.sum) = notAll0 (some (iv ns))
  | [], _ => ⟨by decide, rfl⟩
  | i :: ns, h => by
    obtain ⟨h1, h2⟩ := sum_pos (ns := ns) fun j hj => h j (List.mem_cons_of_mem _ hj)
    have h0 := h i (List.mem_cons_self ..)
    have e : notAll0 (some (iv (i :: ns))) = (!decide (V.int i = .int 0) || notAll0 (some (iv ns))) := rfl
    rw [e, ← h2, List.sum_cons, dec_eq_int]
    refine ⟨by omega, ?_⟩
    by_cases hi : i = 0
    · subst hi
      rw [Int.zero_add]
      rfl
    · rw [decide_eq_true (show 0 < i + ns.sum by omega), decide_eq_false hi]
      rfl
section
variable {K : PySem.W.Frag} {σ : L2.St} {H H' : Hp} {ta tb tc te tx tl : TE} {x y z v : V} {xs ys : List V}
theorem th_t0 : EvP (tTup tNil) σ H ThP := th_tup (xs := []) (ew_tup ea_nil (Nat.zero_le _)) (fun _ h => nomatch h) (Nat.zero_le _)
theorem th_t1 (ha : Ev ta σ H x) (kx : ∀ H, Kd H x) : EvP (tTup (tCons ta tNil)) σ H ThP := th_tup (xs := [x]) (ew_tup (ea_cons ha ea_nil) (by show 1 ≤ 100000; decide)) (fun w hw => by rw [List.mem_singleton.mp hw]; exact kx H) (by show 1 ≤ 40; decide)
theorem th_t2 (ha : Ev ta σ H x) (hb : Ev tb σ H y) (kx : ∀ H, Kd H x) (ky : ∀ H, Kd H y) : EvP (tTup (tCons ta (tCons tb tNil))) σ H ThP := th_tup (xs := [x, y]) (ew_tup (ea_cons ha (ea_cons hb ea_nil)) (by show 2 ≤ 100000; decide)) (fun w hw => by
  rcases List.mem_cons.mp hw with rfl | hw
  · exact kx H
  · rw [List.mem_singleton.mp hw]
    exact ky H) (by show 2 ≤ 40; decide)
theorem th_t3 (ha : Ev ta σ H x) (hb : Ev tb σ H y) (hc : Ev tc σ H z) (kx : ∀ H, Kd H x) (ky : ∀ H, Kd H y) (kz : ∀ H, Kd H z) : EvP (tTup (tCons ta (tCons tb (tCons tc tNil)))) σ H ThP := th_tup (xs := [x, y, z]) (ew_tup (ea_cons ha (ea_cons hb (ea_cons hc ea_nil))) (by show 3 ≤ 100000; decide)) (fun w hw => by
  rcases List.mem_cons.mp hw with rfl | hw
  · exact kx H
  · rcases List.mem_cons.mp hw with rfl | hw
    · exact ky H
    · rw [List.mem_singleton.mp hw]
      exact kz H) (by show 3 ≤ 40; decide)
end
theorem dec_eq_bl (a b : Bool) : decide (V.bl a = V.bl b) = decide (a = b) := by
  by_cases h : a = b
  · rw [h, decide_eq_true rfl, decide_eq_true rfl]
  · rw [decide_eq_false h, decide_eq_false fun e => h (V.bl.inj e)]
theorem filt_nil (f : V → Bool) : ∀ xs : List V, ((xs.filter fun x => !f x).map fun x => x).isEmpty = xs.all f
  | [] => rfl
  | x :: xs => by
    rw [List.all_cons, ← filt_nil f xs, List.filter_cons]
    cases f x with
    | true => rfl
    | false => rfl
theorem flat_kd {H : Hp} {k : Nat} {xs : List V} (h : ∀ x ∈ xs, Kd H x) : ∀ x ∈ (List.replicate k xs).flatten, Kd H x := fun x hx => by
  obtain ⟨l, h1, h2⟩ := List.mem_flatten.mp hx
  rw [List.eq_of_mem_replicate h1] at h2
  exact h x h2
theorem flat_len (k : Nat) (xs : List V) : (List.replicate k xs).flatten.length = k * xs.length := PyProof.Rows.lm_len_rep_flat _ _
theorem all3 (a b c : Bool) : (!decide ((b && (a && c)) = (a && b && c))) = false := by cases a <;> cases b <;> cases c <;> rfl
theorem all2 (a b : Bool) : decide ((b && a) = (a && b)) = true := by cases a <;> cases b <;> rfl
theorem all2n (a b : Bool) : (!decide ((b && a) = (a && b))) = false := by rw [all2]; rfl
end Bk

namespace Bk
open PySem PySem.Spec PyProof.Rows L2 Evl
def topS (i : Nat) : Stmt := PySem.Challenge.pw_benchdeal_k01_things.main.body.getD i (.Pass ⟨0, 0, 0, 0⟩)
abbrev s_is_number : Stmt := topS 5
abbrev N_is_number : List Str := ["thing", "low", "high"]
theorem sc_is_number : FnScope ["thing", "low", "high"] ["thing", "low", "high"] (defScope s_is_number) := ⟨rfl, rfl, rfl, by decide +kernel, rfl, by decide +kernel, by decide +kernel⟩
abbrev s_are_votes : Stmt := topS 6
abbrev N_are_votes : List Str := ["thing", "part"]
theorem sc_are_votes : FnScope ["thing", "part"] ["thing"] (defScope s_are_votes) := ⟨rfl, rfl, rfl, by decide +kernel, rfl, by decide +kernel, by decide +kernel⟩
abbrev s_is_scale : Stmt := topS 7
abbrev N_is_scale : List Str := ["thing", "part"]
theorem sc_is_scale : FnScope ["thing", "part"] ["thing"] (defScope s_is_scale) := ⟨rfl, rfl, rfl, by decide +kernel, rfl, by decide +kernel, by decide +kernel⟩
abbrev s_are_given : Stmt := topS 8
abbrev N_are_given : List Str := ["thing", "votes", "part"]
theorem sc_are_given : FnScope ["thing", "votes", "part"] ["thing", "votes"] (defScope s_are_given) := ⟨rfl, rfl, rfl, by decide +kernel, rfl, by decide +kernel, by decide +kernel⟩
abbrev s__law_cell_at : Stmt := topS 10
abbrev N__law_cell_at : List Str := ["_law_script", "_law_k"]
theorem sc__law_cell_at : FnScope ["_law_script", "_law_k"] ["_law_script", "_law_k"] (defScope s__law_cell_at) := ⟨rfl, rfl, rfl, by decide +kernel, rfl, by decide +kernel, by decide +kernel⟩
abbrev s__law_mixed : Stmt := topS 11
abbrev N__law_mixed : List Str := ["_law_script", "_law_k", "_law_drawn_here"]
theorem sc__law_mixed : FnScope ["_law_script", "_law_k", "_law_drawn_here"] ["_law_script", "_law_k"] (defScope s__law_mixed) := ⟨rfl, rfl, rfl, by decide +kernel, rfl, by decide +kernel, by decide +kernel⟩
abbrev s__law_drawn : Stmt := topS 12
abbrev N__law_drawn : List Str := ["_law_number_here", "_law_k", "_law_drawn_here"]
theorem sc__law_drawn : FnScope ["_law_number_here", "_law_k", "_law_drawn_here"] ["_law_number_here", "_law_k"] (defScope s__law_drawn) := ⟨rfl, rfl, rfl, by decide +kernel, rfl, by decide +kernel, by decide +kernel⟩
abbrev s__law_number : Stmt := topS 13
abbrev N__law_number : List Str := ["_law_thing", "_law_low", "_law_high"]
theorem sc__law_number : FnScope ["_law_thing", "_law_low", "_law_high"] ["_law_thing", "_law_low", "_law_high"] (defScope s__law_number) := ⟨rfl, rfl, rfl, by decide +kernel, rfl, by decide +kernel, by decide +kernel⟩
abbrev s__law_votes : Stmt := topS 14
abbrev N__law_votes : List Str := ["_law_number_here", "_law_most", "_law_high", "_law_found", "_law_k"]
theorem sc__law_votes : FnScope ["_law_number_here", "_law_most", "_law_high", "_law_found", "_law_k"] ["_law_number_here", "_law_most"] (defScope s__law_votes) := ⟨rfl, rfl, rfl, by decide +kernel, rfl, by decide +kernel, by decide +kernel⟩
abbrev s__law_scale : Stmt := topS 15
abbrev N__law_scale : List Str := ["_law_number_here"]
theorem sc__law_scale : FnScope ["_law_number_here"] ["_law_number_here"] (defScope s__law_scale) := ⟨rfl, rfl, rfl, by decide +kernel, rfl, by decide +kernel, by decide +kernel⟩
abbrev s__law_mark : Stmt := topS 16
abbrev N__law_mark : List Str := ["_law_scale_here", "_law_k"]
theorem sc__law_mark : FnScope ["_law_scale_here", "_law_k"] ["_law_scale_here", "_law_k"] (defScope s__law_mark) := ⟨rfl, rfl, rfl, by decide +kernel, rfl, by decide +kernel, by decide +kernel⟩
abbrev s__law_next : Stmt := topS 17
abbrev N__law_next : List Str := ["_law_votes_here", "_law_given", "_law_scale_here", "_law_best", "_law_one"]
theorem sc__law_next : FnScope ["_law_votes_here", "_law_given", "_law_scale_here", "_law_best", "_law_one"] ["_law_votes_here", "_law_given", "_law_scale_here"] (defScope s__law_next) := ⟨rfl, rfl, rfl, by decide +kernel, rfl, by decide +kernel, by decide +kernel⟩
abbrev s__law_dealt : Stmt := topS 18
abbrev N__law_dealt : List Str := ["_law_votes_here", "_law_seats", "_law_scale_here", "_law_given", "_law_seat", "_law_one"]
theorem sc__law_dealt : FnScope ["_law_votes_here", "_law_seats", "_law_scale_here", "_law_given", "_law_seat", "_law_one"] ["_law_votes_here", "_law_seats", "_law_scale_here"] (defScope s__law_dealt) := ⟨rfl, rfl, rfl, by decide +kernel, rfl, by decide +kernel, by decide +kernel⟩
abbrev s__law_odd : Stmt := topS 19
abbrev N__law_odd : List Str := ["_law_number_here", "_law_some"]
theorem sc__law_odd : FnScope ["_law_number_here", "_law_some"] ["_law_number_here"] (defScope s__law_odd) := ⟨rfl, rfl, rfl, by decide +kernel, rfl, by decide +kernel, by decide +kernel⟩
abbrev s__law_spoilt : Stmt := topS 20
abbrev N__law_spoilt : List Str := ["_law_thing", "_law_number_here", "_law_kind", "_law_at"]
theorem sc__law_spoilt : FnScope ["_law_thing", "_law_number_here", "_law_kind", "_law_at"] ["_law_thing", "_law_number_here"] (defScope s__law_spoilt) := ⟨rfl, rfl, rfl, by decide +kernel, rfl, by decide +kernel, by decide +kernel⟩
abbrev s__law_maybe : Stmt := topS 21
abbrev N__law_maybe : List Str := ["_law_thing", "_law_number_here"]
theorem sc__law_maybe : FnScope ["_law_thing", "_law_number_here"] ["_law_thing", "_law_number_here"] (defScope s__law_maybe) := ⟨rfl, rfl, rfl, by decide +kernel, rfl, by decide +kernel, by decide +kernel⟩
abbrev s__law_are : Stmt := topS 22
abbrev N__law_are : List Str := ["_law_thing", "_law_low", "_law_high", "_law_part"]
theorem sc__law_are : FnScope ["_law_thing", "_law_low", "_law_high", "_law_part"] ["_law_thing", "_law_low", "_law_high"] (defScope s__law_are) := ⟨rfl, rfl, rfl, by decide +kernel, rfl, by decide +kernel, by decide +kernel⟩
abbrev s__law_same : Stmt := topS 23
abbrev N__law_same : List Str := ["_law_found", "_law_due"]
theorem sc__law_same : FnScope ["_law_found", "_law_due"] ["_law_found", "_law_due"] (defScope s__law_same) := ⟨rfl, rfl, rfl, by decide +kernel, rfl, by decide +kernel, by decide +kernel⟩
abbrev s_law : Stmt := topS 24
abbrev N_law : List Str := ["_law_script", "_law_votes_here", "_law_scale_here", "_law_seats", "_law_some", "_law_due", "_law_thing", "_law_given"]
theorem sc_law : FnScope ["_law_script", "_law_votes_here", "_law_scale_here", "_law_seats", "_law_some", "_law_due", "_law_thing", "_law_given"] ["_law_script"] (defScope s_law) := ⟨rfl, rfl, rfl, by decide +kernel, rfl, by decide +kernel, by decide +kernel⟩
structure Cst (mg : Str → Option Value) : Prop where
  g_MOST_LISTS : ∃ u : Tok, mg "MOST_LISTS" = some (.int 8 u)
  g_MOST_MARK : ∃ u : Tok, mg "MOST_MARK" = some (.int 10 u)
  g_MOST_SEATS : ∃ u : Tok, mg "MOST_SEATS" = some (.int 60 u)
  g_MOST_VOTES : ∃ u : Tok, mg "MOST_VOTES" = some (.int 1000000 u)
section
variable {P : Program} {w : World} {K : PySem.W.Frag} {mg : Str → Option Value} {base : Heap}
theorem cal__law_drawn {f : Addr} {fd : FuncData} (F : Fun K "_law_drawn" "_law_drawn" s__law_drawn f fd) (hm : mg "_law_drawn" = some (.ref f)) (bb : Binds K fd ["_law_number_here", "_law_k"] []) (B : Blt mg)  : Cal P w K mg base 1 "_law_drawn" spDrawn := by
  refine ⟨f, fd, ["_law_number_here", "_law_k"], F.ok sc__law_drawn (fun vs H Q E h => ?_) (fun cdv A outer s H vs Q E hr h => ?_), hm, F.kp, bb⟩
  · obtain ⟨n, k, rfl, q⟩ := h
    rfl
  · obtain ⟨n, k, rfl, q⟩ := h
    refine ⟨_, (pss_cons (ps_set (i := 2) sc__law_drawn.nd rfl (Or.inl rfl) (pe_op op_mod (pe_op op_mul (pe_op op_add (pe_op op_add (pv 0) (pe_op op_mul pe_int (pv 1))) pe_int) pe_int) pe_int))
        (pss_one (ps_ret (pe_op op_mod (pe_op op_add (pe_op op_add (pe_op op_mul (pv 2) (pv 2)) (pe_op op_mul pe_int (pv 2))) (pv 1)) pe_int)))), ?_⟩
    refine q_asg (ev_op (ev_op (ev_op (ev_op (ev_var rfl) (ev_op ev_c (ev_var rfl) (rv_I (.inl ⟨by decide, by decide⟩))) rv_I0) ev_c rv_I0) ev_c (rv_I (.inr ⟨by decide, by decide⟩))) ev_c (rv_I (by decide))) fun H1 e1 => ?_
    have b1 : 0 ≤ (n + 104729 * (k : Int) + 17) * 69621 % 2147483647 := Int.emod_nonneg _ (by decide)
    have b2 : (n + 104729 * (k : Int) + 17) * 69621 % 2147483647 < 2147483647 := Int.emod_lt_of_pos _ (by decide)
    refine s_ret (ev_op (ev_op (ev_op (ev_op (ev_var rfl) (ev_var rfl) (rv_I (.inl ⟨by omega, by omega⟩))) (ev_op ev_c (ev_var rfl) (rv_I (.inl ⟨by decide, by decide⟩))) rv_I0) (ev_var rfl) rv_I0) ev_c (rv_I (by decide))) fun H2 e2 => ?_
    exact q H2 (e1.trans e2)
theorem cal__law_votes {f : Addr} {fd : FuncData} (F : Fun K "_law_votes" "_law_votes" s__law_votes f fd) (hm : mg "_law_votes" = some (.ref f)) (bb : Binds K fd ["_law_number_here", "_law_most"] []) (B : Blt mg) (C__law_drawn : Cal P w K mg base 1 "_law_drawn" spDrawn) : Cal P w K mg base 2 "_law_votes" spVotes := by
  refine ⟨f, fd, ["_law_number_here", "_law_most"], F.ok sc__law_votes (fun vs H Q E h => ?_) (fun cdv A outer s H vs Q E hr h => ?_), hm, F.kp, bb⟩
  · obtain ⟨n, most, rfl, hm, q⟩ := h
    rfl
  · obtain ⟨n, most, rfl, hm, q⟩ := h
    refine ⟨_, (pss_cons (ps_set (i := 2) sc__law_votes.nd rfl (Or.inr rfl) (pe_ix (ix_tupK (K := K) rfl) (pe_tup (pa_cons pe_int (pa_cons pe_int (pa_cons pe_int (pa_cons (pe_op op_add (pv 1) pe_int) pa_nil))))) (pe_op op_mod (pe_op op_fdiv (pv 0) pe_int) pe_int) (fun _ _ => rfl)))
        (pss_cons (ps_setLc (i := 3) (own := [("_law_k", 4)]) (g := gName 4) (tt := tYes) rfl sc__law_votes.nd rfl rfl (sw_true rfl rfl rfl (by decide +kernel)) (pi_range1 (by rfl) B.range (pa_cons (pe_op op_add pe_int (pe_op op_mod (pv 0) pe_int)) pa_nil)) (blkOk_by (own := [("_law_k", 4)]) (N := N__law_votes) (sc := defScope s__law_votes) (by decide +kernel)) (fun _ _ _ _ _ => (pg_name (i := 4) sc__law_votes.nd rfl (Or.inl rfl))) (fun _ _ _ _ _ => pts_nil) (fun _ _ _ _ _ => (pe_op op_mod (pe_op op_fdiv (pe_k C__law_drawn hr (by decide) (by rfl) (pa_cons (pv 0) (pa_cons (pv 4) pa_nil))) pe_int) (pv 2))))
        (pss_cons (ps_if (pt_cmpR op_eq (pe_callB (cr_sumK (K := K) rfl rfl) (by rfl) B.sum (by decide +kernel) (pa_cons (pv 3) pa_nil)) pe_int (nomark _)) (pss_one (ps_asg pe_int (pg_sub (pv 3) pe_int set_list))) pss_nil)
        (pss_one (ps_ret (pe_callTy (call_tupleK (K := K) rfl) (by rfl) B.tuple (by decide +kernel) (pa_cons (pv 3) pa_nil))))))), ?_⟩
    have mb := Bd.manyOf_bd n
    have hb := Bd.highOf_bd (n := n) hm
    have h3 : 0 ≤ n / 8 % 4 ∧ n / 8 % 4 < 4 := ⟨Int.emod_nonneg _ (by decide), Int.emod_lt_of_pos _ (by decide)⟩
    have hat : atI [V.int 3, .int 20, .int 1000, .int (most + 1)] (n / 8 % 4) = some (.int (Bd.highOf n most)) := by
      have e : [V.int 3, .int 20, .int 1000, .int (most + 1)] = iv [3, 20, 1000, most + 1] := rfl
      have z := iv_at (vs := [3, 20, 1000, most + 1]) (i := (n / 8 % 4).toNat) (by show _ < 4; omega)
      rw [show (((n / 8 % 4).toNat : Nat) : Int) = n / 8 % 4 by omega] at z
      rw [e]
      exact z
    refine q_asg (ev_ixW (ew_tup (ea_cons ev_c (ea_cons ev_c (ea_cons ev_c (ea_cons (ev_op (ev_var rfl) ev_c rv_I0) ea_nil)))) (by show 4 ≤ 100000; decide)) (ev_op (ev_op (ev_var rfl) ev_c (rv_I ⟨by decide, by decide⟩)) ev_c (rv_I (by decide))) hat) fun H1 e1 => ?_
    refine q_asgL (el_lcR (n := Bd.manyOf n) (fun k => .int (Bd.drawn n k / 8 % Bd.highOf n most)) (ea_cons (ev_is (ev_op ev_c (ev_op (ev_var rfl) ev_c (rv_I (by decide))) rv_I0) (by rw [mb.2.2])) ea_nil) (by omega) (fun _ => rfl) fun k H2 e2 hk => ev_op (ev_op (ev_call0 (ea_cons (ev_var rfl) (ea_cons (ev_var rfl) ea_nil)) (sv_drawn n k)) ev_c (rv_I ⟨by decide, by decide⟩)) (ev_var rfl) (rv_I (show (0 : Int) < Bd.highOf n most by omega))) fun f H2 nf e2 hf => ?_
    have er : ((List.range (Bd.manyOf n)).map fun k => V.int (Bd.drawn n k / 8 % Bd.highOf n most)) = iv (Bd.rawVotes n most) := by
      unfold iv Bd.rawVotes
      rw [List.map_map]
      rfl
    rw [er] at hf
    have rl := Bd.rawVotes_len n most
    refine q_when (et_is (et_test (ev_op (ev_sumL (ev_var rfl) hf) ev_c (rv_eq rfl))) (dec_eq_int _ _)) (fun hc H3 e3 => ?_) (fun hc H3 e3 => ?_)
    · have hc' := of_decide_eq_true hc
      refine s_setL (j := 0) (e3 f _ hf) ev_c (ev_var rfl) ev_c (by rw [iv_len]; omega) fun H4 e4 => ?_
      refine s_retW (ew_tuple (xs := iv (Bd.votesOf n most)) (ev_var rfl) (sq_of ?_)) fun t H5 e5 ht => ?_
      · rw [upd_same]
        unfold Bd.votesOf
        rw [if_pos hc']
        unfold iv
        rw [List.map_set]
      · exact q _ H5 ((((e1.trans e2).trans (e3.trans e4)).mut (fresh_back e1 nf)).trans e5) ⟨t, rfl, ht⟩
    · have hc' := of_decide_eq_false hc
      refine s_retW (ew_tuple (xs := iv (Bd.votesOf n most)) (ev_var rfl) (sq_of ?_)) fun t H5 e5 ht => ?_
      · unfold Bd.votesOf
        rw [if_neg hc']
        exact e3 f _ hf
      · exact q _ H5 (((e1.trans e2).trans e3).trans e5) ⟨t, rfl, ht⟩
theorem cal__law_scale {f : Addr} {fd : FuncData} (F : Fun K "_law_scale" "_law_scale" s__law_scale f fd) (hm : mg "_law_scale" = some (.ref f)) (bb : Binds K fd ["_law_number_here"] []) (B : Blt mg)  : Cal P w K mg base 1 "_law_scale" spScale := by
  refine ⟨f, fd, ["_law_number_here"], F.ok sc__law_scale (fun vs H Q E h => ?_) (fun cdv A outer s H vs Q E hr h => ?_), hm, F.kp, bb⟩
  · obtain ⟨n, rfl, q⟩ := h
    rfl
  · obtain ⟨n, rfl, q⟩ := h
    refine ⟨_, (pss_one (ps_ret (pe_ix (ix_listK (K := K) rfl) (pe_lst (pa_cons (pe_tup (pa_cons pe_int (pa_cons pe_int pa_nil))) (pa_cons (pe_tup (pa_cons pe_int (pa_cons pe_int pa_nil))) (pa_cons (pe_tup (pa_cons pe_int (pa_cons pe_int pa_nil))) (pa_cons (pe_tup (pa_cons (pe_op op_add pe_int (pe_op op_mod (pe_op op_fdiv (pv 0) pe_int) pe_int)) (pa_cons (pe_op op_add pe_int (pe_op op_mod (pe_op op_fdiv (pv 0) pe_int) pe_int)) pa_nil))) (pa_cons (pe_tup (pa_cons pe_int (pa_cons pe_int pa_nil))) pa_nil)))))) (pe_op op_mod (pv 0) pe_int) (fun _ _ => rfl)))), ?_⟩
    have h3 := Bd.five n
    have hx : [[V.int 1, .int 1], [.int 1, .int 2], [.int 2, .int 1], [.int (1 + n / 5 % 10), .int (1 + n / 50 % 10)], [.int 10, .int 10]][(n % 5).toNat]? = some [.int (Bd.scaleOf n).1, .int (Bd.scaleOf n).2] := by
      unfold Bd.scaleOf
      rcases h3 with e | e | e | e | e <;> rw [e] <;> rfl
    have md : Ev _ [some (.int n)] H (.int (((n % 5).toNat : Nat) : Int)) := ev_is (ev_op (ev_var (i := 0) rfl) (ev_c (v := .int 5)) (rv_I (C := fun _ j => 0 < j) (g := fun i j => .int (i % j)) (by decide))) (by show V.int (n % 5) = _; rw [show (((n % 5).toNat : Nat) : Int) = n % 5 by omega])
    refine s_retW (ew_menu (ets_cons (ew_pair ev_c ev_c) (ets_cons (ew_pair ev_c ev_c) (ets_cons (ew_pair ev_c ev_c) (ets_cons (ew_pair (ev_op ev_c (ev_op (ev_op (ev_var rfl) ev_c (rv_I ⟨by decide, by decide⟩)) ev_c (rv_I (by decide))) rv_I0) (ev_op ev_c (ev_op (ev_op (ev_var rfl) ev_c (rv_I ⟨by decide, by decide⟩)) ev_c (rv_I (by decide))) rv_I0)) (ets_cons (ew_pair ev_c ev_c) ets_nil))))) (by show 5 ≤ 1000; decide) md hx) fun t H1 e1 ht => ?_
    exact q _ H1 e1 ⟨t, rfl, ht⟩
theorem cal__law_odd {f : Addr} {fd : FuncData} (F : Fun K "_law_odd" "_law_odd" s__law_odd f fd) (hm : mg "_law_odd" = some (.ref f)) (bb : Binds K fd ["_law_number_here"] []) (B : Blt mg)  : Cal P w K mg base 1 "_law_odd" spOdd := by
  refine ⟨f, fd, ["_law_number_here"], F.ok sc__law_odd (fun vs H Q E h => ?_) (fun cdv A outer s H vs Q E hr h => ?_), hm, F.kp, bb⟩
  · obtain ⟨n, rfl, q⟩ := h
    rfl
  · obtain ⟨n, rfl, q⟩ := h
    refine ⟨_, (pss_cons (ps_set (i := 1) sc__law_odd.nd rfl (Or.inl rfl) (pe_lst (pa_cons (pe_un un_neg pe_int) (pa_cons pe_int (pa_cons pe_int (pa_cons pe_int (pa_cons pe_int (pa_cons pe_int (pa_cons pe_int (pa_cons pe_int (pa_cons pe_bl (pa_cons pe_bl (pa_cons pe_non (pa_cons pe_str (pa_cons pe_str (pa_cons (pe_tup pa_nil) (pa_cons (pe_lst pa_nil) (pa_cons (pe_tup (pa_cons pe_int pa_nil)) (pa_cons (pe_tup (pa_cons pe_int (pa_cons pe_int pa_nil))) (pa_cons (pe_tup (pa_cons pe_int (pa_cons pe_int pa_nil))) (pa_cons (pe_tup (pa_cons pe_int (pa_cons pe_int pa_nil))) pa_nil)))))))))))))))))))))
        (pss_one (ps_ret (pe_ix (ix_listK (K := K) rfl) (pe_op op_cat (pv 1) (pe_lst (pa_cons (pe_lst (pa_cons pe_int (pa_cons pe_int pa_nil))) (pa_cons (pe_tup (pa_cons pe_bl (pa_cons pe_int pa_nil))) (pa_cons (pe_tup (pa_cons pe_int pa_nil)) (pa_cons (pe_tup (pa_cons pe_int (pa_cons pe_int (pa_cons pe_int pa_nil)))) (pa_cons (pe_tup (pa_cons pe_non pa_nil)) (pa_cons (pe_tup (pa_cons pe_int (pa_cons pe_int pa_nil))) pa_nil)))))))) (pe_op op_mod (pv 0) pe_int) (fun _ _ => rfl))))), ?_⟩
    have kd : ∀ (i : Int) (H : Hp), Kd H (.int i) := fun i _ => .int i
    refine q_asgLP (elp_ath (m := 19) (ath_cons (th_int (ev_un ev_c ru_neg)) (ath_cons (th_int ev_c) (ath_cons (th_int ev_c) (ath_cons (th_int ev_c) (ath_cons (th_int ev_c) (ath_cons (th_int ev_c) (ath_cons (th_int ev_c) (ath_cons (th_int ev_c) (ath_cons (th_bl ev_c) (ath_cons (th_bl ev_c) (ath_cons (th_non ev_c) (ath_cons (th_str ev_c) (ath_cons (th_str ev_c)
      (ath_cons th_t0 (ath_cons (th_lst (el_lst ea_nil (Nat.zero_le _))) (ath_cons (th_t1 ev_c (kd _)) (ath_cons (th_t2 ev_c ev_c (kd _) (kd _)) (ath_cons (th_t2 ev_c ev_c (kd _) (kd _)) (ath_cons (th_t2 ev_c ev_c (kd _) (kd _)) ath_nil))))))))))))))))))) (by decide)) fun p acc H1 np e1 hp hs => ?_
    refine s_retP (ep_ixTh (m := 19 + 6) (elp_cat (ev_var rfl) hp hs (elp_ath (m := 6) (ath_cons (th_lst (el_lst (ea_cons ev_c (ea_cons ev_c ea_nil)) (by show 2 ≤ 100000; decide))) (ath_cons (th_t2 ev_c ev_c (fun _ => .bl _) (kd _)) (ath_cons (th_t1 ev_c (kd _)) (ath_cons (th_t3 ev_c ev_c ev_c (kd _) (kd _) (kd _)) (ath_cons (th_t1 ev_c (fun _ => .non))
      (ath_cons (th_t2 ev_c ev_c (kd _) (kd _)) ath_nil)))))) (by decide)) (by decide)) (ev_op (ev_var rfl) ev_c (rv_I (by decide))) (Int.emod_nonneg _ (by decide)) (Int.emod_lt_of_pos _ (by decide))) fun v H2 e2 h => ?_
    exact q v H2 (e1.trans e2) h
theorem cal__law_spoilt {f : Addr} {fd : FuncData} (F : Fun K "_law_spoilt" "_law_spoilt" s__law_spoilt f fd) (hm : mg "_law_spoilt" = some (.ref f)) (bb : Binds K fd ["_law_thing", "_law_number_here"] []) (B : Blt mg) (C__law_odd : Cal P w K mg base 1 "_law_odd" spOdd) : Cal P w K mg base 2 "_law_spoilt" spSpoilt := by
  refine ⟨f, fd, ["_law_thing", "_law_number_here"], F.ok sc__law_spoilt (fun vs H Q E h => ?_) (fun cdv A outer s H vs Q E hr h => ?_), hm, F.kp, bb⟩
  · obtain ⟨p, xs, n, rfl, T, q⟩ := h
    rfl
  · obtain ⟨p, xs, n, rfl, T, q⟩ := h
    refine ⟨_, (pss_cons (ps_set (i := 2) sc__law_spoilt.nd rfl (Or.inl rfl) (pe_op op_mod (pv 1) pe_int))
        (pss_cons (ps_if (PW.pt (pw_and (pt_cmpR op_lt (pv 2) pe_int (nomark _)) (pw_and1 (pt_cmpR op_gt (pe_callB (call_lenK (K := K) rfl) (by rfl) B.len PySem.boot_len (pa_cons (pv 0) pa_nil)) pe_int (nomark _))))) (pss_cons (ps_set (i := 3) sc__law_spoilt.nd rfl (Or.inl rfl) (pe_op op_mod (pe_op op_fdiv (pv 1) pe_int) (pe_callB (call_lenK (K := K) rfl) (by rfl) B.len PySem.boot_len (pa_cons (pv 0) pa_nil))))
        (pss_one (ps_ret (pe_op (op_catAK (K := K) rfl) (pe_op (op_catAK (K := K) rfl) (pe_slice (sl_tupAK (K := K) rfl) (pv 0) po_none (po_some (pv 3))) (pe_tup (pa_cons (pe_k C__law_odd hr (by decide) (by rfl) (pa_cons (pe_op op_fdiv (pv 1) pe_int) pa_nil)) pa_nil))) (pe_slice (sl_tupAK (K := K) rfl) (pv 0) (po_some (pe_op op_add (pv 3) pe_int)) po_none))))) pss_nil)
        (pss_cons (ps_if (pt_cmpR op_eq (pv 2) pe_int (nomark _)) (pss_one (ps_ret (pe_k C__law_odd hr (by decide) (by rfl) (pa_cons (pe_op op_fdiv (pv 1) pe_int) pa_nil)))) pss_nil)
        (pss_one (ps_ret (pe_ix (ix_listK (K := K) rfl) (pe_lst (pa_cons (pe_callTy (call_listK (K := K) rfl) (by rfl) B.list (by decide +kernel) (pa_cons (pv 0) pa_nil)) (pa_cons (pe_slice (sl_tupAK (K := K) rfl) (pv 0) po_none (po_some (pe_un un_neg pe_int))) (pa_cons (pe_op (op_rep1K (K := K) rfl) (pe_op (op_catAK (K := K) rfl) (pv 0) (pe_tup (pa_cons pe_int pa_nil))) pe_int) (pa_cons (pe_op (op_rep1K (K := K) rfl) (pe_tup (pa_cons pe_int pa_nil)) (pe_callB (call_lenK (K := K) rfl) (by rfl) B.len PySem.boot_len (pa_cons (pv 0) pa_nil))) pa_nil))))) (pe_op op_sub (pv 2) pe_int) (fun _ _ => rfl))))))), ?_⟩
    have xl := T.len
    have x0 := T.pos
    refine q_asg (ev_op (ev_var rfl) ev_c (rv_I (by decide))) fun H1 e1 => ?_
    have T1 := T.mono e1
    refine q_when (b := decide (n % 8 < 3)) (et_is (et_and (et_test (ev_op (ev_var rfl) ev_c rv_I0)) fun _ => et_test (ev_op (ev_lenW (ew_var rfl T1.here)) ev_c rv_I0)) (by rw [decide_eq_true (show (0 : Int) < (xs.length : Int) by omega), Bool.and_true])) (fun hc H2 e2 => ?_) (fun hc H2 e2 => ?_)
    · have T2 := T1.mono e2
      have m1 := Int.emod_nonneg (n / 8) (show (xs.length : Int) ≠ 0 by omega)
      have m2 := Int.emod_lt_of_pos (n / 8) (show (0 : Int) < (xs.length : Int) by omega)
      obtain ⟨k, hk, ek⟩ : ∃ k : Nat, k < xs.length ∧ n / 8 % (xs.length : Int) = (k : Int) := ⟨(n / 8 % (xs.length : Int)).toNat, by omega, by omega⟩
      refine q_asg (v := .int (k : Int)) (ev_is (ev_op (ev_op (ev_var rfl) ev_c (rv_I ⟨by decide, by decide⟩)) (ev_lenW (ew_var rfl T2.here)) (rv_I (show (0 : Int) < (xs.length : Int) by omega))) (by rw [ek])) fun H3 e3 => ?_
      have T3 := T2.mono e3
      refine s_retP (tk_th (m := 8 + 1 + 8) (tk_cat (tk_cat (m := 8) (n := 1) (tk_w (ew_to (ew_var rfl T3.here) (ev_var rfl)) (fun x hx => T3.kd x (List.mem_of_mem_take hx)) (by rw [List.length_take]; omega))
        (tk_one (ep_call (ea_cons (ev_op (ev_var rfl) ev_c (rv_I ⟨by decide, by decide⟩)) ea_nil) (sv_odd _))) (by decide))
        (tk_w (ew_from (n := k + 1) (ew_var rfl T3.here) (ev_op (ev_var rfl) ev_c rv_I0)) (fun x hx => T3.kd x (List.mem_of_mem_drop hx)) (by rw [List.length_drop]; omega)) (by decide)) (by decide)) fun v H4 e4 h => ?_
      exact q v H4 (((e1.trans e2).trans e3).trans e4) h
    · have T2 := T1.mono e2
      refine q_when (b := decide (n % 8 = 3)) (et_is (et_test (ev_op (ev_var rfl) ev_c (rv_eq rfl))) (dec_eq_int _ _)) (fun hd H3 e3 => ?_) (fun hd H3 e3 => ?_)
      · exact s_retP (ep_call (ea_cons (ev_op (ev_var rfl) ev_c (rv_I ⟨by decide, by decide⟩)) ea_nil) (sv_odd _)) fun v H4 e4 h => q v H4 (((e1.trans e2).trans e3).trans e4) h
      · have T3 := T2.mono e3
        have h3 : ¬ n % 8 < 3 := of_decide_eq_false hc
        have h4 : ¬ n % 8 = 3 := of_decide_eq_false hd
        have w3 := ew_var (σ := [some (.ref p), some (.int n), some (.int (n % 8)), none]) (i := 0) rfl T3.here
        have k1 : ∀ x ∈ xs ++ [V.int 1], Kd H3 x := fun x hx => by
          rcases List.mem_append.mp hx with hx | hx
          · exact T3.kd x hx
          · rw [List.mem_singleton.mp hx]
            exact .int 1
        have l1 : (xs ++ [V.int 1]).length = xs.length + 1 := List.length_append
        refine s_retP (ep_ixTh (m := 4) (elp_ath (ath_cons (th_lst (el_listW w3)) (ath_cons (th_tup (ew_cut w3 eo_none (eo_some (ev_un ev_c ru_neg))) (fun x hx => T3.kd x (cutV_mem hx)) (by have := cutV_length xs none (some (-1)); omega))
          (ath_cons (th_tup (ew_rep (k := 2) (ew_cat w3 (ew_tup (ea_cons ev_c ea_nil) (by show 1 ≤ 100000; decide)) (by show xs.length + 1 ≤ 100000; omega)) ev_c (by intro z; have := congrArg List.length z; rw [l1] at this; cases this) (by decide) (by rw [l1]; omega)) (flat_kd k1) (by rw [flat_len, l1]; omega))
          (ath_cons (th_tup (ew_rep (xs := [.int 0]) (k := xs.length) (ew_tup (ea_cons ev_c ea_nil) (by show 1 ≤ 100000; decide)) (ev_lenW w3) (fun z => nomatch z) (by omega) (by show 1 ≤ 1000; decide)) (flat_kd fun x hx => by rw [List.mem_singleton.mp hx]; exact .int 0) (by rw [flat_len]; show xs.length * 1 ≤ 40; omega)) ath_nil)))) (by decide))
          (ev_op (ev_var rfl) ev_c rv_I0) (by omega) (by omega)) fun v H4 e4 h => ?_
        exact q v H4 (((e1.trans e2).trans e3).trans e4) h
theorem cal__law_maybe {f : Addr} {fd : FuncData} (F : Fun K "_law_maybe" "_law_maybe" s__law_maybe f fd) (hm : mg "_law_maybe" = some (.ref f)) (bb : Binds K fd ["_law_thing", "_law_number_here"] []) (B : Blt mg) (C__law_spoilt : Cal P w K mg base 2 "_law_spoilt" spSpoilt) : Cal P w K mg base 3 "_law_maybe" spSpoilt := by
  refine ⟨f, fd, ["_law_thing", "_law_number_here"], F.ok sc__law_maybe (fun vs H Q E h => ?_) (fun cdv A outer s H vs Q E hr h => ?_), hm, F.kp, bb⟩
  · obtain ⟨p, xs, n, rfl, T, q⟩ := h
    rfl
  · obtain ⟨p, xs, n, rfl, T, q⟩ := h
    refine ⟨_, (pss_cons (ps_if (pt_cmpR op_eq (pe_op op_mod (pv 1) pe_int) pe_int (nomark _)) (pss_one (ps_ret (pe_k C__law_spoilt hr (by decide) (by rfl) (pa_cons (pv 0) (pa_cons (pe_op op_fdiv (pv 1) pe_int) pa_nil))))) pss_nil)
        (pss_one (ps_ret (pv 0)))), ?_⟩
    refine q_when (b := decide (n % 2 = 1)) (et_is (et_test (ev_op (ev_op (ev_var rfl) ev_c (rv_I (by decide))) ev_c (rv_eq rfl))) (dec_eq_int _ _)) (fun _ H1 e1 => ?_) (fun _ H1 e1 => ?_)
    · exact s_retP (ep_call (ea_cons (ev_var rfl) (ea_cons (ev_op (ev_var rfl) ev_c (rv_I ⟨by decide, by decide⟩)) ea_nil)) (sv_spoilt _ (T.mono e1))) fun v H2 e2 h => q v H2 (e1.trans e2) h
    · have T1 := T.mono e1
      exact s_retP (th_tup (ew_var rfl T1.here) T1.kd (by have := T1.len; omega)) fun v H2 e2 h => q v H2 (e1.trans e2) h
theorem cal__law_same {f : Addr} {fd : FuncData} (F : Fun K "_law_same" "_law_same" s__law_same f fd) (hm : mg "_law_same" = some (.ref f)) (bb : Binds K fd ["_law_found", "_law_due"] []) (B : Blt mg)  : Cal P w K mg base 1 "_law_same" spSame := by
  refine ⟨f, fd, ["_law_found", "_law_due"], F.ok sc__law_same (fun vs H Q E h => ?_) (fun cdv A outer s H vs Q E hr h => ?_), hm, F.kp, bb⟩
  · obtain ⟨a, b, rfl, q⟩ := h
    rfl
  · obtain ⟨a, b, rfl, q⟩ := h
    refine ⟨_, (pss_one (ps_ret (pe_and (pe_callB (call_isiK2 (K := K) rfl) (by rfl) B.isinstance (by decide +kernel) (pa_cons (pv 0) (pa_cons (pe_bltn (v := .ty "bool") (by rfl) B.bool (by decide +kernel) rfl) pa_nil))) (pe_one (pe_cmpR op_eq (pv 0) (pv 1) (nomark _)))))), ?_⟩
    exact s_ret (ev_is (ev_andV (a := true) (ev_isa (t := "bool") (b := true) (ev_var rfl) ev_c (fun _ _ => .base (.bl a)) (by decide +kernel)) fun _ => ev_op (ev_var rfl) (ev_var rfl) (rv_eq rfl)) (by rw [Bool.true_and, dec_eq_bl])) fun H1 e1 => q H1 e1
theorem cal__law_cell_at {f : Addr} {fd : FuncData} (F : Fun K "_law_cell_at" "_law_cell_at" s__law_cell_at f fd) (hm : mg "_law_cell_at" = some (.ref f)) (bb : Binds K fd ["_law_script", "_law_k"] []) (B : Blt mg)  : Cal P w K mg base 1 "_law_cell_at" (spCellL K) := by
  refine ⟨f, fd, ["_law_script", "_law_k"], F.ok sc__law_cell_at (fun vs H Q E h => ?_) (fun cdv A outer s H vs Q E hr h => ?_), hm, F.kp, bb⟩
  · obtain ⟨l, ns, k, rfl, S, q⟩ := h
    rfl
  · obtain ⟨l, ns, k, rfl, S, q⟩ := h
    refine ⟨_, (pss_cons (ps_if (pt_cmpR op_lt (pv 1) (pe_callB (call_lenK (K := K) rfl) (by rfl) B.len PySem.boot_len (pa_cons (pv 0) pa_nil)) (nomark _)) (pss_one (ps_ret (pe_ix (ix_listK (K := K) rfl) (pv 0) (pv 1) (fun _ _ => rfl)))) pss_nil)
        (pss_one (ps_ret pe_int))), ?_⟩
    have hl := S.len
    refine q_when (et_test (ev_op (ev_var rfl) (ev_is (ev_len (ev_var rfl) S.here) (by rw [iv_len])) rv_I0)) (fun hc H1 e1 => ?_) (fun hc H1 e1 => ?_)
    · have hc' := of_decide_eq_true hc
      refine s_ret (ev_ixL (ev_var rfl) (S.mono e1).here (ev_var rfl) (iv_at (by omega))) fun H2 e2 => ?_
      exact q H2 (e1.trans e2)
    · have hc' := of_decide_eq_false hc
      refine s_ret ev_c fun H2 e2 => ?_
      rw [Bd.getD_out (by omega)] at q
      exact q H2 (e1.trans e2)
theorem cal__law_mixed {f : Addr} {fd : FuncData} (F : Fun K "_law_mixed" "_law_mixed" s__law_mixed f fd) (hm : mg "_law_mixed" = some (.ref f)) (bb : Binds K fd ["_law_script", "_law_k"] []) (B : Blt mg) (C__law_cell_at : Cal P w K mg base 1 "_law_cell_at" (spCellL K)) : Cal P w K mg base 2 "_law_mixed" (spMixed K) := by
  refine ⟨f, fd, ["_law_script", "_law_k"], F.ok sc__law_mixed (fun vs H Q E h => ?_) (fun cdv A outer s H vs Q E hr h => ?_), hm, F.kp, bb⟩
  · obtain ⟨l, ns, k, rfl, S, q⟩ := h
    rfl
  · obtain ⟨l, ns, k, rfl, S, q⟩ := h
    refine ⟨_, (pss_cons (ps_set (i := 2) sc__law_mixed.nd rfl (Or.inl rfl) (pe_op op_mod (pe_op op_mul (pe_op op_add (pe_op op_add (pe_k C__law_cell_at hr (by decide) (by rfl) (pa_cons (pv 0) (pa_cons (pv 1) pa_nil))) (pe_op op_mul pe_int (pv 1))) pe_int) pe_int) pe_int))
        (pss_one (ps_ret (pe_op op_mod (pe_op op_add (pe_op op_add (pe_op op_mul (pv 2) (pv 2)) (pe_op op_mul pe_int (pv 2))) (pv 1)) pe_int)))), ?_⟩
    refine q_asg (ev_op (ev_op (ev_op (ev_op (ev_call0 (ea_cons (ev_var rfl) (ea_cons (ev_var rfl) ea_nil)) (sv_cell S)) (ev_op ev_c (ev_var rfl) (rv_I (.inl ⟨by decide, by decide⟩))) rv_I0) ev_c rv_I0) ev_c (rv_I (.inr ⟨by decide, by decide⟩))) ev_c (rv_I (by decide))) fun H1 e1 => ?_
    have b1 : 0 ≤ (ns.getD k 0 + 7919 * (k : Int) + 1) * 48271 % 2147483647 := Int.emod_nonneg _ (by decide)
    have b2 : (ns.getD k 0 + 7919 * (k : Int) + 1) * 48271 % 2147483647 < 2147483647 := Int.emod_lt_of_pos _ (by decide)
    refine s_ret (ev_op (ev_op (ev_op (ev_op (ev_var rfl) (ev_var rfl) (rv_I (.inl ⟨by omega, by omega⟩))) (ev_op ev_c (ev_var rfl) (rv_I (.inl ⟨by decide, by decide⟩))) rv_I0) (ev_var rfl) rv_I0) ev_c (rv_I (by decide))) fun H2 e2 => ?_
    exact q H2 (e1.trans e2)
theorem cal__law_number {f : Addr} {fd : FuncData} (F : Fun K "_law_number" "_law_number" s__law_number f fd) (hm : mg "_law_number" = some (.ref f)) (bb : Binds K fd ["_law_thing", "_law_low", "_law_high"] []) (B : Blt mg)  : Cal P w K mg base 1 "_law_number" spNumber := by
  refine ⟨f, fd, ["_law_thing", "_law_low", "_law_high"], F.ok sc__law_number (fun vs H Q E h => ?_) (fun cdv A outer s H vs Q E hr h => ?_), hm, F.kp, bb⟩
  · obtain ⟨x, lo, hi, rfl, k, q⟩ := h
    rfl
  · obtain ⟨x, lo, hi, rfl, k, q⟩ := h
    refine ⟨_, (pss_one (ps_ret (pe_and (pe_callB (call_isiK2 (K := K) rfl) (by rfl) B.isinstance (by decide +kernel) (pa_cons (pv 0) (pa_cons (pe_bltn (v := .ty "int") (by rfl) B.int (by decide +kernel) rfl) pa_nil))) (pe_and (pe_not (pe_callB (call_isiK2 (K := K) rfl) (by rfl) B.isinstance (by decide +kernel) (pa_cons (pv 0) (pa_cons (pe_bltn (v := .ty "bool") (by rfl) B.bool (by decide +kernel) rfl) pa_nil)))) (pe_one (pe_chain op_le op_le (pv 1) (pv 0) (pv 2))))))), ?_⟩
    cases k with
    | non => exact s_ret (ev_noNum (t := "NoneType") (b := false) (ev_var rfl) (ev_var rfl) ev_c ev_c (fun _ _ => .base .non) (by decide +kernel) (fun z => nomatch z)) fun H1 e1 => q H1 e1
    | bl b => exact s_ret (ev_noNum (t := "bool") (b := true) (ev_var rfl) (ev_var rfl) ev_c ev_c (fun _ _ => .base (.bl b)) (by decide +kernel) (fun _ => by decide +kernel)) fun H1 e1 => q H1 e1
    | int i =>
      refine s_ret (ev_andV (ev_isa (t := "int") (b := true) (ev_var rfl) ev_c (fun _ _ => .base (.int i)) (by decide +kernel)) fun _ => ev_andV (ev_notV (ev_isa (t := "int") (b := false) (ev_var rfl) ev_c (fun _ _ => .base (.int i)) (by decide +kernel))) fun _ => ev_chain (ev_var rfl) (ev_var rfl) (ev_var rfl)) fun H1 e1 => ?_
      exact q H1 e1
    | str s => exact s_ret (ev_noNum (t := "str") (b := false) (ev_var rfl) (ev_var rfl) ev_c ev_c (fun _ _ => .base (.str s)) (by decide +kernel) (fun z => nomatch z)) fun H1 e1 => q H1 e1
    | tup h => exact s_ret (ev_noNum (t := "tuple") (b := false) (ev_var rfl) (ev_var rfl) ev_c ev_c (fun _ e => .base (.tup (e _ _ h))) (by decide +kernel) (fun z => nomatch z)) fun H1 e1 => q H1 e1
    | lst h => exact s_ret (ev_noNum (t := "list") (b := false) (ev_var rfl) (ev_var rfl) ev_c ev_c (fun _ e => .base (.lst (e _ _ h))) (by decide +kernel) (fun z => nomatch z)) fun H1 e1 => q H1 e1
theorem cal__law_are {f : Addr} {fd : FuncData} (F : Fun K "_law_are" "_law_are" s__law_are f fd) (hm : mg "_law_are" = some (.ref f)) (bb : Binds K fd ["_law_thing", "_law_low", "_law_high"] []) (B : Blt mg) (C__law_number : Cal P w K mg base 1 "_law_number" spNumber) : Cal P w K mg base 2 "_law_are" spAre := by
  refine ⟨f, fd, ["_law_thing", "_law_low", "_law_high"], F.ok sc__law_are (fun vs H Q E h => ?_) (fun cdv A outer s H vs Q E hr h => ?_), hm, F.kp, bb⟩
  · obtain ⟨x, o, lo, hi, rfl, h, q⟩ := h
    rfl
  · obtain ⟨x, o, lo, hi, rfl, h, q⟩ := h
    refine ⟨_, (pss_one (ps_ret (pe_and (pe_callB (call_isiK2 (K := K) rfl) (by rfl) B.isinstance (by decide +kernel) (pa_cons (pv 0) (pa_cons (pe_bltn (v := .ty "tuple") (by rfl) B.tuple (by decide +kernel) rfl) pa_nil))) (pe_one (pe_cmpR (op_eqNilK (K := K) rfl hr.units) (pe_lc (own := [("_law_part", 3)]) (g := gName 3) rfl sc__law_are.nd (pi_tupK (K := K) rfl (pv 0)) (blkOk_by (own := [("_law_part", 3)]) (N := N__law_are) (sc := defScope s__law_are) (by decide +kernel)) (fun _ _ _ _ _ => (pg_name (i := 3) sc__law_are.nd rfl (Or.inl rfl))) (fun _ _ _ _ _ => (pts_one (pt_not (pt_val (pe_k C__law_number hr (by decide) (by rfl) (pa_cons (pv 3) (pa_cons (pv 1) (pa_cons (pv 2) pa_nil)))))))) (fun _ _ _ _ _ => (pv 3))) (pe_lst pa_nil) (nomark _)))))), ?_⟩
    refine s_ret (ev_is (ev_andV (b := areB o lo hi) (ev_isTup h (ev_var rfl) ev_c) fun ho => ?_) (w := .bl (areB o lo hi)) (by cases o <;> rfl)) fun H1 e1 => q H1 e1
    cases o with
    | none => cases ho
    | some xs =>
      obtain ⟨a, rfl, ha, hk, hz⟩ := h.of
      exact ev_is (ev_eqNil (el_lcW (fun x => !isNum x lo hi) (fun x => x) (ew_var rfl ha) (by omega) (fun _ => rfl) (fun x H1 e1 hx => et_not (et_B (ev_call0 (ea_cons (ev_var rfl) (ea_cons (ev_var rfl) (ea_cons (ev_var rfl) ea_nil))) (sv_number ((hk x hx).mono e1))))) fun x H1 e1 hx hf => ev_var rfl) (el_lst ea_nil (Nat.zero_le _))) (by rw [filt_nil fun x => isNum x lo hi]; rfl)
theorem cal__law_mark {f : Addr} {fd : FuncData} (F : Fun K "_law_mark" "_law_mark" s__law_mark f fd) (hm : mg "_law_mark" = some (.ref f)) (bb : Binds K fd ["_law_scale_here", "_law_k"] []) (B : Blt mg)  : Cal P w K mg base 1 "_law_mark" spMark := by
  refine ⟨f, fd, ["_law_scale_here", "_law_k"], F.ok sc__law_mark (fun vs H Q E h => ?_) (fun cdv A outer s H vs Q E hr h => ?_), hm, F.kp, bb⟩
  · obtain ⟨p, a, b, k, rfl, S, hk, q⟩ := h
    rfl
  · obtain ⟨p, a, b, k, rfl, S, hk, q⟩ := h
    refine ⟨_, (pss_one (ps_ret (pe_op op_add (pe_ix (ix_tupK (K := K) rfl) (pv 0) pe_int (fun _ _ => rfl)) (pe_op op_mul (pv 1) (pe_ix (ix_tupK (K := K) rfl) (pv 0) pe_int (fun _ _ => rfl)))))), ?_⟩
    refine s_ret (ev_op (ev_ixW (ew_var rfl S.here) ev_c rfl) (ev_op (ev_var rfl) (ev_ixW (ew_var rfl S.here) ev_c rfl) (rv_I (.inl ⟨by omega, by omega⟩))) rv_I0) fun H1 e => ?_
    exact q H1 e
theorem cal__law_next {f : Addr} {fd : FuncData} (F : Fun K "_law_next" "_law_next" s__law_next f fd) (hm : mg "_law_next" = some (.ref f)) (bb : Binds K fd ["_law_votes_here", "_law_given", "_law_scale_here"] []) (B : Blt mg) (C__law_mark : Cal P w K mg base 1 "_law_mark" spMark) : Cal P w K mg base 2 "_law_next" spNextA := by
  refine ⟨f, fd, ["_law_votes_here", "_law_given", "_law_scale_here"], F.ok sc__law_next (fun vs H Q E h => ?_) (fun cdv A outer s H vs Q E hr h => ?_), hm, F.kp, bb⟩
  · obtain ⟨p, g, s, vs, gs, a, b, rfl, S, G, gb, T, q⟩ := h
    rfl
  · obtain ⟨p, g, s, vs, gs, a, b, rfl, S, G, gb, T, q⟩ := h
    refine ⟨_, (pss_cons (ps_set (i := 3) sc__law_next.nd rfl (Or.inl rfl) pe_int)
        (pss_cons (ps_for PassesOwn.never rfl (pi_range2 (by rfl) B.range (pa_cons pe_int (pa_cons (pe_callB (call_lenK (K := K) rfl) (by rfl) B.len PySem.boot_len (pa_cons (pv 0) pa_nil)) pa_nil))) (pg_name (i := 4) sc__law_next.nd rfl (Or.inl rfl)) (pss_one (ps_if (pt_cmpR op_gt (pe_op op_mul (pe_ix (ix_tupK (K := K) rfl) (pv 0) (pv 4) (fun _ _ => rfl)) (pe_k C__law_mark hr (by decide) (by rfl) (pa_cons (pv 2) (pa_cons (pe_ix (ix_seqK (K := K) rfl) (pv 1) (pv 3) (fun _ _ => rfl)) pa_nil)))) (pe_op op_mul (pe_ix (ix_tupK (K := K) rfl) (pv 0) (pv 3) (fun _ _ => rfl)) (pe_k C__law_mark hr (by decide) (by rfl) (pa_cons (pv 2) (pa_cons (pe_ix (ix_seqK (K := K) rfl) (pv 1) (pv 4) (fun _ _ => rfl)) pa_nil)))) (nomark _)) (pss_one (ps_set (i := 3) sc__law_next.nd rfl (Or.inl rfl) (pv 4))) pss_nil)))
        (pss_one (ps_ret (pv 3))))), ?_⟩
    have hp := S.pos
    have hl := S.len
    have gl := gb.2
    refine q_asg ev_c fun H1 e1 => ?_
    have S1 := S.mono e1
    refine q_forR2 (n := (vs.length : Int)) (ea_cons ev_c (ea_cons (ev_is (ev_lenW (ew_var rfl S1.here)) (by rw [iv_len])) ea_nil)) ⟨by omega, by omega, by omega, by omega⟩
      (fun i σ H2 => Ex H1 H2 ∧ ∃ o, σ = [some (.ref p), some (.ref g), some (.ref s), some (.int (Bd.nextTo vs gs a b i : Nat)), o]) (fun H2 e2 => ⟨e2, none, rfl⟩) (fun i σ H2 hi hP => ?_) (fun σ H2 hP => ?_)
    · obtain ⟨e2, o, rfl⟩ := hP
      have S2 := S1.mono e2
      have G2 := G.mono (e1.trans e2)
      have T2 := T.mono (e1.trans e2)
      have hi1 : i + 1 < vs.length := by omega
      have hb : Bd.nextTo vs gs a b i < vs.length := by have := Bd.nextTo_le vs gs a b i; omega
      have e0 : (1 : Int) + (i : Int) = ((i + 1 : Nat) : Int) := by omega
      have g1 := bd_at gb.1 (i + 1)
      have g2 := bd_at gb.1 (Bd.nextTo vs gs a b i)
      have w1 := S.bd (i + 1)
      have w2 := S.bd (Bd.nextTo vs gs a b i)
      have v1 : atI (iv gs) ((1 : Int) + (i : Int)) = some (.int (gs.getD (i + 1) 0)) := by rw [e0]; exact iv_at (by omega)
      have v2 : atI (iv gs) ((Bd.nextTo vs gs a b i : Nat) : Int) = some (.int (gs.getD (Bd.nextTo vs gs a b i) 0)) := iv_at (by omega)
      have u1 : atI (iv vs) ((1 : Int) + (i : Int)) = some (.int (vs.getD (i + 1) 0)) := by rw [e0]; exact iv_at hi1
      have u2 : atI (iv vs) ((Bd.nextTo vs gs a b i : Nat) : Int) = some (.int (vs.getD (Bd.nextTo vs gs a b i) 0)) := iv_at hb
      refine s_when (b := Bd.isGr vs (i + 1) (Bd.mk a b (gs.getD (i + 1) 0)) (Bd.nextTo vs gs a b i) (Bd.mk a b (gs.getD (Bd.nextTo vs gs a b i) 0))) (et_test (ev_op (ev_op (ev_ixW (ew_var rfl S2.here) (ev_var rfl) u1) (ev_call0 (ea_cons (ev_var rfl) (ea_cons (ev_ixS (ev_var rfl) G2 (ev_var rfl) v2) ea_nil)) (sv_mark T2 (by omega))) (rv_I (.inl ⟨by omega, by omega⟩)))
        (ev_op (ev_ixW (ew_var rfl S2.here) (ev_var rfl) u2) (ev_call0 (ea_cons (ev_var rfl) (ea_cons (ev_ixS (ev_var rfl) G2 (ev_var rfl) v1) ea_nil)) (sv_mark T2 (by omega))) (rv_I (.inl ⟨by omega, by omega⟩))) rv_I0)) (fun hc H3 e3 => ?_) (fun hc H3 e3 => ?_)
      · refine s_asg (ev_var rfl) fun H4 e4 => ?_
        refine ⟨(e2.trans e3).trans e4, some (.int ((1 : Int) + (i : Int))), ?_⟩
        have en : Bd.nextTo vs gs a b (i + 1) = i + 1 := by
          show (if _ then _ else _) = _
          rw [if_pos hc]
        rw [en, ← e0]
        rfl
      · refine ⟨e2.trans e3, some (.int ((1 : Int) + (i : Int))), ?_⟩
        have en : Bd.nextTo vs gs a b (i + 1) = Bd.nextTo vs gs a b i := by
          show (if _ then _ else _) = _
          rw [if_neg (by rw [hc]; decide)]
        rw [en]
        rfl
    · obtain ⟨e2, o, rfl⟩ := hP
      have en : (((vs.length : Int) - 1).toNat) = vs.length - 1 := by omega
      rw [en]
      refine s_ret (ev_var rfl) fun H3 e3 => ?_
      exact q H3 ((e1.trans e2).trans e3)
theorem cal__law_dealt {f : Addr} {fd : FuncData} (F : Fun K "_law_dealt" "_law_dealt" s__law_dealt f fd) (hm : mg "_law_dealt" = some (.ref f)) (bb : Binds K fd ["_law_votes_here", "_law_seats", "_law_scale_here"] []) (B : Blt mg) (C__law_next : Cal P w K mg base 2 "_law_next" spNextA) : Cal P w K mg base 3 "_law_dealt" spDealt := by
  refine ⟨f, fd, ["_law_votes_here", "_law_seats", "_law_scale_here"], F.ok sc__law_dealt (fun vs H Q E h => ?_) (fun cdv A outer s H vs Q E hr h => ?_), hm, F.kp, bb⟩
  · obtain ⟨p, s, vs, n, a, b, rfl, S, hn, T, q⟩ := h
    rfl
  · obtain ⟨p, s, vs, n, a, b, rfl, S, hn, T, q⟩ := h
    refine ⟨_, (pss_cons (ps_set (i := 3) sc__law_dealt.nd rfl (Or.inl rfl) (pe_op op_rep (pe_lst (pa_cons pe_int pa_nil)) (pe_callB (call_lenK (K := K) rfl) (by rfl) B.len PySem.boot_len (pa_cons (pv 0) pa_nil))))
        (pss_cons (ps_for PassesOwn.never rfl (pi_range1 (by rfl) B.range (pa_cons (pv 1) pa_nil)) (pg_name (i := 4) sc__law_dealt.nd rfl (Or.inl rfl)) (pss_cons (ps_set (i := 5) sc__law_dealt.nd rfl (Or.inl rfl) (pe_k C__law_next hr (by decide) (by rfl) (pa_cons (pv 0) (pa_cons (pv 3) (pa_cons (pv 2) pa_nil)))))
        (pss_one (ps_asg (pe_op op_add (pe_ix (ix_listK (K := K) rfl) (pv 3) (pv 5) (fun _ _ => rfl)) pe_int) (pg_sub (pv 3) (pv 5) set_list)))))
        (pss_one (ps_ret (pe_callTy (call_tupleK (K := K) rfl) (by rfl) B.tuple (by decide +kernel) (pa_cons (pv 3) pa_nil)))))), ?_⟩
    have hp := S.pos
    have hl := S.len
    refine q_asgL (el_rep (el_one ev_c) (ev_is (ev_lenW (ew_var rfl S.here)) (by rw [iv_len])) (by omega) (by show 1 ≤ 50; decide)) fun lg H1 ng e1 hg => ?_
    rw [rep1, Int.toNat_natCast, iv_rep] at hg
    refine q_forR1 (n := (n : Int)) (ea_cons (ev_var rfl) ea_nil) (by omega)
      (fun i σ H3 => Ex H H3 ∧ H3 lg = some (.lst (iv (Bd.givenTo vs a b i))) ∧ ∃ o1 o2, σ = [some (.ref p), some (.int (n : Int)), some (.ref s), some (.ref lg), o1, o2])
      (fun H3 e3 => ⟨e1.trans e3, e3 lg _ hg, none, none, rfl⟩) (fun i σ H3 hi hP => ?_) (fun σ H3 hP => ?_)
    · obtain ⟨e3, hg3, o1, o2, rfl⟩ := hP
      have S3 := S.mono e3
      have T3 := T.mono e3
      have gl : (Bd.givenTo vs a b i).length = vs.length := Bd.givenTo_len vs a b i
      have go : ∀ g ∈ Bd.givenTo vs a b i, 0 ≤ g ∧ g ≤ 60 := fun g hm => by
        obtain ⟨k, _, e⟩ := Bd.mem_getD hm
        have := Bd.givenTo_nn (a := a) (b := b) hp i k
        omega
      have ht : Bd.nextL vs (Bd.givenTo vs a b i) a b < vs.length := Bd.nextL_lt hp
      refine q_asg (ev_call0 (ea_cons (ev_var rfl) (ea_cons (ev_var rfl) (ea_cons (ev_var rfl) ea_nil))) (sv_nextA S3 (.inl hg3) ⟨go, gl⟩ T3)) fun H4 e4 => ?_
      have hg4 := e4 lg _ hg3
      refine s_setL (j := Bd.nextL vs (Bd.givenTo vs a b i) a b) hg4 (ev_op (ev_ixL (ev_var rfl) (sq_of hg4) (ev_var rfl) (iv_at (by rw [gl]; exact ht))) ev_c rv_I0) (ev_var rfl) (ev_var rfl) (by rw [iv_len, gl]; exact ht) fun H5 e5 => ?_
      rw [iv_set]
      exact ⟨((e3.trans e4).trans e5).mut ng, upd_same, some (.int (i : Int)), some (.int (Bd.nextL vs (Bd.givenTo vs a b i) a b : Nat)), rfl⟩
    · obtain ⟨e3, hg3, o1, o2, rfl⟩ := hP
      rw [Int.toNat_natCast] at hg3
      refine s_retW (ew_tuple (ev_var rfl) (sq_of hg3)) fun t H4 e4 ht => ?_
      exact q _ H4 (e3.trans e4) ⟨t, rfl, ht⟩
theorem cal_is_number {f : Addr} {fd : FuncData} (F : Fun K "is_number" "is_number" s_is_number f fd) (hm : mg "is_number" = some (.ref f)) (bb : Binds K fd ["thing", "low", "high"] []) (B : Blt mg)  : Cal P w K mg base 1 "is_number" spNumber := by
  refine ⟨f, fd, ["thing", "low", "high"], F.ok sc_is_number (fun vs H Q E h => ?_) (fun cdv A outer s H vs Q E hr h => ?_), hm, F.kp, bb⟩
  · obtain ⟨x, lo, hi, rfl, k, q⟩ := h
    rfl
  · obtain ⟨x, lo, hi, rfl, k, q⟩ := h
    refine ⟨_, (pss_one (ps_ret (pe_and (pe_callB (call_isiK2 (K := K) rfl) (by rfl) B.isinstance (by decide +kernel) (pa_cons (pv 0) (pa_cons (pe_bltn (v := .ty "int") (by rfl) B.int (by decide +kernel) rfl) pa_nil))) (pe_and (pe_not (pe_callB (call_isiK2 (K := K) rfl) (by rfl) B.isinstance (by decide +kernel) (pa_cons (pv 0) (pa_cons (pe_bltn (v := .ty "bool") (by rfl) B.bool (by decide +kernel) rfl) pa_nil)))) (pe_one (pe_chain op_le op_le (pv 1) (pv 0) (pv 2))))))), ?_⟩
    cases k with
    | non => exact s_ret (ev_noNum (t := "NoneType") (b := false) (ev_var rfl) (ev_var rfl) ev_c ev_c (fun _ _ => .base .non) (by decide +kernel) (fun z => nomatch z)) fun H1 e1 => q H1 e1
    | bl b => exact s_ret (ev_noNum (t := "bool") (b := true) (ev_var rfl) (ev_var rfl) ev_c ev_c (fun _ _ => .base (.bl b)) (by decide +kernel) (fun _ => by decide +kernel)) fun H1 e1 => q H1 e1
    | int i =>
      refine s_ret (ev_andV (ev_isa (t := "int") (b := true) (ev_var rfl) ev_c (fun _ _ => .base (.int i)) (by decide +kernel)) fun _ => ev_andV (ev_notV (ev_isa (t := "int") (b := false) (ev_var rfl) ev_c (fun _ _ => .base (.int i)) (by decide +kernel))) fun _ => ev_chain (ev_var rfl) (ev_var rfl) (ev_var rfl)) fun H1 e1 => ?_
      exact q H1 e1
    | str s => exact s_ret (ev_noNum (t := "str") (b := false) (ev_var rfl) (ev_var rfl) ev_c ev_c (fun _ _ => .base (.str s)) (by decide +kernel) (fun z => nomatch z)) fun H1 e1 => q H1 e1
    | tup h => exact s_ret (ev_noNum (t := "tuple") (b := false) (ev_var rfl) (ev_var rfl) ev_c ev_c (fun _ e => .base (.tup (e _ _ h))) (by decide +kernel) (fun z => nomatch z)) fun H1 e1 => q H1 e1
    | lst h => exact s_ret (ev_noNum (t := "list") (b := false) (ev_var rfl) (ev_var rfl) ev_c ev_c (fun _ e => .base (.lst (e _ _ h))) (by decide +kernel) (fun z => nomatch z)) fun H1 e1 => q H1 e1
theorem cal_are_given {f : Addr} {fd : FuncData} (F : Fun K "are_given" "are_given" s_are_given f fd) (hm : mg "are_given" = some (.ref f)) (bb : Binds K fd ["thing", "votes"] []) (B : Blt mg) (M : Cst mg) (C_is_number : Cal P w K mg base 1 "is_number" spNumber) : Cal P w K mg base 2 "are_given" spAreGiven := by
  refine ⟨f, fd, ["thing", "votes"], F.ok sc_are_given (fun vs H Q E h => ?_) (fun cdv A outer s H vs Q E hr h => ?_), hm, F.kp, bb⟩
  · obtain ⟨x, o, p, ys, rfl, h, hp, q⟩ := h
    rfl
  · obtain ⟨x, o, p, ys, rfl, h, hp, q⟩ := h
    refine ⟨_, (pss_cons (ps_if (PW.pt (pw_or (pt_not (pt_val (pe_callB (call_isiK2 (K := K) rfl) (by rfl) B.isinstance (by decide +kernel) (pa_cons (pv 0) (pa_cons (pe_bltn (v := .ty "tuple") (by rfl) B.tuple (by decide +kernel) rfl) pa_nil))))) (pw_or1 (pt_cmpR op_ne (pe_callB (call_lenK (K := K) rfl) (by rfl) B.len PySem.boot_len (pa_cons (pv 0) pa_nil)) (pe_callB (call_lenK (K := K) rfl) (by rfl) B.len PySem.boot_len (pa_cons (pv 1) pa_nil)) (nomark _))))) (pss_one (ps_ret pe_bl)) pss_nil)
        (pss_one (ps_ret (pe_callB (cr_allK (K := K) rfl rfl) (by rfl) B.all (by decide +kernel) (pa_cons (pe_lc (own := [("part", 2)]) (g := gName 2) (tt := tYes) rfl sc_are_given.nd (pi_tupK (K := K) rfl (pv 0)) (blkOk_by (own := [("part", 2)]) (N := N_are_given) (sc := defScope s_are_given) (by decide +kernel)) (fun _ _ _ _ _ => (pg_name (i := 2) sc_are_given.nd rfl (Or.inl rfl))) (fun _ _ _ _ _ => pts_nil) (fun _ _ _ _ _ => (pe_k C_is_number hr (by decide) (by rfl) (pa_cons (pv 2) (pa_cons pe_int (pa_cons (pe_glob (v := .int 60) (by rfl) M.g_MOST_SEATS.choose_spec ⟨_, rfl⟩) pa_nil)))))) pa_nil))))), ?_⟩
    refine q_when (b := !lenIs o ys.length) (et_is (et_or (b := !lenIs o ys.length) (et_not (et_B (ev_isTup h (ev_var rfl) ev_c))) fun ho => ?_) (by cases o <;> rfl)) (fun hc H1 e1 => ?_) (fun hc H1 e1 => ?_)
    · cases o with
      | none => cases ho
      | some xs =>
        obtain ⟨a, rfl, ha, hk, hz⟩ := h.of
        exact et_is (et_test (ev_op (ev_lenW (ew_var rfl ha)) (ev_lenW (ew_var rfl hp)) (rv_ne rfl))) (congrArg (! ·) (dec_eq_int _ _))
    · have hf : lenIs o ys.length = false := by
        cases z : lenIs o ys.length with
        | false => rfl
        | true =>
          rw [z] at hc
          cases hc
      rw [hf] at q
      exact s_ret ev_c fun H2 e2 => q H2 (e1.trans e2)
    · cases o with
      | none => cases hc
      | some xs =>
        have hf : lenIs (some xs) ys.length = true := by
          cases z : lenIs (some xs) ys.length with
          | true => rfl
          | false =>
            rw [z] at hc
            cases hc
        rw [hf] at q
        obtain ⟨a, rfl, ha, hk, hz⟩ := (h.mono e1).of
        exact s_ret (ev_allW (fun x => isNum x 0 60) (ew_var rfl ha) (by omega) (fun _ => rfl) fun x H2 e2 hx => ev_call0 (ea_cons (ev_var rfl) (ea_cons ev_c (ea_cons ev_c ea_nil))) (sv_number ((hk x hx).mono e2))) fun H2 e2 => q H2 (e1.trans e2)
theorem cal_are_votes {f : Addr} {fd : FuncData} (F : Fun K "are_votes" "are_votes" s_are_votes f fd) (hm : mg "are_votes" = some (.ref f)) (bb : Binds K fd ["thing"] []) (B : Blt mg) (M : Cst mg) (C_is_number : Cal P w K mg base 1 "is_number" spNumber) : Cal P w K mg base 2 "are_votes" spAreVotes := by
  refine ⟨f, fd, ["thing"], F.ok sc_are_votes (fun vs H Q E h => ?_) (fun cdv A outer s H vs Q E hr h => ?_), hm, F.kp, bb⟩
  · obtain ⟨x, o, rfl, h, q⟩ := h
    rfl
  · obtain ⟨x, o, rfl, h, q⟩ := h
    refine ⟨_, (pss_cons (ps_if (PW.pt (pw_or (pt_not (pt_val (pe_callB (call_isiK2 (K := K) rfl) (by rfl) B.isinstance (by decide +kernel) (pa_cons (pv 0) (pa_cons (pe_bltn (v := .ty "tuple") (by rfl) B.tuple (by decide +kernel) rfl) pa_nil))))) (pw_or1 (pt_not (pt_chain op_le op_le pe_int (pe_callB (call_lenK (K := K) rfl) (by rfl) B.len PySem.boot_len (pa_cons (pv 0) pa_nil)) (pe_glob (v := .int 8) (by rfl) M.g_MOST_LISTS.choose_spec ⟨_, rfl⟩)))))) (pss_one (ps_ret pe_bl)) pss_nil)
        (pss_one (ps_ret (pe_and (pe_callB (cr_allK (K := K) rfl rfl) (by rfl) B.all (by decide +kernel) (pa_cons (pe_lc (own := [("part", 1)]) (g := gName 1) (tt := tYes) rfl sc_are_votes.nd (pi_tupK (K := K) rfl (pv 0)) (blkOk_by (own := [("part", 1)]) (N := N_are_votes) (sc := defScope s_are_votes) (by decide +kernel)) (fun _ _ _ _ _ => (pg_name (i := 1) sc_are_votes.nd rfl (Or.inl rfl))) (fun _ _ _ _ _ => pts_nil) (fun _ _ _ _ _ => (pe_k C_is_number hr (by decide) (by rfl) (pa_cons (pv 1) (pa_cons pe_int (pa_cons (pe_glob (v := .int 1000000) (by rfl) M.g_MOST_VOTES.choose_spec ⟨_, rfl⟩) pa_nil)))))) pa_nil)) (pe_one (pe_callB (cr_anyK (K := K) rfl rfl) (by rfl) B.any (by decide +kernel) (pa_cons (pe_lc (own := [("part", 1)]) (g := gName 1) (tt := tYes) rfl sc_are_votes.nd (pi_tupK (K := K) rfl (pv 0)) (blkOk_by (own := [("part", 1)]) (N := N_are_votes) (sc := defScope s_are_votes) (by decide +kernel)) (fun _ _ _ _ _ => (pg_name (i := 1) sc_are_votes.nd rfl (Or.inl rfl))) (fun _ _ _ _ _ => pts_nil) (fun _ _ _ _ _ => (pe_cmpR op_ne (pv 1) pe_int (nomark _)))) pa_nil))))))), ?_⟩
    refine q_when (b := !lenIn o 1 8) (et_is (et_or (b := !lenIn o 1 8) (et_not (et_B (ev_isTup h (ev_var rfl) ev_c))) fun ho => ?_) (by cases o <;> rfl)) (fun hc H1 e1 => ?_) (fun hc H1 e1 => ?_)
    · cases o with
      | none => cases ho
      | some xs =>
        obtain ⟨a, rfl, ha, hk, hz⟩ := h.of
        exact et_not (et_test (ev_chain ev_c (ev_lenW (ew_var rfl ha)) ev_c))
    · have hf : lenIn o 1 8 = false := by
        cases z : lenIn o 1 8 with
        | false => rfl
        | true =>
          rw [z] at hc
          cases hc
      rw [hf] at q
      exact s_ret ev_c fun H2 e2 => q H2 (e1.trans e2)
    · cases o with
      | none => cases hc
      | some xs =>
        have hf : lenIn (some xs) 1 8 = true := by
          cases z : lenIn (some xs) 1 8 with
          | true => rfl
          | false =>
            rw [z] at hc
            cases hc
        rw [hf] at q
        obtain ⟨a, rfl, ha, hk, hz⟩ := (h.mono e1).of
        refine s_ret (ev_andV (a := areB (some xs) 0 1000000) (b := notAll0 (some xs)) (ev_allW (fun x => isNum x 0 1000000) (ew_var rfl ha) (by omega) (fun _ => rfl) fun x H2 e2 hx => ev_call0 (ea_cons (ev_var rfl) (ea_cons ev_c (ea_cons ev_c ea_nil))) (sv_number ((hk x hx).mono e2)))
          fun hall => ev_anyW (fun x => !decide (x = .int 0)) (ew_var rfl ha) (by omega) (fun _ => rfl) fun x H2 e2 hx => ?_) fun H2 e2 => q H2 (e1.trans e2)
        obtain ⟨is, rfl, _⟩ := nums_of hall
        obtain ⟨i, _, rfl⟩ := List.mem_map.mp hx
        exact ev_op (ev_var rfl) ev_c (rv_ne rfl)
theorem cal_is_scale {f : Addr} {fd : FuncData} (F : Fun K "is_scale" "is_scale" s_is_scale f fd) (hm : mg "is_scale" = some (.ref f)) (bb : Binds K fd ["thing"] []) (B : Blt mg) (M : Cst mg) (C_is_number : Cal P w K mg base 1 "is_number" spNumber) : Cal P w K mg base 2 "is_scale" spIsScale := by
  refine ⟨f, fd, ["thing"], F.ok sc_is_scale (fun vs H Q E h => ?_) (fun cdv A outer s H vs Q E hr h => ?_), hm, F.kp, bb⟩
  · obtain ⟨x, o, rfl, h, q⟩ := h
    rfl
  · obtain ⟨x, o, rfl, h, q⟩ := h
    refine ⟨_, (pss_one (ps_ret (pe_and (pe_callB (call_isiK2 (K := K) rfl) (by rfl) B.isinstance (by decide +kernel) (pa_cons (pv 0) (pa_cons (pe_bltn (v := .ty "tuple") (by rfl) B.tuple (by decide +kernel) rfl) pa_nil))) (pe_and (pe_cmpR op_eq (pe_callB (call_lenK (K := K) rfl) (by rfl) B.len PySem.boot_len (pa_cons (pv 0) pa_nil)) pe_int (nomark _)) (pe_one (pe_callB (cr_allK (K := K) rfl rfl) (by rfl) B.all (by decide +kernel) (pa_cons (pe_lc (own := [("part", 1)]) (g := gName 1) (tt := tYes) rfl sc_is_scale.nd (pi_tupK (K := K) rfl (pv 0)) (blkOk_by (own := [("part", 1)]) (N := N_is_scale) (sc := defScope s_is_scale) (by decide +kernel)) (fun _ _ _ _ _ => (pg_name (i := 1) sc_is_scale.nd rfl (Or.inl rfl))) (fun _ _ _ _ _ => pts_nil) (fun _ _ _ _ _ => (pe_k C_is_number hr (by decide) (by rfl) (pa_cons (pv 1) (pa_cons pe_int (pa_cons (pe_glob (v := .int 10) (by rfl) M.g_MOST_MARK.choose_spec ⟨_, rfl⟩) pa_nil)))))) pa_nil))))))), ?_⟩
    refine s_ret (ev_is (ev_andV (b := lenIs o 2 && areB o 1 10) (ev_isTup h (ev_var rfl) ev_c) fun ho => ?_) (w := .bl (lenIs o 2 && areB o 1 10)) (by cases o <;> rfl)) fun H1 e1 => q H1 e1
    cases o with
    | none => cases ho
    | some xs =>
      obtain ⟨a, rfl, ha, hk, hz⟩ := h.of
      exact ev_andV (a := lenIs (some xs) 2) (b := areB (some xs) 1 10) (ev_is (ev_op (ev_lenW (ew_var rfl ha)) ev_c (rv_eq rfl)) (congrArg V.bl (dec_eq_int _ _))) fun _ => ev_allW (fun x => isNum x 1 10) (ew_var rfl ha) (by omega) (fun _ => rfl) fun x H2 e2 hx => ev_call0 (ea_cons (ev_var rfl) (ea_cons ev_c (ea_cons ev_c ea_nil))) (sv_number ((hk x hx).mono e2))
theorem cal_law_fn {f : Addr} {fd : FuncData} (F : Fun K "law" "law" s_law f fd) (B : Blt mg) (C__law_votes : Cal P w K mg base 2 "_law_votes" spVotes) (C__law_scale : Cal P w K mg base 1 "_law_scale" spScale) (C__law_maybe : Cal P w K mg base 3 "_law_maybe" spSpoilt) (C__law_same : Cal P w K mg base 1 "_law_same" spSame) (C__law_mixed : Cal P w K mg base 2 "_law_mixed" (spMixed K)) (C__law_are : Cal P w K mg base 2 "_law_are" spAre) (C__law_dealt : Cal P w K mg base 3 "_law_dealt" spDealt) (C_are_given : Cal P w K mg base 2 "are_given" spAreGiven) (C_are_votes : Cal P w K mg base 2 "are_votes" spAreVotes) (C_is_scale : Cal P w K mg base 2 "is_scale" spIsScale) : FnOk P w K mg base CX0 4 f fd ["_law_script"] (spLaw K) := by
  refine F.ok sc_law (fun vs H Q E h => ?_) (fun cdv A outer s H vs Q E hr h => ?_)
  · obtain ⟨l, ns, rfl, S, q⟩ := h
    rfl
  · obtain ⟨l, ns, rfl, S, q⟩ := h
    refine ⟨_, (pss_cons (ps_set (i := 1) sc_law.nd rfl (Or.inl rfl) (pe_k C__law_votes hr (by decide) (by rfl) (pa_cons (pe_k C__law_mixed hr (by decide) (by rfl) (pa_cons (pv 0) (pa_cons pe_int pa_nil))) (pa_cons pe_int pa_nil))))
        (pss_cons (ps_set (i := 2) sc_law.nd rfl (Or.inl rfl) (pe_k C__law_scale hr (by decide) (by rfl) (pa_cons (pe_k C__law_mixed hr (by decide) (by rfl) (pa_cons (pv 0) (pa_cons pe_int pa_nil))) pa_nil)))
        (pss_cons (ps_set (i := 3) sc_law.nd rfl (Or.inl rfl) (pe_op op_mod (pe_k C__law_mixed hr (by decide) (by rfl) (pa_cons (pv 0) (pa_cons pe_int pa_nil))) pe_int))
        (pss_cons (ps_set (i := 4) sc_law.nd rfl (Or.inl rfl) (pe_k C__law_maybe hr (by decide) (by rfl) (pa_cons (pv 1) (pa_cons (pe_k C__law_mixed hr (by decide) (by rfl) (pa_cons (pv 0) (pa_cons pe_int pa_nil))) pa_nil))))
        (pss_cons (ps_set (i := 5) sc_law.nd rfl (Or.inl rfl) (pe_and (pe_k C__law_are hr (by decide) (by rfl) (pa_cons (pv 4) (pa_cons pe_int (pa_cons pe_int pa_nil)))) (pe_one (pe_chain op_le op_le pe_int (pe_callB (call_lenK (K := K) rfl) (by rfl) B.len PySem.boot_len (pa_cons (pv 4) pa_nil)) pe_int))))
        (pss_cons (ps_if (pt_not (pt_val (pe_k C__law_same hr (by decide) (by rfl) (pa_cons (pe_k C_are_votes hr (by decide) (by rfl) (pa_cons (pv 4) pa_nil)) (pa_cons (pe_and (pv 5) (pe_one (pe_cmpR op_gt (pe_callB (cr_sumTK (K := K) rfl rfl) (by rfl) B.sum (by decide +kernel) (pa_cons (pv 4) pa_nil)) pe_int (nomark _)))) pa_nil))))) (pss_one (ps_ret pe_bl)) pss_nil)
        (pss_cons (ps_set (i := 6) sc_law.nd rfl (Or.inl rfl) (pe_k C__law_maybe hr (by decide) (by rfl) (pa_cons (pv 2) (pa_cons (pe_k C__law_mixed hr (by decide) (by rfl) (pa_cons (pv 0) (pa_cons pe_int pa_nil))) pa_nil))))
        (pss_cons (ps_if (pt_not (pt_val (pe_k C__law_same hr (by decide) (by rfl) (pa_cons (pe_k C_is_scale hr (by decide) (by rfl) (pa_cons (pv 6) pa_nil)) (pa_cons (pe_and (pe_k C__law_are hr (by decide) (by rfl) (pa_cons (pv 6) (pa_cons pe_int (pa_cons pe_int pa_nil)))) (pe_one (pe_cmpR op_eq (pe_callB (call_lenK (K := K) rfl) (by rfl) B.len PySem.boot_len (pa_cons (pv 6) pa_nil)) pe_int (nomark _)))) pa_nil))))) (pss_one (ps_ret pe_bl)) pss_nil)
        (pss_cons (ps_set (i := 7) sc_law.nd rfl (Or.inl rfl) (pe_k C__law_maybe hr (by decide) (by rfl) (pa_cons (pe_k C__law_dealt hr (by decide) (by rfl) (pa_cons (pv 1) (pa_cons (pv 3) (pa_cons (pv 2) pa_nil)))) (pa_cons (pe_k C__law_mixed hr (by decide) (by rfl) (pa_cons (pv 0) (pa_cons pe_int pa_nil))) pa_nil))))
        (pss_one (ps_ret (pe_k C__law_same hr (by decide) (by rfl) (pa_cons (pe_k C_are_given hr (by decide) (by rfl) (pa_cons (pv 7) (pa_cons (pv 1) pa_nil))) (pa_cons (pe_and (pe_k C__law_are hr (by decide) (by rfl) (pa_cons (pv 7) (pa_cons pe_int (pa_cons pe_int pa_nil)))) (pe_one (pe_cmpR op_eq (pe_callB (call_lenK (K := K) rfl) (by rfl) B.len PySem.boot_len (pa_cons (pv 7) pa_nil)) (pe_callB (call_lenK (K := K) rfl) (by rfl) B.len PySem.boot_len (pa_cons (pv 1) pa_nil)) (nomark _)))) pa_nil)))))))))))))), ?_⟩
    refine q_asgW (ep_call (ea_cons (ev_call0 (ea_cons (ev_var rfl) (ea_cons ev_c ea_nil)) (sv_mixed 0 S)) (ea_cons ev_c ea_nil)) (sv_votes (Bd.mixed ns 0) (by decide))) fun p H1 e1 hp => ?_
    have S1 := S.mono e1
    have V1 := vo_of hp (by decide) (by decide)
    have vbd := Bd.votesOf_bd (n := Bd.mixed ns 0) (most := 1000000) (by decide)
    have vsum := Bd.votesOf_sum (n := Bd.mixed ns 0) (most := 1000000) (by decide)
    refine q_asgW (ep_call (ea_cons (ev_call0 (ea_cons (ev_var rfl) (ea_cons ev_c ea_nil)) (sv_mixed 1 S1)) ea_nil) (sv_scale (Bd.mixed ns 1))) fun s H2 e2 hs => ?_
    have S2 := S1.mono e2
    have V2 := V1.mono e2
    have T2 : Sl H2 s _ _ := ⟨hs, Bd.scaleOf_sc _⟩
    have hm : 0 ≤ Bd.mixed ns 2 % 61 ∧ Bd.mixed ns 2 % 61 < 61 := ⟨Int.emod_nonneg _ (by decide), Int.emod_lt_of_pos _ (by decide)⟩
    obtain ⟨n, hn, en⟩ : ∃ n : Nat, n ≤ 60 ∧ Bd.mixed ns 2 % 61 = (n : Int) := ⟨(Bd.mixed ns 2 % 61).toNat, by omega, by omega⟩
    refine q_asg (ev_is (ev_op (ev_call0 (ea_cons (ev_var rfl) (ea_cons ev_c ea_nil)) (sv_mixed 2 S2)) ev_c (rv_I (by decide))) (by rw [en])) fun H3 e3 => ?_
    have e03 := (e1.trans e2).trans e3
    have S3 := S2.mono e3
    have V3 := V2.mono e3
    have T3 := T2.mono e3
    generalize Bd.votesOf (Bd.mixed ns 0) 1000000 = vs at V1 V2 V3 hp vbd vsum
    generalize (Bd.scaleOf (Bd.mixed ns 1)).1 = a at T2 T3 hs
    generalize (Bd.scaleOf (Bd.mixed ns 1)).2 = b at T2 T3 hs
    clear hp hs V1 V2 T2 S1 S2 hm en
    have st := Bd.stable_given T3.sc V3.nn V3.pos n
    have t8 : Th8 H3 p (iv vs) := ⟨V3.here, fun x hx => iv_kd hx, by rw [iv_len]; exact V3.pos, by rw [iv_len]; exact V3.len⟩
    -- some = maybe(votes, ..), due
    refine q_asgP (ep_call (ea_cons (ev_var rfl) (ea_cons (ev_call0 (ea_cons (ev_var rfl) (ea_cons ev_c ea_nil)) (sv_mixed 3 S3)) ea_nil)) (sv_spoilt (Bd.mixed ns 3) t8)) fun x H4 e4 hx => ?_
    obtain ⟨o, ho⟩ := hx
    refine q_asg (v := .bl (areB o 0 1000000 && lenIn o 1 8)) (ev_andV (ev_call0 (ea_cons (ev_var rfl) (ea_cons ev_c (ea_cons ev_c ea_nil))) (sv_are ho)) fun h => ?_) fun H5 e5 => ?_
    · cases o with
      | none => cases h
      | some xs =>
        obtain ⟨a', rfl, ha, _, _⟩ := ho.of
        exact ev_chain ev_c (ev_lenW (ew_var rfl ha)) ev_c
    have ho5 := ho.mono e5
    have sumB : ∀ {σ : L2.St}, σ[4]? = some (some x) → (areB o 0 1000000 && lenIn o 1 8) = true → Ev (tOp (rI0 fun i j => .bl (decide (j < i))) (tCB (rSumT K) (tCons (tVar 4) tNil)) (tC (.int 0))) σ H5 (.bl (notAll0 o)) := fun hv h => by
      cases o with
      | none => cases h
      | some xs =>
        obtain ⟨a', rfl, ha, _, _⟩ := ho5.of
        obtain ⟨is, rfl, hn'⟩ := nums_of ((Bool.and_eq_true _ _).mp h).1
        exact ev_is (ev_op (ev_sumW (ew_var hv ha)) ev_c rv_I0) (by rw [← (sum_pos hn').2])
    refine q_skip (et_is (et_not (et_B (ev_call0 (ea_cons (ev_call0 (ea_cons (ev_var rfl) ea_nil) (sv_areVotes ho5)) (ea_cons (ev_andV (b := notAll0 o) (ev_var rfl) fun h => sumB rfl h) ea_nil)) sv_same))) (all3 _ _ _)) fun H6 e6 => ?_
    have e36 := (e4.trans e5).trans e6
    have S6 := S3.mono e36
    have V6 := V3.mono e36
    have T6 := T3.mono e36
    -- thing = maybe(scale, ..)
    have s8 : Th8 H6 s [.int a, .int b] := ⟨T6.here, fun x hx => by
      rcases List.mem_cons.mp hx with rfl | hx
      · exact .int _
      · rw [List.mem_singleton.mp hx]
        exact .int _, by show 0 < 2; decide, by show 2 ≤ 8; decide⟩
    refine q_asgP (ep_call (ea_cons (ev_var rfl) (ea_cons (ev_call0 (ea_cons (ev_var rfl) (ea_cons ev_c ea_nil)) (sv_mixed 4 S6)) ea_nil)) (sv_spoilt (Bd.mixed ns 4) s8)) fun y H7 e7 hy => ?_
    obtain ⟨o2, ho2⟩ := hy
    have len2 : ∀ {σ : L2.St}, σ[6]? = some (some y) → areB o2 1 10 = true → Ev (tOp rEq (tCB (rLenS K) (tCons (tVar 6) tNil)) (tC (.int 2))) σ H7 (.bl (lenIs o2 2)) := fun hv h => by
      cases o2 with
      | none => cases h
      | some xs =>
        obtain ⟨a', rfl, ha, _, _⟩ := ho2.of
        exact ev_is (ev_op (ev_lenW (ew_var hv ha)) ev_c (rv_eq rfl)) (congrArg V.bl (dec_eq_int _ _))
    refine q_skip (et_is (et_not (et_B (ev_call0 (ea_cons (ev_call0 (ea_cons (ev_var rfl) ea_nil) (sv_isScale ho2)) (ea_cons (ev_andV (b := lenIs o2 2) (ev_call0 (ea_cons (ev_var rfl) (ea_cons ev_c (ea_cons ev_c ea_nil))) (sv_are ho2)) fun h => len2 rfl h) ea_nil)) sv_same))) (all2n _ _)) fun H8 e8 => ?_
    have S8 := S6.mono (e7.trans e8)
    have V8 := V6.mono (e7.trans e8)
    have T8 := T6.mono (e7.trans e8)
    -- given = maybe(dealt(..), ..)
    refine q_asgP (P := ThP) (ep_callA (eap_cons (P := IsT (iv (Bd.givenTo vs a b n))) (ep_call (ea_cons (ev_var rfl) (ea_cons (ev_var rfl) (ea_cons (ev_var rfl) ea_nil))) (sv_dealt V8 hn T8)) (eap_consV (ev_call0 (ea_cons (ev_var rfl) (ea_cons ev_c ea_nil)) (sv_mixed 5 S8)) eap_nil) (fun _ _ _ e h => h.mono e)) fun ws H9 e9 hw => ?_) fun z H9 e9 hz => ?_
    · obtain ⟨w, r, rfl, ⟨g, rfl, hg⟩, r1, rfl, rfl⟩ := hw
      have G9 := gi_of hg V8.pos hn
      exact sv_spoilt (Bd.mixed ns 5) ⟨hg, fun x hx => iv_kd hx, by rw [iv_len, G9.len]; exact V8.pos, by rw [iv_len, G9.len]; exact V8.len⟩
    obtain ⟨o3, ho3⟩ := hz
    have V9 := V8.mono e9
    have len3 : ∀ {σ : L2.St}, σ[7]? = some (some z) → σ[1]? = some (some (.ref p)) → areB o3 0 60 = true → Ev (tOp rEq (tCB (rLenS K) (tCons (tVar 7) tNil)) (tCB (rLenS K) (tCons (tVar 1) tNil))) σ H9 (.bl (lenIs o3 (iv vs).length)) := fun hv hv1 h => by
      cases o3 with
      | none => cases h
      | some xs =>
        obtain ⟨a', rfl, ha, _, _⟩ := ho3.of
        exact ev_is (ev_op (ev_lenW (ew_var hv ha)) (ev_lenW (ew_var hv1 V9.here)) (rv_eq rfl)) (congrArg V.bl (dec_eq_int _ _))
    refine s_ret (v := .bl true) (ev_is (ev_call0 (ea_cons (ev_call0 (ea_cons (ev_var rfl) (ea_cons (ev_var rfl) ea_nil)) (sv_areGiven ho3 V9.here)) (ea_cons (ev_andV (b := lenIs o3 (iv vs).length) (ev_call0 (ea_cons (ev_var rfl) (ea_cons ev_c (ea_cons ev_c ea_nil))) (sv_are ho3)) fun h => len3 rfl rfl h) ea_nil)) sv_same) (congrArg V.bl (all2 _ _))) fun H10 e10 => q H10
end
/-! what the top has written, and the law's own head -/
theorem all_mk {l : PySem.W.OpenLaw} {w : World} {K : PySem.W.Frag} {h : Heap} {mg : Str → Option Value} {fa f1 f2 f3 f4 f5 f6 f7 f8 f9 f10 f11 f12 f13 f14 f15 f16 f17 f18 f19 : Addr} (X : K.In h) (G : h.Ns mainGlobals mg) (hfa : mg "law" = some (.ref fa))
    {od1 an1 : Option Addr} {sl1 : Array (Option Value)} {oc1 kV1 dc1 pm1 cd1 ct1 : Value} (a1 : PySem.W.nsIn K mainGlobals "_law_drawn" = some (some (.ref f1))) (l1 : K.lookup f1 = some ⟨oc1, od1, .func (PySem.W.fnOf "_law_drawn" "_law_drawn" (defArgs s__law_drawn) (defBody s__law_drawn) (defScope s__law_drawn) .none kV1 dc1 pm1 an1 cd1 ct1), sl1⟩) (c1 : PySem.W.codeIn K cd1 "_law_drawn" = true) (k1 : PySem.W.keepIn K (.ref f1) = true)
    {od2 an2 : Option Addr} {sl2 : Array (Option Value)} {oc2 kV2 dc2 pm2 cd2 ct2 : Value} (a2 : PySem.W.nsIn K mainGlobals "_law_votes" = some (some (.ref f2))) (l2 : K.lookup f2 = some ⟨oc2, od2, .func (PySem.W.fnOf "_law_votes" "_law_votes" (defArgs s__law_votes) (defBody s__law_votes) (defScope s__law_votes) .none kV2 dc2 pm2 an2 cd2 ct2), sl2⟩) (c2 : PySem.W.codeIn K cd2 "_law_votes" = true) (k2 : PySem.W.keepIn K (.ref f2) = true)
    {od3 an3 : Option Addr} {sl3 : Array (Option Value)} {oc3 kV3 dc3 pm3 cd3 ct3 : Value} (a3 : PySem.W.nsIn K mainGlobals "_law_scale" = some (some (.ref f3))) (l3 : K.lookup f3 = some ⟨oc3, od3, .func (PySem.W.fnOf "_law_scale" "_law_scale" (defArgs s__law_scale) (defBody s__law_scale) (defScope s__law_scale) .none kV3 dc3 pm3 an3 cd3 ct3), sl3⟩) (c3 : PySem.W.codeIn K cd3 "_law_scale" = true) (k3 : PySem.W.keepIn K (.ref f3) = true)
    {od4 an4 : Option Addr} {sl4 : Array (Option Value)} {oc4 kV4 dc4 pm4 cd4 ct4 : Value} (a4 : PySem.W.nsIn K mainGlobals "_law_odd" = some (some (.ref f4))) (l4 : K.lookup f4 = some ⟨oc4, od4, .func (PySem.W.fnOf "_law_odd" "_law_odd" (defArgs s__law_odd) (defBody s__law_odd) (defScope s__law_odd) .none kV4 dc4 pm4 an4 cd4 ct4), sl4⟩) (c4 : PySem.W.codeIn K cd4 "_law_odd" = true) (k4 : PySem.W.keepIn K (.ref f4) = true)
    {od5 an5 : Option Addr} {sl5 : Array (Option Value)} {oc5 kV5 dc5 pm5 cd5 ct5 : Value} (a5 : PySem.W.nsIn K mainGlobals "_law_spoilt" = some (some (.ref f5))) (l5 : K.lookup f5 = some ⟨oc5, od5, .func (PySem.W.fnOf "_law_spoilt" "_law_spoilt" (defArgs s__law_spoilt) (defBody s__law_spoilt) (defScope s__law_spoilt) .none kV5 dc5 pm5 an5 cd5 ct5), sl5⟩) (c5 : PySem.W.codeIn K cd5 "_law_spoilt" = true) (k5 : PySem.W.keepIn K (.ref f5) = true)
    {od6 an6 : Option Addr} {sl6 : Array (Option Value)} {oc6 kV6 dc6 pm6 cd6 ct6 : Value} (a6 : PySem.W.nsIn K mainGlobals "_law_maybe" = some (some (.ref f6))) (l6 : K.lookup f6 = some ⟨oc6, od6, .func (PySem.W.fnOf "_law_maybe" "_law_maybe" (defArgs s__law_maybe) (defBody s__law_maybe) (defScope s__law_maybe) .none kV6 dc6 pm6 an6 cd6 ct6), sl6⟩) (c6 : PySem.W.codeIn K cd6 "_law_maybe" = true) (k6 : PySem.W.keepIn K (.ref f6) = true)
    {od7 an7 : Option Addr} {sl7 : Array (Option Value)} {oc7 kV7 dc7 pm7 cd7 ct7 : Value} (a7 : PySem.W.nsIn K mainGlobals "_law_same" = some (some (.ref f7))) (l7 : K.lookup f7 = some ⟨oc7, od7, .func (PySem.W.fnOf "_law_same" "_law_same" (defArgs s__law_same) (defBody s__law_same) (defScope s__law_same) .none kV7 dc7 pm7 an7 cd7 ct7), sl7⟩) (c7 : PySem.W.codeIn K cd7 "_law_same" = true) (k7 : PySem.W.keepIn K (.ref f7) = true)
    {od8 an8 : Option Addr} {sl8 : Array (Option Value)} {oc8 kV8 dc8 pm8 cd8 ct8 : Value} (a8 : PySem.W.nsIn K mainGlobals "_law_cell_at" = some (some (.ref f8))) (l8 : K.lookup f8 = some ⟨oc8, od8, .func (PySem.W.fnOf "_law_cell_at" "_law_cell_at" (defArgs s__law_cell_at) (defBody s__law_cell_at) (defScope s__law_cell_at) .none kV8 dc8 pm8 an8 cd8 ct8), sl8⟩) (c8 : PySem.W.codeIn K cd8 "_law_cell_at" = true) (k8 : PySem.W.keepIn K (.ref f8) = true)
    {od9 an9 : Option Addr} {sl9 : Array (Option Value)} {oc9 kV9 dc9 pm9 cd9 ct9 : Value} (a9 : PySem.W.nsIn K mainGlobals "_law_mixed" = some (some (.ref f9))) (l9 : K.lookup f9 = some ⟨oc9, od9, .func (PySem.W.fnOf "_law_mixed" "_law_mixed" (defArgs s__law_mixed) (defBody s__law_mixed) (defScope s__law_mixed) .none kV9 dc9 pm9 an9 cd9 ct9), sl9⟩) (c9 : PySem.W.codeIn K cd9 "_law_mixed" = true) (k9 : PySem.W.keepIn K (.ref f9) = true)
    {od10 an10 : Option Addr} {sl10 : Array (Option Value)} {oc10 kV10 dc10 pm10 cd10 ct10 : Value} (a10 : PySem.W.nsIn K mainGlobals "_law_number" = some (some (.ref f10))) (l10 : K.lookup f10 = some ⟨oc10, od10, .func (PySem.W.fnOf "_law_number" "_law_number" (defArgs s__law_number) (defBody s__law_number) (defScope s__law_number) .none kV10 dc10 pm10 an10 cd10 ct10), sl10⟩) (c10 : PySem.W.codeIn K cd10 "_law_number" = true) (k10 : PySem.W.keepIn K (.ref f10) = true)
    {od11 an11 : Option Addr} {sl11 : Array (Option Value)} {oc11 kV11 dc11 pm11 cd11 ct11 : Value} (a11 : PySem.W.nsIn K mainGlobals "_law_are" = some (some (.ref f11))) (l11 : K.lookup f11 = some ⟨oc11, od11, .func (PySem.W.fnOf "_law_are" "_law_are" (defArgs s__law_are) (defBody s__law_are) (defScope s__law_are) .none kV11 dc11 pm11 an11 cd11 ct11), sl11⟩) (c11 : PySem.W.codeIn K cd11 "_law_are" = true) (k11 : PySem.W.keepIn K (.ref f11) = true)
    {od12 an12 : Option Addr} {sl12 : Array (Option Value)} {oc12 kV12 dc12 pm12 cd12 ct12 : Value} (a12 : PySem.W.nsIn K mainGlobals "_law_mark" = some (some (.ref f12))) (l12 : K.lookup f12 = some ⟨oc12, od12, .func (PySem.W.fnOf "_law_mark" "_law_mark" (defArgs s__law_mark) (defBody s__law_mark) (defScope s__law_mark) .none kV12 dc12 pm12 an12 cd12 ct12), sl12⟩) (c12 : PySem.W.codeIn K cd12 "_law_mark" = true) (k12 : PySem.W.keepIn K (.ref f12) = true)
    {od13 an13 : Option Addr} {sl13 : Array (Option Value)} {oc13 kV13 dc13 pm13 cd13 ct13 : Value} (a13 : PySem.W.nsIn K mainGlobals "_law_next" = some (some (.ref f13))) (l13 : K.lookup f13 = some ⟨oc13, od13, .func (PySem.W.fnOf "_law_next" "_law_next" (defArgs s__law_next) (defBody s__law_next) (defScope s__law_next) .none kV13 dc13 pm13 an13 cd13 ct13), sl13⟩) (c13 : PySem.W.codeIn K cd13 "_law_next" = true) (k13 : PySem.W.keepIn K (.ref f13) = true)
    {od14 an14 : Option Addr} {sl14 : Array (Option Value)} {oc14 kV14 dc14 pm14 cd14 ct14 : Value} (a14 : PySem.W.nsIn K mainGlobals "_law_dealt" = some (some (.ref f14))) (l14 : K.lookup f14 = some ⟨oc14, od14, .func (PySem.W.fnOf "_law_dealt" "_law_dealt" (defArgs s__law_dealt) (defBody s__law_dealt) (defScope s__law_dealt) .none kV14 dc14 pm14 an14 cd14 ct14), sl14⟩) (c14 : PySem.W.codeIn K cd14 "_law_dealt" = true) (k14 : PySem.W.keepIn K (.ref f14) = true)
    {od15 an15 : Option Addr} {sl15 : Array (Option Value)} {oc15 kV15 dc15 pm15 cd15 ct15 : Value} (a15 : PySem.W.nsIn K mainGlobals "is_number" = some (some (.ref f15))) (l15 : K.lookup f15 = some ⟨oc15, od15, .func (PySem.W.fnOf "is_number" "is_number" (defArgs s_is_number) (defBody s_is_number) (defScope s_is_number) .none kV15 dc15 pm15 an15 cd15 ct15), sl15⟩) (c15 : PySem.W.codeIn K cd15 "is_number" = true) (k15 : PySem.W.keepIn K (.ref f15) = true)
    {od16 an16 : Option Addr} {sl16 : Array (Option Value)} {oc16 kV16 dc16 pm16 cd16 ct16 : Value} (a16 : PySem.W.nsIn K mainGlobals "are_given" = some (some (.ref f16))) (l16 : K.lookup f16 = some ⟨oc16, od16, .func (PySem.W.fnOf "are_given" "are_given" (defArgs s_are_given) (defBody s_are_given) (defScope s_are_given) .none kV16 dc16 pm16 an16 cd16 ct16), sl16⟩) (c16 : PySem.W.codeIn K cd16 "are_given" = true) (k16 : PySem.W.keepIn K (.ref f16) = true)
    {od17 an17 : Option Addr} {sl17 : Array (Option Value)} {oc17 kV17 dc17 pm17 cd17 ct17 : Value} (a17 : PySem.W.nsIn K mainGlobals "are_votes" = some (some (.ref f17))) (l17 : K.lookup f17 = some ⟨oc17, od17, .func (PySem.W.fnOf "are_votes" "are_votes" (defArgs s_are_votes) (defBody s_are_votes) (defScope s_are_votes) .none kV17 dc17 pm17 an17 cd17 ct17), sl17⟩) (c17 : PySem.W.codeIn K cd17 "are_votes" = true) (k17 : PySem.W.keepIn K (.ref f17) = true)
    {od18 an18 : Option Addr} {sl18 : Array (Option Value)} {oc18 kV18 dc18 pm18 cd18 ct18 : Value} (a18 : PySem.W.nsIn K mainGlobals "is_scale" = some (some (.ref f18))) (l18 : K.lookup f18 = some ⟨oc18, od18, .func (PySem.W.fnOf "is_scale" "is_scale" (defArgs s_is_scale) (defBody s_is_scale) (defScope s_is_scale) .none kV18 dc18 pm18 an18 cd18 ct18), sl18⟩) (c18 : PySem.W.codeIn K cd18 "is_scale" = true) (k18 : PySem.W.keepIn K (.ref f18) = true)
    {od19 an19 : Option Addr} {sl19 : Array (Option Value)} {oc19 kV19 dc19 pm19 cd19 ct19 : Value} (a19 : PySem.W.nsIn K mainGlobals "law" = some (some (.ref f19))) (l19 : K.lookup f19 = some ⟨oc19, od19, .func (PySem.W.fnOf "law" "law" (defArgs s_law) (defBody s_law) (defScope s_law) .none kV19 dc19 pm19 an19 cd19 ct19), sl19⟩) (c19 : PySem.W.codeIn K cd19 "law" = true) (k19 : PySem.W.keepIn K (.ref f19) = true)
    (z_len : PySem.W.nsIn K mainGlobals "len" = some none)
    (z_range : PySem.W.nsIn K mainGlobals "range" = some none)
    (z_tuple : PySem.W.nsIn K mainGlobals "tuple" = some none)
    (z_list : PySem.W.nsIn K mainGlobals "list" = some none)
    (z_sum : PySem.W.nsIn K mainGlobals "sum" = some none)
    (z_int : PySem.W.nsIn K mainGlobals "int" = some none)
    (z_bool : PySem.W.nsIn K mainGlobals "bool" = some none)
    (z_isinstance : PySem.W.nsIn K mainGlobals "isinstance" = some none)
    (z_enumerate : PySem.W.nsIn K mainGlobals "enumerate" = some none)
    (z_max : PySem.W.nsIn K mainGlobals "max" = some none)
    (z_min : PySem.W.nsIn K mainGlobals "min" = some none)
    (z_all : PySem.W.nsIn K mainGlobals "all" = some none)
    (z_any : PySem.W.nsIn K mainGlobals "any" = some none)
    {tk_MOST_LISTS : Tok} (g_MOST_LISTS : PySem.W.nsIn K mainGlobals "MOST_LISTS" = some (some (.int 8 tk_MOST_LISTS)))
    {tk_MOST_MARK : Tok} (g_MOST_MARK : PySem.W.nsIn K mainGlobals "MOST_MARK" = some (some (.int 10 tk_MOST_MARK)))
    {tk_MOST_SEATS : Tok} (g_MOST_SEATS : PySem.W.nsIn K mainGlobals "MOST_SEATS" = some (some (.int 60 tk_MOST_SEATS)))
    {tk_MOST_VOTES : Tok} (g_MOST_VOTES : PySem.W.nsIn K mainGlobals "MOST_VOTES" = some (some (.int 1000000 tk_MOST_VOTES)))
    : ∃ fd : FuncData, (∀ (s : Shared) (v : Value), BindsTo s fd ⟨[v], []⟩ [("_law_script", v)]) ∧ ∀ base : Heap, K.In base → base.Ns mainGlobals mg → FnOk l.prog w K mg base CX0 4 fa fd ["_law_script"] (spLaw K) := by
  have e := hfa.symm.trans (PySem.W.mg_of X G a19)
  cases e
  have B : Blt mg := ⟨PySem.W.mg_none_of X G z_len, PySem.W.mg_none_of X G z_range, PySem.W.mg_none_of X G z_tuple, PySem.W.mg_none_of X G z_list, PySem.W.mg_none_of X G z_sum, PySem.W.mg_none_of X G z_int, PySem.W.mg_none_of X G z_bool, PySem.W.mg_none_of X G z_isinstance, PySem.W.mg_none_of X G z_enumerate, PySem.W.mg_none_of X G z_max, PySem.W.mg_none_of X G z_min, PySem.W.mg_none_of X G z_all, PySem.W.mg_none_of X G z_any⟩
  have M : Cst mg := ⟨⟨_, PySem.W.mg_of X G g_MOST_LISTS⟩, ⟨_, PySem.W.mg_of X G g_MOST_MARK⟩, ⟨_, PySem.W.mg_of X G g_MOST_SEATS⟩, ⟨_, PySem.W.mg_of X G g_MOST_VOTES⟩⟩
  have F1 := fun_mk (st := s__law_drawn) l1 c1 k1
  have b1 := F1.binds (ps := ["_law_number_here", "_law_k"]) fun _ _ _ _ _ _ us hl => match us, hl with | [_, _], _ => rfl
  have F2 := fun_mk (st := s__law_votes) l2 c2 k2
  have b2 := F2.binds (ps := ["_law_number_here", "_law_most"]) fun _ _ _ _ _ _ us hl => match us, hl with | [_, _], _ => rfl
  have F3 := fun_mk (st := s__law_scale) l3 c3 k3
  have b3 := F3.binds (ps := ["_law_number_here"]) fun _ _ _ _ _ _ us hl => match us, hl with | [_], _ => rfl
  have F4 := fun_mk (st := s__law_odd) l4 c4 k4
  have b4 := F4.binds (ps := ["_law_number_here"]) fun _ _ _ _ _ _ us hl => match us, hl with | [_], _ => rfl
  have F5 := fun_mk (st := s__law_spoilt) l5 c5 k5
  have b5 := F5.binds (ps := ["_law_thing", "_law_number_here"]) fun _ _ _ _ _ _ us hl => match us, hl with | [_, _], _ => rfl
  have F6 := fun_mk (st := s__law_maybe) l6 c6 k6
  have b6 := F6.binds (ps := ["_law_thing", "_law_number_here"]) fun _ _ _ _ _ _ us hl => match us, hl with | [_, _], _ => rfl
  have F7 := fun_mk (st := s__law_same) l7 c7 k7
  have b7 := F7.binds (ps := ["_law_found", "_law_due"]) fun _ _ _ _ _ _ us hl => match us, hl with | [_, _], _ => rfl
  have F8 := fun_mk (st := s__law_cell_at) l8 c8 k8
  have b8 := F8.binds (ps := ["_law_script", "_law_k"]) fun _ _ _ _ _ _ us hl => match us, hl with | [_, _], _ => rfl
  have F9 := fun_mk (st := s__law_mixed) l9 c9 k9
  have b9 := F9.binds (ps := ["_law_script", "_law_k"]) fun _ _ _ _ _ _ us hl => match us, hl with | [_, _], _ => rfl
  have F10 := fun_mk (st := s__law_number) l10 c10 k10
  have b10 := F10.binds (ps := ["_law_thing", "_law_low", "_law_high"]) fun _ _ _ _ _ _ us hl => match us, hl with | [_, _, _], _ => rfl
  have F11 := fun_mk (st := s__law_are) l11 c11 k11
  have b11 := F11.binds (ps := ["_law_thing", "_law_low", "_law_high"]) fun _ _ _ _ _ _ us hl => match us, hl with | [_, _, _], _ => rfl
  have F12 := fun_mk (st := s__law_mark) l12 c12 k12
  have b12 := F12.binds (ps := ["_law_scale_here", "_law_k"]) fun _ _ _ _ _ _ us hl => match us, hl with | [_, _], _ => rfl
  have F13 := fun_mk (st := s__law_next) l13 c13 k13
  have b13 := F13.binds (ps := ["_law_votes_here", "_law_given", "_law_scale_here"]) fun _ _ _ _ _ _ us hl => match us, hl with | [_, _, _], _ => rfl
  have F14 := fun_mk (st := s__law_dealt) l14 c14 k14
  have b14 := F14.binds (ps := ["_law_votes_here", "_law_seats", "_law_scale_here"]) fun _ _ _ _ _ _ us hl => match us, hl with | [_, _, _], _ => rfl
  have F15 := fun_mk (st := s_is_number) l15 c15 k15
  have b15 := F15.binds (ps := ["thing", "low", "high"]) fun _ _ _ _ _ _ us hl => match us, hl with | [_, _, _], _ => rfl
  have F16 := fun_mk (st := s_are_given) l16 c16 k16
  have b16 := F16.binds (ps := ["thing", "votes"]) fun _ _ _ _ _ _ us hl => match us, hl with | [_, _], _ => rfl
  have F17 := fun_mk (st := s_are_votes) l17 c17 k17
  have b17 := F17.binds (ps := ["thing"]) fun _ _ _ _ _ _ us hl => match us, hl with | [_], _ => rfl
  have F18 := fun_mk (st := s_is_scale) l18 c18 k18
  have b18 := F18.binds (ps := ["thing"]) fun _ _ _ _ _ _ us hl => match us, hl with | [_], _ => rfl
  have F19 := fun_mk (st := s_law) l19 c19 k19
  have b19 := F19.binds (ps := ["_law_script"]) fun _ _ _ _ _ _ us hl => match us, hl with | [_], _ => rfl
  refine ⟨PySem.W.fnOf "law" "law" (defArgs s_law) (defBody s_law) (defScope s_law) .none kV19 dc19 pm19 an19 cd19 ct19, fun s v => .of_eq rfl, fun base _ _ => ?_⟩
  have C1 := cal__law_drawn (P := l.prog) (w := w) (base := base) F1 (PySem.W.mg_of X G a1) b1 B 
  have C2 := cal__law_votes (P := l.prog) (w := w) (base := base) F2 (PySem.W.mg_of X G a2) b2 B C1
  have C3 := cal__law_scale (P := l.prog) (w := w) (base := base) F3 (PySem.W.mg_of X G a3) b3 B 
  have C4 := cal__law_odd (P := l.prog) (w := w) (base := base) F4 (PySem.W.mg_of X G a4) b4 B 
  have C5 := cal__law_spoilt (P := l.prog) (w := w) (base := base) F5 (PySem.W.mg_of X G a5) b5 B C4
  have C6 := cal__law_maybe (P := l.prog) (w := w) (base := base) F6 (PySem.W.mg_of X G a6) b6 B C5
  have C7 := cal__law_same (P := l.prog) (w := w) (base := base) F7 (PySem.W.mg_of X G a7) b7 B 
  have C8 := cal__law_cell_at (P := l.prog) (w := w) (base := base) F8 (PySem.W.mg_of X G a8) b8 B 
  have C9 := cal__law_mixed (P := l.prog) (w := w) (base := base) F9 (PySem.W.mg_of X G a9) b9 B C8
  have C10 := cal__law_number (P := l.prog) (w := w) (base := base) F10 (PySem.W.mg_of X G a10) b10 B 
  have C11 := cal__law_are (P := l.prog) (w := w) (base := base) F11 (PySem.W.mg_of X G a11) b11 B C10
  have C12 := cal__law_mark (P := l.prog) (w := w) (base := base) F12 (PySem.W.mg_of X G a12) b12 B 
  have C13 := cal__law_next (P := l.prog) (w := w) (base := base) F13 (PySem.W.mg_of X G a13) b13 B C12
  have C14 := cal__law_dealt (P := l.prog) (w := w) (base := base) F14 (PySem.W.mg_of X G a14) b14 B C13
  have C15 := cal_is_number (P := l.prog) (w := w) (base := base) F15 (PySem.W.mg_of X G a15) b15 B 
  have C16 := cal_are_given (P := l.prog) (w := w) (base := base) F16 (PySem.W.mg_of X G a16) b16 B M C15
  have C17 := cal_are_votes (P := l.prog) (w := w) (base := base) F17 (PySem.W.mg_of X G a17) b17 B M C15
  have C18 := cal_is_scale (P := l.prog) (w := w) (base := base) F18 (PySem.W.mg_of X G a18) b18 B M C15
  exact cal_law_fn F19 B  C2 C3 C6 C7 C9 C11 C14 C16 C17 C18
end Bk
open PySem PySem.W PyProof.Rows
set_option maxRecDepth 100000 in
set_option maxHeartbeats 0 in
theorem PySem.Challenge.cw_benchdeal_k01_things_holds : PySem.Challenge.rw_benchdeal_k01_things.Holds := by
  w_on; o_law; k_head; (case hw => w_witness2)
  k_fill
  refine L2.walk_of (l := PySem.Challenge.rw_benchdeal_k01_things) (n := 63) (k := 4) (x := "_law_script") (CX := fun _ => L2.CX0) (sp := fun w => Bk.spLaw _) rfl (by decide) rfl ⟨rfl, by decide, by decide⟩ (fun w h Y => PySem.W.kIn_of Y) ?F (fun _ _ a ns hl _ hS => ⟨a, ns, rfl, ⟨hS, hl⟩, fun _ => rfl⟩) (fun _ _ _ _ _ h => h)
  case F =>
    intro w mg fa h KX G hmg
    refine' Bk.all_mk KX G hmg ?a1 ?l1 ?c1 ?k1 ?a2 ?l2 ?c2 ?k2 ?a3 ?l3 ?c3 ?k3 ?a4 ?l4 ?c4 ?k4 ?a5 ?l5 ?c5 ?k5 ?a6 ?l6 ?c6 ?k6 ?a7 ?l7 ?c7 ?k7 ?a8 ?l8 ?c8 ?k8 ?a9 ?l9 ?c9 ?k9 ?a10 ?l10 ?c10 ?k10 ?a11 ?l11 ?c11 ?k11 ?a12 ?l12 ?c12 ?k12 ?a13 ?l13 ?c13 ?k13 ?a14 ?l14 ?c14 ?k14 ?a15 ?l15 ?c15 ?k15 ?a16 ?l16 ?c16 ?k16 ?a17 ?l17 ?c17 ?k17 ?a18 ?l18 ?c18 ?k18 ?a19 ?l19 ?c19 ?k19 ?z_len ?z_range ?z_tuple ?z_list ?z_sum ?z_int ?z_bool ?z_isinstance ?z_enumerate ?z_max ?z_min ?z_all ?z_any ?g_MOST_LISTS ?g_MOST_MARK ?g_MOST_SEATS ?g_MOST_VOTES
    (case a1 => k_is)
    (case l1 => k_is)
    (case c1 => k_is)
    (case k1 => k_is)
    (case a2 => k_is)
    (case l2 => k_is)
    (case c2 => k_is)
    (case k2 => k_is)
    (case a3 => k_is)
    (case l3 => k_is)
    (case c3 => k_is)
    (case k3 => k_is)
    (case a4 => k_is)
    (case l4 => k_is)
    (case c4 => k_is)
    (case k4 => k_is)
    (case a5 => k_is)
    (case l5 => k_is)
    (case c5 => k_is)
    (case k5 => k_is)
    (case a6 => k_is)
    (case l6 => k_is)
    (case c6 => k_is)
    (case k6 => k_is)
    (case a7 => k_is)
    (case l7 => k_is)
    (case c7 => k_is)
    (case k7 => k_is)
    (case a8 => k_is)
    (case l8 => k_is)
    (case c8 => k_is)
    (case k8 => k_is)
    (case a9 => k_is)
    (case l9 => k_is)
    (case c9 => k_is)
    (case k9 => k_is)
    (case a10 => k_is)
    (case l10 => k_is)
    (case c10 => k_is)
    (case k10 => k_is)
    (case a11 => k_is)
    (case l11 => k_is)
    (case c11 => k_is)
    (case k11 => k_is)
    (case a12 => k_is)
    (case l12 => k_is)
    (case c12 => k_is)
    (case k12 => k_is)
    (case a13 => k_is)
    (case l13 => k_is)
    (case c13 => k_is)
    (case k13 => k_is)
    (case a14 => k_is)
    (case l14 => k_is)
    (case c14 => k_is)
    (case k14 => k_is)
    (case a15 => k_is)
    (case l15 => k_is)
    (case c15 => k_is)
    (case k15 => k_is)
    (case a16 => k_is)
    (case l16 => k_is)
    (case c16 => k_is)
    (case k16 => k_is)
    (case a17 => k_is)
    (case l17 => k_is)
    (case c17 => k_is)
    (case k17 => k_is)
    (case a18 => k_is)
    (case l18 => k_is)
    (case c18 => k_is)
    (case k18 => k_is)
    (case a19 => k_is)
    (case l19 => k_is)
    (case c19 => k_is)
    (case k19 => k_is)
    (case z_len => k_is)
    (case z_range => k_is)
    (case z_tuple => k_is)
    (case z_list => k_is)
    (case z_sum => k_is)
    (case z_int => k_is)
    (case z_bool => k_is)
    (case z_isinstance => k_is)
    (case z_enumerate => k_is)
    (case z_max => k_is)
    (case z_min => k_is)
    (case z_all => k_is)
    (case z_any => k_is)
    (case g_MOST_LISTS => k_is)
    (case g_MOST_MARK => k_is)
    (case g_MOST_SEATS => k_is)
    (case g_MOST_VOTES => k_is)
#print axioms PySem.Challenge.cw_benchdeal_k01_things_holds
