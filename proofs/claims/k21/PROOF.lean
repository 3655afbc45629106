import PyProof.Rows.All
import Wide.All
import OpenK.AllK
import Wide.FinOn
import HandS.ForMost
import HandS.Exc
import HandS.Flow
import HandS.Style
import HandS.Small
import HandS.IsInst
import HandS.Zip
import HandS.Conv
import HandS.Deep
import HandS.Strs
import HandS.NoneIn
import HandS.DictComp
import HandS.Walk
import HandS.Wide
import HandS.TupAny
import HandS.TupLen
import HandS.Lambda
import HandS.TryOnly
import PySem.Challenge.RW_swaprow_k21_whole_reach_for_many
import KE.GoesEnum
import KE.GoesZip
import HandS.SetFor
import HandS.Set
import KE.KDictDisplayH
import HandS.SortRule
import PyProof.MinMaxWalk
import HandS.TupLe
import PyProof.FString5
import PyProof.Rows.InDataRows
import HandS.FStrTup
import PyProof.ReprHeadsTuple
import PyProof.StrHeap
import HandS.EndTab
import HandS.EndBits
import KE.KNest
import KE.KNestM
set_option Elab.async false
set_option linter.all false
set_option maxRecDepth 100000
set_option maxHeartbeats 4000000

/-! Counting, and what holds along valid swaps. -/
namespace Sw

/-- how many y below m satisfy f -/
def cnt (f : Nat → Bool) : Nat → Nat
  | 0 => 0
  | m + 1 => cnt f m + (if f m = true then 1 else 0)

theorem cnt_congr {f g : Nat → Bool} : ∀ {m : Nat}, (∀ y, y < m → f y = g y) → cnt f m = cnt g m
  | 0, _ => rfl
  | m + 1, h => by
    show cnt f m + _ = cnt g m + _
    rw [cnt_congr (m := m) fun y hy => h y (by omega), h m (by omega)]

theorem cnt_none {f : Nat → Bool} : ∀ {m : Nat}, (∀ y, y < m → f y = false) → cnt f m = 0
  | 0, _ => rfl
  | m + 1, h => by
    show cnt f m + _ = 0
    rw [cnt_none (m := m) fun y hy => h y (by omega), h m (by omega)]
    rfl

theorem cnt_le {f : Nat → Bool} : ∀ {m : Nat}, cnt f m ≤ m
  | 0 => Nat.le_refl _
  | m + 1 => by
    have := cnt_le (f := f) (m := m)
    show cnt f m + _ ≤ m + 1
    split <;> omega

theorem cnt_mono {f : Nat → Bool} {m k : Nat} (h : m ≤ k) : cnt f m ≤ cnt f k := by
  induction k with
  | zero => have : m = 0 := by omega
            subst this; exact Nat.le_refl _
  | succ k ih =>
    by_cases e : m = k + 1
    · subst e; exact Nat.le_refl _
    · have := ih (by omega)
      show cnt f m ≤ cnt f k + _
      omega

theorem cnt_sub {f g : Nat → Bool} : ∀ {m : Nat}, (∀ y, y < m → f y = true → g y = true) → cnt f m ≤ cnt g m
  | 0, _ => Nat.le_refl _
  | m + 1, h => by
    have ih := cnt_sub (m := m) fun y hy => h y (by omega)
    have hm := h m (by omega)
    show cnt f m + _ ≤ cnt g m + _
    by_cases e : f m = true
    · rw [if_pos e, if_pos (hm e)]; omega
    · rw [if_neg e]; omega

/-- one more satisfies g -/
theorem cnt_flip {f g : Nat → Bool} {a : Nat} : ∀ {m : Nat}, a < m → f a = false → g a = true → (∀ y, y < m → y ≠ a → g y = f y) → cnt g m = cnt f m + 1
  | 0, h, _, _, _ => absurd h (Nat.not_lt_zero _)
  | m + 1, h, hf, hg, he => by
    show cnt g m + _ = cnt f m + _ + 1
    by_cases e : a = m
    · subst e
      rw [hf, hg, cnt_congr (f := g) (g := f) (m := a) fun y hy => he y (by omega) (by omega)]
      rfl
    · rw [cnt_flip (m := m) (by omega) hf hg fun y hy ne => he y (by omega) ne, he m (by omega) (by omega)]
      omega

/-- what holds below u holds u times -/
theorem cnt_lo {f : Nat → Bool} {u : Nat} : ∀ {m : Nat}, u ≤ m → (∀ y, y < u → f y = true) → cnt f m = u + cnt (fun y => decide (u ≤ y) && f y) m
  | 0, h, _ => by
    have : u = 0 := by omega
    subst this; rfl
  | m + 1, h, ht => by
    by_cases e : u = m + 1
    · have h2 : cnt (fun y => decide (u ≤ y) && f y) (m + 1) = 0 := cnt_none fun y hy => by
        rw [decide_eq_false (by omega : ¬ u ≤ y)]; rfl
      rw [h2, e]
      have h3 : ∀ k, k ≤ m + 1 → cnt f k = k := by
        intro k hk
        induction k with
        | zero => rfl
        | succ k ih =>
          show cnt f k + _ = k + 1
          rw [ih (by omega), ht k (by omega), if_pos rfl]
      rw [h3 _ (Nat.le_refl _)]
    · show cnt f m + _ = u + (cnt _ m + (if (decide (u ≤ m) && f m) = true then 1 else 0))
      rw [cnt_lo (m := m) (by omega) ht, show (decide (u ≤ m) && f m) = f m by rw [decide_eq_true (by omega : u ≤ m)]; rfl]
      omega

theorem cnt_hi {f : Nat → Bool} {v : Nat} : ∀ {m : Nat}, v ≤ m → (∀ y, v ≤ y → y < m → f y = false) → cnt f m = cnt f v
  | 0, h, _ => by
    have : v = 0 := by omega
    subst this; rfl
  | m + 1, h, hf => by
    by_cases e : v = m + 1
    · subst e; rfl
    · show cnt f m + _ = cnt f v
      rw [cnt_hi (m := m) (by omega) fun y a b => hf y a (by omega), hf m (by omega) (by omega)]
      rfl

/-- the items at the first p places are p -/
theorem cnt_pos {n : Nat} {A pos : Nat → Nat} (ha : ∀ i, i < n → A i < n) (pa : ∀ i, i < n → pos (A i) = i) (ap : ∀ z, z < n → A (pos z) = z) :
    ∀ p, p ≤ n → cnt (fun z => decide (pos z < p)) n = p
  | 0, _ => cnt_none fun y _ => decide_eq_false (Nat.not_lt_zero _)
  | p + 1, h => by
    rw [cnt_flip (f := fun z => decide (pos z < p)) (a := A p) (ha p (by omega)) (decide_eq_false (by rw [pa p (by omega)]; omega)) (decide_eq_true (by rw [pa p (by omega)]; omega)), cnt_pos ha pa ap p (by omega)]
    intro y hy ne
    by_cases e : pos y = p
    · exact absurd (by rw [← e]; exact (ap y hy).symm) ne
    · by_cases e2 : pos y < p
      · rw [decide_eq_true e2, decide_eq_true (by omega)]
      · rw [decide_eq_false e2, decide_eq_false (by omega)]

/-- how many items between u and v are left of u -/
def lefts (pos : Nat → Nat) (u v : Nat) : Nat := cnt (fun y => decide (u < y) && decide (pos y < pos u)) v

structure Inv (n : Nat) (rk : Nat → Nat → Nat) (A pos : Nat → Nat) : Prop where
  a_lt : ∀ i, i < n → A i < n
  p_lt : ∀ z, z < n → pos z < n
  pa : ∀ i, i < n → pos (A i) = i
  ap : ∀ z, z < n → A (pos z) = z
  seenR : ∀ z p, z < n → z ≤ p → p < pos z → rk p (A p) < rk p z
  seenL : ∀ z p, z < n → pos z < p → p ≤ z → rk p (A p) < rk p z
  mv : ∀ u v, u < v → v < n → pos v < pos u → u < pos u ∧ pos v < v
  pl : ∀ u v, u < v → v < n → pos v < pos u → pos v ≤ u + lefts pos u v ∧ u + lefts pos u v + 1 ≤ pos u ∧ u + lefts pos u v + 1 ≤ v
  hi : ∀ u v p, u < v → v < n → pos v < pos u → u + lefts pos u v < p → p ≤ v → p ≤ pos u → rk p u < rk p v
  lo : ∀ u v p, u < v → v < n → pos v < pos u → p ≤ u + lefts pos u v → u ≤ p → pos v ≤ p → rk p v < rk p u

theorem Inv.start (n : Nat) (rk : Nat → Nat → Nat) : Inv n rk (fun i => i) (fun z => z) where
  a_lt := fun _ h => h
  p_lt := fun _ h => h
  pa := fun _ _ => rfl
  ap := fun _ _ => rfl
  seenR := fun z p _ h1 h2 => by omega
  seenL := fun z p _ h1 h2 => by omega
  mv := fun u v h _ h2 => by omega
  pl := fun u v h _ h2 => by omega
  hi := fun u v p h _ h2 => by omega
  lo := fun u v p h _ h2 => by omega

section
variable {n : Nat} {rk : Nat → Nat → Nat} {A pos A' pos' : Nat → Nat} {s : Nat}

theorem Inv.step (I : Inv n rk A pos) (hs : s + 1 < n) (l1 : rk s (A (s + 1)) < rk s (A s)) (l2 : rk (s + 1) (A s) < rk (s + 1) (A (s + 1)))
    (hA1 : A' s = A (s + 1)) (hA2 : A' (s + 1) = A s) (hA3 : ∀ i, i ≠ s → i ≠ s + 1 → A' i = A i)
    (hp1 : pos' (A s) = s + 1) (hp2 : pos' (A (s + 1)) = s) (hp3 : ∀ z, z < n → z ≠ A s → z ≠ A (s + 1) → pos' z = pos z) : Inv n rk A' pos' := by
  have hu : A s < n := I.a_lt s (by omega)
  have hv : A (s + 1) < n := I.a_lt _ hs
  have pu : pos (A s) = s := I.pa s (by omega)
  have pv : pos (A (s + 1)) = s + 1 := I.pa _ hs
  have aps : ∀ z, z < n → pos z = s → z = A s := fun z hz e => by rw [← e]; exact (I.ap z hz).symm
  have aps1 : ∀ z, z < n → pos z = s + 1 → z = A (s + 1) := fun z hz e => by rw [← e]; exact (I.ap z hz).symm
  generalize hU : A s = u at *
  generalize hV : A (s + 1) = v at *
  -- u comes from the left, v from the right
  have us : u ≤ s := by
    refine Nat.le_of_not_lt fun h => ?_
    have := I.seenL u (s + 1) hu (by omega) (by omega)
    rw [hV] at this
    omega
  have vs : s + 1 ≤ v := by
    refine Nat.le_of_not_lt fun h => ?_
    have := I.seenR v s hv (by omega) (by omega)
    rw [hU] at this
    omega
  have uv : u < v := by omega
  -- positions: cases
  have pc : ∀ z, z < n → (z = u ∧ pos z = s ∧ pos' z = s + 1) ∨ (z = v ∧ pos z = s + 1 ∧ pos' z = s) ∨ (z ≠ u ∧ z ≠ v ∧ pos' z = pos z ∧ pos z ≠ s ∧ pos z ≠ s + 1) := fun z hz => by
    by_cases e1 : z = u
    · subst e1; exact .inl ⟨rfl, pu, hp1⟩
    · by_cases e2 : z = v
      · subst e2; exact .inr (.inl ⟨rfl, pv, hp2⟩)
      · exact .inr (.inr ⟨e1, e2, hp3 z hz e1 e2, fun e => e1 (aps z hz e), fun e => e2 (aps1 z hz e)⟩)
  -- inverted pairs: the new one and the old ones
  have inv : ∀ a b, a < b → b < n → pos' b < pos' a → (a = u ∧ b = v) ∨ (pos b < pos a ∧ ¬ (a = u ∧ b = v)) := fun a b hab hb h => by
    rcases pc a (by omega) with ⟨ea, p1, p2⟩ | ⟨ea, p1, p2⟩ | ⟨n1, n2, p1, p2, p3⟩
    · rcases pc b hb with ⟨eb, q1, q2⟩ | ⟨eb, q1, q2⟩ | ⟨m1, m2, q1, q2, q3⟩
      · omega
      · exact .inl ⟨ea, eb⟩
      · exact .inr ⟨by omega, fun e => m2 e.2⟩
    · rcases pc b hb with ⟨eb, q1, q2⟩ | ⟨eb, q1, q2⟩ | ⟨m1, m2, q1, q2, q3⟩
      · omega
      · omega
      · exact .inr ⟨by omega, fun e => m2 e.2⟩
    · rcases pc b hb with ⟨eb, q1, q2⟩ | ⟨eb, q1, q2⟩ | ⟨m1, m2, q1, q2, q3⟩
      · exact .inr ⟨by omega, fun e => n1 e.1⟩
      · exact .inr ⟨by omega, fun e => n1 e.1⟩
      · exact .inr ⟨by omega, fun e => n1 e.1⟩
  -- the count of an old inverted pair stays
  have same : ∀ a b, a < b → b < n → pos b < pos a → lefts pos' a b = lefts pos a b := fun a b hab hb h => by
    refine cnt_congr fun y hy => ?_
    by_cases hay : a < y
    · rw [decide_eq_true hay]
      show decide (pos' y < pos' a) = decide (pos y < pos a)
      rcases pc a (by omega) with ⟨ea, p1, p2⟩ | ⟨ea, p1, p2⟩ | ⟨n1, n2, p1, p2, p3⟩
      · rcases pc y (by omega) with ⟨ey, q1, q2⟩ | ⟨ey, q1, q2⟩ | ⟨m1, m2, q1, q2, q3⟩
        · omega
        · -- y = v, inverted with b: then v is a right mover
          have := I.mv y b hy hb (by omega)
          omega
        · rw [p1, p2, q1]
          by_cases e : pos y < s
          · rw [decide_eq_true e, decide_eq_true (by omega)]
          · rw [decide_eq_false e, decide_eq_false (by omega)]
      · rcases pc y (by omega) with ⟨ey, q1, q2⟩ | ⟨ey, q1, q2⟩ | ⟨m1, m2, q1, q2, q3⟩
        · omega
        · omega
        · rw [p1, p2, q1]
          by_cases e : pos y < s
          · rw [decide_eq_true e, decide_eq_true (by omega)]
          · rw [decide_eq_false e, decide_eq_false (by omega)]
      · rcases pc y (by omega) with ⟨ey, q1, q2⟩ | ⟨ey, q1, q2⟩ | ⟨m1, m2, q1, q2, q3⟩
        · rw [p1, q1, q2]
          by_cases e : s < pos a
          · rw [decide_eq_true e, decide_eq_true (by omega)]
          · rw [decide_eq_false e, decide_eq_false (by omega)]
        · rw [p1, q1, q2]
          by_cases e : s < pos a
          · rw [decide_eq_true e, decide_eq_true (by omega)]
          · rw [decide_eq_false e, decide_eq_false (by omega)]
        · rw [p1, q1]
    · rw [decide_eq_false hay]
      rfl
  -- the count of the new pair
  have new : u + lefts pos' u v = s := by
    have c := cnt_pos I.a_lt I.pa I.ap s (by omega)
    have below : ∀ y, y < u → decide (pos y < s) = true := fun y hy => by
      refine decide_eq_true (Nat.lt_of_not_le fun h => ?_)
      have ne : pos y ≠ s := fun e => by have := aps y (by omega) e; omega
      have := I.mv y u hy hu (by omega)
      omega
    have above : ∀ y, v ≤ y → y < n → decide (pos y < s) = false := fun y h1 h2 => by
      refine decide_eq_false fun h => ?_
      have ne : y ≠ v := fun e => by subst e; omega
      have := I.mv v y (by omega) h2 (by omega)
      omega
    rw [cnt_hi (v := v) (by omega) above, cnt_lo (u := u) (by omega) below] at c
    have e : lefts pos' u v = cnt (fun y => decide (u ≤ y) && decide (pos y < s)) v := by
      refine cnt_congr fun y hy => ?_
      rcases pc y (by omega) with ⟨ey, q1, q2⟩ | ⟨ey, q1, q2⟩ | ⟨m1, m2, q1, q2, q3⟩
      · subst ey
        rw [decide_eq_false (by omega : ¬ y < y), decide_eq_false (by omega : ¬ pos y < s), Bool.and_false]; rfl
      · omega
      · rw [hp1, q1]
        by_cases e1 : u < y
        · rw [decide_eq_true e1, decide_eq_true (by omega : u ≤ y)]
          by_cases e2 : pos y < s
          · rw [decide_eq_true e2, decide_eq_true (by omega)]
          · rw [decide_eq_false e2, decide_eq_false (by omega)]
        · rw [decide_eq_false e1, decide_eq_false (by omega : ¬ u ≤ y)]
          rfl
    rw [e]
    exact c
  refine ⟨?_, ?_, ?_, ?_, ?_, ?_, ?_, ?_, ?_, ?_⟩
  · intro i hi
    by_cases e1 : i = s
    · subst e1; omega
    · by_cases e2 : i = s + 1
      · subst e2; omega
      · rw [hA3 i e1 e2]; exact I.a_lt i hi
  · intro z hz
    have := I.p_lt z hz
    rcases pc z hz with ⟨_, _, p⟩ | ⟨_, _, p⟩ | ⟨_, _, p, _⟩ <;> omega
  · intro i hi
    by_cases e1 : i = s
    · subst e1; rw [hA1]; exact hp2
    · by_cases e2 : i = s + 1
      · subst e2; rw [hA2]; exact hp1
      · rw [hA3 i e1 e2]
        have pi := I.pa i hi
        rcases pc (A i) (I.a_lt i hi) with ⟨_, p, _⟩ | ⟨_, p, _⟩ | ⟨_, _, p, _⟩ <;> omega
  · intro z hz
    rcases pc z hz with ⟨e, _, p⟩ | ⟨e, _, p⟩ | ⟨_, _, p, q1, q2⟩
    · rw [p, hA2, e]
    · rw [p, hA1, e]
    · rw [p, hA3 _ q1 q2]; exact I.ap z hz
  · -- seenR
    intro z p hz h1 h2
    by_cases e1 : p = s
    · subst e1
      rw [hA1]
      rcases pc z hz with ⟨e, q1, q2⟩ | ⟨e, q1, q2⟩ | ⟨_, _, q, q1, q2⟩
      · rw [e]; exact l1
      · omega
      · have := I.seenR z p hz h1 (by omega)
        rw [hU] at this
        omega
    · by_cases e2 : p = s + 1
      · subst e2
        rw [hA2]
        rcases pc z hz with ⟨e, q1, q2⟩ | ⟨e, q1, q2⟩ | ⟨_, _, q, q1, q2⟩
        · omega
        · omega
        · have := I.seenR z (s + 1) hz h1 (by omega)
          rw [hV] at this
          omega
      · rw [hA3 p e1 e2]
        rcases pc z hz with ⟨e, q1, q2⟩ | ⟨e, q1, q2⟩ | ⟨_, _, q, q1, q2⟩
        · exact I.seenR z p hz h1 (by omega)
        · exact I.seenR z p hz h1 (by omega)
        · exact I.seenR z p hz h1 (by omega)
  · -- seenL
    intro z p hz h1 h2
    by_cases e1 : p = s
    · subst e1
      rw [hA1]
      rcases pc z hz with ⟨e, q1, q2⟩ | ⟨e, q1, q2⟩ | ⟨_, _, q, q1, q2⟩
      · omega
      · omega
      · have := I.seenL z p hz (by omega) h2
        rw [hU] at this
        omega
    · by_cases e2 : p = s + 1
      · subst e2
        rw [hA2]
        rcases pc z hz with ⟨e, q1, q2⟩ | ⟨e, q1, q2⟩ | ⟨_, _, q, q1, q2⟩
        · omega
        · rw [e]; exact l2
        · have := I.seenL z (s + 1) hz (by omega) h2
          rw [hV] at this
          omega
      · rw [hA3 p e1 e2]
        rcases pc z hz with ⟨e, q1, q2⟩ | ⟨e, q1, q2⟩ | ⟨_, _, q, q1, q2⟩
        · exact I.seenL z p hz (by omega) h2
        · exact I.seenL z p hz (by omega) h2
        · exact I.seenL z p hz (by omega) h2
  · -- mv
    intro a b hab hb h
    rcases inv a b hab hb h with ⟨rfl, rfl⟩ | ⟨h, _⟩
    · omega
    · have := I.mv a b hab hb h
      rcases pc a (by omega) with ⟨_, _, p⟩ | ⟨_, _, p⟩ | ⟨_, _, p, _⟩ <;> rcases pc b hb with ⟨_, _, q⟩ | ⟨_, _, q⟩ | ⟨_, _, q, _⟩ <;> omega
  · -- pl
    intro a b hab hb h
    rcases inv a b hab hb h with ⟨rfl, rfl⟩ | ⟨h, hne⟩
    · omega
    · have := I.pl a b hab hb h
      have m := I.mv a b hab hb h
      rw [same a b hab hb h]
      rcases pc a (by omega) with ⟨_, _, p⟩ | ⟨_, _, p⟩ | ⟨_, _, p, _⟩ <;> rcases pc b hb with ⟨_, _, q⟩ | ⟨_, _, q⟩ | ⟨_, _, q, _⟩ <;> omega
  · -- hi
    intro a b p hab hb h h1 h2 h3
    rcases inv a b hab hb h with ⟨rfl, rfl⟩ | ⟨h, hne⟩
    · have : p = s + 1 := by omega
      rw [this]; exact l2
    · rw [same a b hab hb h] at h1
      have m := I.mv a b hab hb h
      rcases pc a (by omega) with ⟨ea, q1, q2⟩ | ⟨ea, q1, q2⟩ | ⟨_, _, q, _⟩
      · by_cases e : p = s + 1
        · subst e
          have hb2 := I.seenL b (s + 1) hb (by omega) h2
          rw [hV] at hb2
          rw [ea]
          omega
        · exact I.hi a b p hab hb h h1 h2 (by omega)
      · exact I.hi a b p hab hb h h1 h2 (by omega)
      · exact I.hi a b p hab hb h h1 h2 (by omega)
  · -- lo
    intro a b p hab hb h h1 h2 h3
    rcases inv a b hab hb h with ⟨rfl, rfl⟩ | ⟨h, hne⟩
    · have : p = s := by omega
      rw [this]; exact l1
    · rw [same a b hab hb h] at h1
      have m := I.mv a b hab hb h
      rcases pc b hb with ⟨eb, q1, q2⟩ | ⟨eb, q1, q2⟩ | ⟨_, _, q, _⟩
      · exact I.lo a b p hab hb h h1 h2 (by omega)
      · by_cases e : p = s
        · subst e
          have ha2 := I.seenR a p (by omega) h2 (by omega)
          rw [hU] at ha2
          rw [eb]
          omega
        · exact I.lo a b p hab hb h h1 h2 (by omega)
      · exact I.lo a b p hab hb h h1 h2 (by omega)
end
end Sw

/-! The choices: indices, counts, conflicts; what a reached person tells of them. -/
namespace Sw

theorem last_filter {f : Nat → Bool} {a : Nat} : ∀ {m : Nat}, ((List.range m).filter f).getLast? = some a ↔ a < m ∧ f a = true ∧ ∀ b, a < b → b < m → f b = false
  | 0 => ⟨fun h => by simp at h, fun h => absurd h.1 (Nat.not_lt_zero _)⟩
  | m + 1 => by
    rw [List.range_succ, List.filter_append]
    by_cases e : f m = true
    · rw [show List.filter f [m] = [m] by rw [List.filter_cons, if_pos e]; rfl, List.getLast?_append]
      constructor
      · intro h
        have h : m = a := Option.some.inj h
        subst h
        exact ⟨by omega, e, fun b h1 h2 => by omega⟩
      · rintro ⟨h1, h2, h3⟩
        have : a = m := by
          refine Nat.le_antisymm (by omega) (Nat.le_of_not_lt fun h => ?_)
          rw [h3 m h (by omega)] at e
          cases e
        subst this
        rfl
    · have e' : f m = false := by simpa using e
      rw [show List.filter f [m] = [] by rw [List.filter_cons, if_neg e]; rfl, List.append_nil, last_filter (m := m)]
      constructor
      · rintro ⟨h1, h2, h3⟩
        refine ⟨by omega, h2, fun b h4 h5 => ?_⟩
        by_cases eb : b = m
        · subst eb; exact e'
        · exact h3 b h4 (by omega)
      · rintro ⟨h1, h2, h3⟩
        have ne : a ≠ m := fun z => by subst z; rw [h2] at e'; cases e'
        exact ⟨by omega, h2, fun b h4 h5 => h3 b h4 (by omega)⟩

theorem head_filter {f : Nat → Bool} {a : Nat} : ∀ {m : Nat}, ((List.range m).filter f).head? = some a ↔ a < m ∧ f a = true ∧ ∀ b, b < a → f b = false
  | 0 => ⟨fun h => by simp at h, fun h => absurd h.1 (Nat.not_lt_zero _)⟩
  | m + 1 => by
    rw [List.range_succ, List.filter_append, List.head?_append]
    have ih := head_filter (f := f) (a := a) (m := m)
    cases hq : ((List.range m).filter f).head? with
    | some c =>
      have hc := (head_filter (f := f) (a := c) (m := m)).mp hq
      constructor
      · intro h
        have h : c = a := Option.some.inj h
        subst h
        exact ⟨by omega, hc.2⟩
      · rintro ⟨h1, h2, h3⟩
        have : c = a := by
          refine Nat.le_antisymm (Nat.le_of_not_lt fun h => ?_) (Nat.le_of_not_lt fun h => ?_)
          · have := hc.2.2 a h; rw [h2] at this; cases this
          · have := h3 c h; rw [hc.2.1] at this; cases this
        subst this
        rfl
    | none =>
      have hn : ∀ b, b < m → f b = false := fun b hb => by
        have : (List.range m).filter f = [] := List.head?_eq_none_iff.mp hq
        have h2 := List.filter_eq_nil_iff.mp this b (List.mem_range.mpr hb)
        simpa using h2
      show (List.filter f [m]).head? = some a ↔ _
      by_cases e : f m = true
      · rw [show List.filter f [m] = [m] by rw [List.filter_cons, if_pos e]; rfl]
        constructor
        · intro h
          have h : m = a := Option.some.inj h
          subst h
          exact ⟨by omega, e, hn⟩
        · rintro ⟨h1, h2, h3⟩
          have : a = m := by
            refine Nat.le_antisymm (by omega) (Nat.le_of_not_lt fun h => ?_)
            rw [hn a h] at h2
            cases h2
          subst this
          rfl
      · rw [show List.filter f [m] = [] by rw [List.filter_cons, if_neg e]; rfl]
        constructor
        · intro h; cases h
        · rintro ⟨h1, h2, h3⟩
          by_cases ea : a = m
          · subst ea; exact absurd h2 e
          · rw [hn a (by omega)] at h2; cases h2

def likes (rk : Nat → Nat → Nat) (p y z : Nat) : Bool := decide (rk p y < rk p z)

/-- a choice: an item, true for left -/
abbrev Ch := Nat × Bool
def opp (c : Ch) : Ch := (c.1, !c.2)
theorem opp_opp (c : Ch) : opp (opp c) = c := by
  obtain ⟨a, b⟩ := c
  cases b <;> rfl
theorem opp_ne (c : Ch) : opp c ≠ c := by
  obtain ⟨a, b⟩ := c
  cases b <;> (intro h; injection h with _ h; cases h)

section
variable (n : Nat) (rk : Nat → Nat → Nat) (x q w : Nat)
def leftSome (y : Nat) : List Nat := ((List.range (min y q + 1 - x)).filter fun i => likes rk (x + i) y x).map (x + ·)
def leftIdx (y : Nat) : Option Nat := match (leftSome rk x q y).getLast? with
  | none => none
  | some a => if a = min y q then none else some (a - x + 1)
def staySome (y : Nat) : List Nat := ((List.range (w + 1 - max y (q - 1))).filter fun i => likes rk (max y (q - 1) + i) y w).map (max y (q - 1) + ·)
def stayIdx (y : Nat) : Option Nat := match (staySome rk q w y).head? with
  | none => none
  | some a => if a ≤ q ∨ a = y then none else some (a - q)
def idx (c : Ch) : Option Nat := if c.2 = true then leftIdx rk x q c.1 else stayIdx rk q w c.1
def before (c : Ch) : Int := let k : Int := ((idx rk x q w c).getD 0 : Nat); if c.2 = true then k - 1 else (c.1 : Int) - x - k
def beyond (c : Ch) : Int := before rk x q w c + (if c.2 = true then 1 else 0)
def wrong (c : Ch) : Bool :=
  if idx rk x q w c = none ∨ c.1 = x + 1 ∧ before rk x q w c ≠ 0 then true
  else decide ((c.1 : Int) = w - 1 ∧ beyond rk x q w c ≠ (q : Int) - x - 1)
def agree (s l : Ch) : Bool :=
  if s.2 = true ∨ l.2 = false then true
  else
    let at' := (x + (idx rk x q w s).getD 0 + (idx rk x q w l).getD 0) - 1
    if n ≤ at' + 1 then false else likes rk at' l.1 s.1 && likes rk (at' + 1) s.1 l.1
def clash (c d : Ch) : Bool :=
  if wrong rk x q w c = true ∨ wrong rk x q w d = true then true
  else if c.1 = d.1 then decide (c ≠ d)
  else
    let lo := if c.1 < d.1 then c else d
    let hi := if c.1 < d.1 then d else c
    if hi.1 = lo.1 + 1 ∧ beyond rk x q w lo ≠ before rk x q w hi then true
    else !agree n rk x q w lo hi
end

section
variable {n : Nat} {rk : Nat → Nat → Nat} {x q w : Nat}

theorem clash_comm (c d : Ch) : clash n rk x q w c d = clash n rk x q w d c := by
  unfold clash
  by_cases h : wrong rk x q w c = true ∨ wrong rk x q w d = true
  · rw [if_pos h, if_pos (Or.symm h)]
  · rw [if_neg h, if_neg fun h' => h (Or.symm h')]
    by_cases e : c.1 = d.1
    · rw [if_pos e, if_pos e.symm]
      exact decide_eq_decide.mpr ⟨Ne.symm, Ne.symm⟩
    · have e2 : ¬ d.1 = c.1 := fun z => e z.symm
      rw [if_neg e, if_neg e2]
      by_cases l : c.1 < d.1
      · have l2 : ¬ d.1 < c.1 := by omega
        simp only [if_pos l, if_neg l2]
      · have l2 : d.1 < c.1 := by omega
        simp only [if_neg l, if_pos l2]

theorem leftIdx_iff {y k : Nat} : leftIdx rk x q y = some k ↔ ∃ a, x ≤ a ∧ a < min y q ∧ rk a y < rk a x ∧ (∀ p, a < p → p ≤ min y q → ¬ rk p y < rk p x) ∧ k = a - x + 1 := by
  unfold leftIdx leftSome
  rw [List.getLast?_map]
  constructor
  · intro h
    cases hl : ((List.range (min y q + 1 - x)).filter fun i => likes rk (x + i) y x).getLast? with
    | none => rw [hl] at h; cases h
    | some b =>
      rw [hl] at h
      obtain ⟨h1, h2, h3⟩ := last_filter.mp hl
      change (if x + b = min y q then none else some (x + b - x + 1)) = some k at h
      by_cases e : x + b = min y q
      · rw [if_pos e] at h; cases h
      · rw [if_neg e] at h
        refine ⟨x + b, by omega, by omega, of_decide_eq_true h2, fun p h4 h5 => ?_, (Option.some.inj h).symm⟩
        have := h3 (p - x) (by omega) (by omega)
        rw [show x + (p - x) = p by omega] at this
        exact of_decide_eq_false this
  · rintro ⟨a, h1, h2, h3, h4, rfl⟩
    have hl : ((List.range (min y q + 1 - x)).filter fun i => likes rk (x + i) y x).getLast? = some (a - x) := last_filter.mpr
      ⟨by omega, by rw [show x + (a - x) = a by omega]; exact decide_eq_true h3, fun b h5 h6 => decide_eq_false (h4 (x + b) (by omega) (by omega))⟩
    rw [hl]
    show (if x + (a - x) = min y q then none else some (x + (a - x) - x + 1)) = some (a - x + 1)
    rw [if_neg (by omega), show x + (a - x) - x + 1 = a - x + 1 by omega]

theorem stayIdx_iff {y t : Nat} : stayIdx rk q w y = some t ↔ ∃ a, max y (q - 1) ≤ a ∧ a ≤ w ∧ q < a ∧ a ≠ y ∧ rk a y < rk a w ∧ (∀ p, max y (q - 1) ≤ p → p < a → ¬ rk p y < rk p w) ∧ t = a - q := by
  unfold stayIdx staySome
  rw [List.head?_map]
  constructor
  · intro h
    cases hl : ((List.range (w + 1 - max y (q - 1))).filter fun i => likes rk (max y (q - 1) + i) y w).head? with
    | none => rw [hl] at h; cases h
    | some b =>
      rw [hl] at h
      obtain ⟨h1, h2, h3⟩ := head_filter.mp hl
      change (if max y (q - 1) + b ≤ q ∨ max y (q - 1) + b = y then none else some (max y (q - 1) + b - q)) = some t at h
      by_cases e : max y (q - 1) + b ≤ q ∨ max y (q - 1) + b = y
      · rw [if_pos e] at h; cases h
      · rw [if_neg e] at h
        refine ⟨max y (q - 1) + b, by omega, by omega, by omega, by omega, of_decide_eq_true h2, fun p h4 h5 => ?_, (Option.some.inj h).symm⟩
        have := h3 (p - max y (q - 1)) (by omega)
        rw [show max y (q - 1) + (p - max y (q - 1)) = p by omega] at this
        exact of_decide_eq_false this
  · rintro ⟨a, h1, h2, h3, h3', h4, h5, rfl⟩
    have hl : ((List.range (w + 1 - max y (q - 1))).filter fun i => likes rk (max y (q - 1) + i) y w).head? = some (a - max y (q - 1)) := head_filter.mpr
      ⟨by omega, by rw [show max y (q - 1) + (a - max y (q - 1)) = a by omega]; exact decide_eq_true h4, fun b h6 => decide_eq_false (h5 (max y (q - 1) + b) (by omega) (by omega))⟩
    rw [hl]
    show (if max y (q - 1) + (a - max y (q - 1)) ≤ q ∨ max y (q - 1) + (a - max y (q - 1)) = y then none else some (max y (q - 1) + (a - max y (q - 1)) - q)) = some (a - q)
    rw [if_neg (by omega), show max y (q - 1) + (a - max y (q - 1)) - q = a - q by omega]

/-! ### counts of a way for each item -/
/-- how many items between x and y go left -/
def lcnt (f : Nat → Bool) (x y : Nat) : Nat := cnt (fun z => decide (x < z) && f z) y
theorem lcnt_step {f : Nat → Bool} {x y : Nat} (h : x < y) : lcnt f x (y + 1) = lcnt f x y + (if f y = true then 1 else 0) := by
  show cnt _ y + (if (decide (x < y) && f y) = true then 1 else 0) = _
  rw [decide_eq_true h]; rfl
theorem lcnt_zero {f : Nat → Bool} {x y : Nat} (h : y ≤ x + 1) : lcnt f x y = 0 := cnt_none fun z hz => by
  rw [decide_eq_false (by omega : ¬ x < z)]; rfl
theorem lcnt_le {f : Nat → Bool} {x : Nat} : ∀ {y : Nat}, lcnt f x y ≤ y - x - 1
  | 0 => Nat.zero_le _
  | y + 1 => by
    by_cases h : x < y
    · rw [lcnt_step h]
      have := lcnt_le (f := f) (x := x) (y := y)
      split <;> omega
    · rw [lcnt_zero (by omega)]
      exact Nat.zero_le _
theorem lcnt_mono {f : Nat → Bool} {x y z : Nat} (h : y ≤ z) : lcnt f x y ≤ lcnt f x z := cnt_mono h
/-- between y and z -/
theorem lcnt_mid {f : Nat → Bool} {x y : Nat} (h : x < y) : ∀ {z : Nat}, y < z → lcnt f x z = lcnt f x (y + 1) + lcnt f y z
  | 0, hz => absurd hz (Nat.not_lt_zero _)
  | z + 1, hz => by
    by_cases e : y = z
    · subst e
      rw [lcnt_zero (f := f) (x := y) (y := y + 1) (by omega)]
      rfl
    · rw [lcnt_step (f := f) (x := x) (y := z) (by omega), lcnt_step (f := f) (x := y) (y := z) (by omega), lcnt_mid h (z := z) (by omega)]
      omega

variable {A pos : Nat → Nat}
/-- COMPLETENESS: an item that has come to a person on the right tells a last item and ways without a conflict -/
theorem complete (I : Inv n rk A pos) (hxq : x < q) (hq : q < n) (hA : A q = x) :
    ∃ w, q ≤ w ∧ w < n ∧ leftIdx rk x q w = some (q - x) ∧ ∃ σ : Nat → Bool, ∀ y z, x < y → y < w → x < z → z < w → clash n rk x q w (y, σ y) (z, σ z) = false := by
  have hx : x < n := by omega
  have px : pos x = q := by rw [← hA]; exact I.pa q hq
  let f : Nat → Bool := fun y => decide (pos y < q)
  have hf : ∀ y, f y = decide (pos y < pos x) := fun y => by rw [px]
  -- s items above x are left of it
  have tot : lcnt f x n = q - x := by
    have c := cnt_pos I.a_lt I.pa I.ap q (by omega)
    rw [cnt_lo (u := x) (by omega) fun y hy => decide_eq_true (Nat.lt_of_not_le fun h => by
      have ne : pos y ≠ q := fun e => by
        have e1 := I.ap y (by omega)
        rw [e, hA] at e1
        omega
      have := I.mv y x hy hx (by omega)
      omega)] at c
    have e : lcnt f x n = cnt (fun y => decide (x ≤ y) && decide (pos y < q)) n := cnt_congr fun y hy => by
      by_cases e1 : x < y
      · rw [decide_eq_true e1, decide_eq_true (by omega : x ≤ y)]
      · by_cases e2 : x = y
        · subst e2
          rw [decide_eq_false e1, px, decide_eq_false (by omega : ¬ q < q), Bool.and_false]; rfl
        · rw [decide_eq_false e1, decide_eq_false (by omega : ¬ x ≤ y)]
    omega
  -- the last one
  obtain ⟨w, hxw, hwn, hfw, hlast⟩ : ∃ w, x < w ∧ w < n ∧ f w = true ∧ ∀ y, w < y → y < n → f y = false := by
    have h : ∀ m, m ≤ n → lcnt f x m = q - x → (∀ y, m ≤ y → y < n → f y = false) → ∃ w, x < w ∧ w < n ∧ f w = true ∧ ∀ y, w < y → y < n → f y = false := by
      intro m
      induction m with
      | zero => intro _ h0 _; rw [lcnt_zero (by omega)] at h0; omega
      | succ m ih =>
        intro hm h0 h1
        by_cases hx' : x < m
        · by_cases e : f m = true
          · exact ⟨m, hx', by omega, e, fun y a b => h1 y (by omega) b⟩
          · have e' : f m = false := by simpa using e
            rw [lcnt_step hx', e'] at h0
            exact ih (by omega) (by simpa using h0) fun y a b => by
              by_cases e2 : y = m
              · subst e2; exact e'
              · exact h1 y (by omega) b
        · rw [lcnt_zero (by omega)] at h0; omega
    exact h n (Nat.le_refl _) tot fun y a b => by omega
  have cw1 : lcnt f x (w + 1) = q - x := by
    rw [← tot]
    refine (cnt_hi (by omega) fun y a b => ?_).symm
    rw [hlast y (by omega) b, Bool.and_false]
  have cw : lcnt f x w + 1 = q - x := by
    rw [lcnt_step hxw, hfw] at cw1
    exact cw1
  have pw : pos w < q := of_decide_eq_true hfw
  have hqw : q ≤ w := by
    have := lcnt_le (f := f) (x := x) (y := w)
    omega
  -- an item that goes left, and x
  have left : ∀ y, x < y → y < n → f y = true → leftIdx rk x q y = some (lcnt f x y + 1) := fun y h1 h2 h3 => by
    have py : pos y < pos x := by rw [px]; exact of_decide_eq_true h3
    have e : lefts pos x y = lcnt f x y := cnt_congr fun z _ => by rw [hf]
    obtain ⟨p1, p2, p3⟩ := I.pl x y h1 h2 py
    rw [e] at p1 p2 p3
    refine leftIdx_iff.mpr ⟨x + lcnt f x y, by omega, by omega, I.lo x y _ h1 h2 py (by omega) (by omega) (by omega), fun p h4 h5 => ?_, by omega⟩
    have := I.hi x y p h1 h2 py (by omega) (by omega) (by omega)
    omega
  -- an item that stays, and w
  have sp : ∀ y, x < y → y < w → f y = false → q < pos y ∧ y < pos y := fun y h1 h2 h3 => by
    have h4 : ¬ pos y < q := of_decide_eq_false h3
    have ne : pos y ≠ q := fun e => by
      have e1 := I.ap y (by omega)
      rw [e, hA] at e1
      omega
    have := I.mv y w h2 hwn (by omega)
    omega
  have mid : ∀ y z, x < y → y < z → z ≤ w → f y = false → f z = true → lefts pos y z = lcnt f y z := fun y z h1 h2 h3 h4 h5 => cnt_congr fun v hv => by
    by_cases e : y < v
    · rw [decide_eq_true e]
      show decide (pos v < pos y) = f v
      have hy := sp y h1 (by omega) h4
      by_cases ev : f v = true
      · rw [ev]
        have : pos v < q := of_decide_eq_true ev
        exact decide_eq_true (by omega)
      · have ev' : f v = false := by simpa using ev
        rw [ev']
        have hv' := sp v (by omega) (by omega) ev'
        refine decide_eq_false fun h => ?_
        have := I.mv y v e (by omega) h
        omega
    · rw [decide_eq_false e]; rfl
  have stay : ∀ y, x < y → y < w → f y = false → stayIdx rk q w y = some (y - x - lcnt f x y) ∧ lcnt f x y < y - x := fun y h1 h2 h3 => by
    have hy := sp y h1 h2 h3
    have pyw : pos w < pos y := by omega
    have e := mid y w h1 h2 (Nat.le_refl _) h3 hfw
    have m := lcnt_mid (f := f) h1 h2
    rw [lcnt_step h1, h3] at m
    have m : lcnt f x w = lcnt f x y + lcnt f y w := by simpa using m
    have l0 := lcnt_le (f := f) (x := x) (y := y)
    obtain ⟨p1, p2, p3⟩ := I.pl y w h2 hwn pyw
    rw [e] at p1 p2 p3
    refine ⟨stayIdx_iff.mpr ⟨y + lcnt f y w + 1, by omega, by omega, by omega, by omega, I.hi y w _ h2 hwn pyw (by omega) (by omega) (by omega), fun p h4 h5 => ?_, by omega⟩, by omega⟩
    have := I.lo y w p h2 hwn pyw (by omega) (by omega) (by omega)
    omega
  -- index, counts of a chosen way
  have ix : ∀ y, x < y → y < w → ∃ k, idx rk x q w (y, f y) = some k ∧ (f y = true → k = lcnt f x y + 1) ∧ (f y = false → k = y - x - lcnt f x y ∧ lcnt f x y < y - x) := fun y h1 h2 => by
    cases e : f y with
    | true => exact ⟨_, left y h1 (by omega) e, fun _ => rfl, fun h => by cases h⟩
    | false => exact ⟨_, (stay y h1 h2 e).1, fun h => by (cases h), fun _ => ⟨rfl, (stay y h1 h2 e).2⟩⟩
  have bef : ∀ y, x < y → y < w → before rk x q w (y, f y) = (lcnt f x y : Int) ∧ beyond rk x q w (y, f y) = (lcnt f x (y + 1) : Int) := fun y h1 h2 => by
    obtain ⟨k, hk, k1, k2⟩ := ix y h1 h2
    have l0 := lcnt_le (f := f) (x := x) (y := y)
    have b : before rk x q w (y, f y) = (lcnt f x y : Int) := by
      unfold before
      rw [hk]
      show (if f y = true then ((k : Nat) : Int) - 1 else (y : Int) - x - (k : Nat)) = _
      cases e : f y with
      | true =>
        rw [if_pos rfl, k1 e]; omega
      | false =>
        have k3 := k2 e
        rw [if_neg (by decide), k3.1]; omega
    refine ⟨b, ?_⟩
    unfold beyond
    rw [b, lcnt_step h1]
    show _ + (if f y = true then (1 : Int) else 0) = _
    cases f y with
    | true => rfl
    | false => rfl
  have notWrong : ∀ y, x < y → y < w → wrong rk x q w (y, f y) = false := fun y h1 h2 => by
    obtain ⟨k, hk, _⟩ := ix y h1 h2
    obtain ⟨b1, b2⟩ := bef y h1 h2
    unfold wrong
    rw [hk, b1, b2, if_neg, decide_eq_false]
    · rintro ⟨h3, h4⟩
      have h3 : (y : Int) = w - 1 := h3
      have : y + 1 = w := by omega
      rw [this] at h4
      omega
    · rintro (h3 | ⟨h3, h4⟩)
      · cases h3
      · have h3 : y = x + 1 := h3
        rw [h3, lcnt_zero (by omega)] at h4
        exact h4 rfl
  have agr : ∀ y z, x < y → y < z → z < w → agree n rk x q w (y, f y) (z, f z) = true := fun y z h1 h2 h3 => by
    unfold agree
    by_cases e : f y = true ∨ f z = false
    · rw [if_pos e]
    · rw [if_neg e]
      have ey : f y = false := by
        cases h : f y with
        | true => exact absurd (.inl h) e
        | false => rfl
      have ez : f z = true := by
        cases h : f z with
        | false => exact absurd (.inr h) e
        | true => rfl
      obtain ⟨k, hk, _, k2⟩ := ix y h1 (by omega)
      obtain ⟨l, hl, l1, _⟩ := ix z (by omega) h3
      have hy := sp y h1 (by omega) ey
      have pz : pos z < q := of_decide_eq_true ez
      have pyz : pos z < pos y := by omega
      have em := mid y z h1 h2 (by omega) ey ez
      have m := lcnt_mid (f := f) h1 h2
      rw [lcnt_step h1, ey] at m
      have m : lcnt f x z = lcnt f x y + lcnt f y z := by simpa using m
      obtain ⟨p1, p2, p3⟩ := I.pl y z h2 (by omega) pyz
      rw [em] at p1 p2 p3
      have k3 := k2 ey
      have l3 := l1 ez
      have py : pos y < n := I.p_lt y (by omega)
      have place : x + k + l - 1 = y + lcnt f y z := by omega
      rw [hk, hl]
      show (if n ≤ x + k + l - 1 + 1 then false else likes rk (x + k + l - 1) z y && likes rk (x + k + l - 1 + 1) y z) = true
      rw [place, if_neg (by omega)]
      rw [show likes rk (y + lcnt f y z) z y = true from decide_eq_true (I.lo y z _ h2 (by omega) pyz (by omega) (by omega) (by omega)), show likes rk (y + lcnt f y z + 1) y z = true from decide_eq_true (I.hi y z _ h2 (by omega) pyz (by omega) (by omega) (by omega))]
      rfl
  refine ⟨w, hqw, hwn, ?_, f, fun y z h1 h2 h3 h4 => ?_⟩
  · rw [left w hxw hwn hfw, cw]
  · unfold clash
    rw [notWrong y h1 h2, notWrong z h3 h4, if_neg (by simp)]
    by_cases e : y = z
    · subst e
      rw [if_pos rfl]
      exact decide_eq_false fun h => h rfl
    · rw [if_neg e]
      by_cases l : y < z
      · simp only [if_pos l]
        rw [if_neg, agr y z h1 l h4]
        · rfl
        · rintro ⟨h5, h6⟩
          have h5 : z = y + 1 := h5
          rw [(bef y h1 h2).2, (bef z h3 h4).1, h5] at h6
          exact h6 rfl
      · simp only [if_neg l]
        rw [if_neg, agr z y h3 (by omega) h2]
        · rfl
        · rintro ⟨h5, h6⟩
          have h5 : y = z + 1 := h5
          rw [(bef z h3 h4).2, (bef y h1 h2).1, h5] at h6
          exact h6 rfl
end
end Sw

/-! Rows as lists, swaps, valid sequences; the mirror image. -/
namespace Sw

theorem nodup_len {α : Type} [BEq α] [LawfulBEq α] : ∀ {l m : List α}, l.Nodup → (∀ a, a ∈ l → a ∈ m) → l.length ≤ m.length
  | [], _, _, _ => Nat.zero_le _
  | a :: l, m, hn, hs => by
    have h1 := List.nodup_cons.mp hn
    have ha : a ∈ m := hs a List.mem_cons_self
    have := nodup_len (l := l) (m := m.erase a) h1.2 fun b hb => by
      refine (List.mem_erase_of_ne fun e => ?_).mpr (hs b (List.mem_cons_of_mem _ hb))
      subst e
      exact h1.1 hb
    rw [List.length_erase_of_mem ha] at this
    have : 0 < m.length := List.length_pos_of_mem ha
    rw [List.length_cons]
    omega
theorem nodup_all {α : Type} [BEq α] [LawfulBEq α] {l m : List α} (hn : l.Nodup) (hs : ∀ a, a ∈ l → a ∈ m) (hl : m.length ≤ l.length) : ∀ a, a ∈ m → a ∈ l := fun a ha => by
  refine Classical.byContradiction fun h => ?_
  have := nodup_len (l := a :: l) (m := m) (List.nodup_cons.mpr ⟨h, hn⟩) fun b hb => by
    rcases List.mem_cons.mp hb with e | e
    · rw [e]; exact ha
    · exact hs b e
  rw [List.length_cons] at this
  omega

/-- the item at a place -/
abbrev it (row : List Nat) (i : Nat) : Nat := row.getD i 0
theorem it_of {row : List Nat} {i z : Nat} (h : row[i]? = some z) : it row i = z := by
  show row.getD i 0 = z
  rw [List.getD_eq_getElem?_getD, h]; rfl
theorem of_it {row : List Nat} {i : Nat} (h : i < row.length) : row[i]? = some (it row i) := by
  show row[i]? = some (row.getD i 0)
  rw [List.getD_eq_getElem?_getD, List.getElem?_eq_getElem h]; rfl

def swapL (row : List Nat) (s : Nat) : List Nat := row.take s ++ [it row (s + 1), it row s] ++ row.drop (s + 2)
theorem swapL_len {row : List Nat} {s : Nat} (h : s + 1 < row.length) : (swapL row s).length = row.length := by
  unfold swapL
  rw [List.length_append, List.length_append, List.length_take, List.length_drop]
  show min s row.length + 2 + _ = _
  omega
theorem swapL_1 {row : List Nat} {s : Nat} (h : s + 1 < row.length) : it (swapL row s) s = it row (s + 1) := it_of (by
  unfold swapL
  rw [List.append_assoc, List.getElem?_append_right (by rw [List.length_take]; omega), List.length_take, show s - min s row.length = 0 by omega]
  rfl)
theorem swapL_2 {row : List Nat} {s : Nat} (h : s + 1 < row.length) : it (swapL row s) (s + 1) = it row s := it_of (by
  unfold swapL
  rw [List.append_assoc, List.getElem?_append_right (by rw [List.length_take]; omega), List.length_take, show s + 1 - min s row.length = 1 by omega]
  rfl)
theorem swapL_3 {row : List Nat} {s i : Nat} (h : s + 1 < row.length) (h1 : i ≠ s) (h2 : i ≠ s + 1) : it (swapL row s) i = it row i := by
  show (swapL row s).getD i 0 = row.getD i 0
  rw [List.getD_eq_getElem?_getD, List.getD_eq_getElem?_getD]
  congr 1
  unfold swapL
  by_cases e : i < s
  · rw [List.append_assoc, List.getElem?_append_left (by rw [List.length_take]; omega), List.getElem?_take_of_lt e]
  · rw [List.getElem?_append_right (by rw [List.length_append, List.length_take]; show min s row.length + 2 ≤ i; omega), List.length_append, List.length_take, List.getElem?_drop]
    congr 1
    show s + 2 + (i - (min s row.length + 2)) = i
    omega
theorem row_ext {a b : List Nat} (hl : a.length = b.length) (h : ∀ i, i < a.length → it a i = it b i) : a = b := by
  refine List.ext_getElem? fun i => ?_
  by_cases e : i < a.length
  · rw [of_it e, of_it (by omega), h i e]
  · rw [List.getElem?_eq_none (by omega), List.getElem?_eq_none (by omega)]

def okStep (rk : Nat → Nat → Nat) (row : List Nat) (s : Nat) : Prop :=
  s + 1 < row.length ∧ rk s (it row (s + 1)) < rk s (it row s) ∧ rk (s + 1) (it row s) < rk (s + 1) (it row (s + 1))
def rowAfter (n : Nat) (seq : List Nat) : List Nat := seq.foldl swapL (List.range n)
/-- every swap is allowed in the row that the swaps before it make -/
def Valid (n : Nat) (rk : Nat → Nat → Nat) (seq : List Nat) : Prop := ∀ i s, seq[i]? = some s → okStep rk (rowAfter n (seq.take i)) s

theorem rowAfter_snoc {n s : Nat} {seq : List Nat} : rowAfter n (seq ++ [s]) = swapL (rowAfter n seq) s := by
  unfold rowAfter
  rw [List.foldl_append]; rfl
theorem Valid.nil {n : Nat} {rk : Nat → Nat → Nat} : Valid n rk [] := fun i s h => by simp at h
theorem Valid.snoc {n s : Nat} {rk : Nat → Nat → Nat} {seq : List Nat} (h : Valid n rk seq) (hs : okStep rk (rowAfter n seq) s) : Valid n rk (seq ++ [s]) := fun i t e => by
  by_cases hi : i < seq.length
  · rw [List.getElem?_append_left hi] at e
    rw [List.take_append_of_le_length (by omega)]
    exact h i t e
  · rw [List.getElem?_append_right (by omega)] at e
    have : i = seq.length := by
      have := (List.getElem?_eq_some_iff.mp e).1
      simp at this
      omega
    subst this
    rw [List.take_left]
    rw [Nat.sub_self] at e
    rw [← Option.some.inj e]
    exact hs
theorem Valid.init {n s : Nat} {rk : Nat → Nat → Nat} {seq : List Nat} (h : Valid n rk (seq ++ [s])) : Valid n rk seq ∧ okStep rk (rowAfter n seq) s := by
  constructor
  · intro i t e
    have hi := (List.getElem?_eq_some_iff.mp e).1
    have := h i t (by rw [List.getElem?_append_left hi]; exact e)
    rwa [List.take_append_of_le_length (by omega)] at this
  · have := h seq.length s (by rw [List.getElem?_append_right (Nat.le_refl _), Nat.sub_self]; rfl)
    rwa [List.take_left] at this

theorem rev_ind {α : Type} {P : List α → Prop} (h0 : P []) (h1 : ∀ l a, P l → P (l ++ [a])) (l : List α) : P l := by
  rw [← List.reverse_reverse l]
  induction l.reverse with
  | nil => exact h0
  | cons a r ih => rw [List.reverse_cons]; exact h1 _ _ ih

/-- the places are told by pos -/
structure Perm (n : Nat) (row : List Nat) (pos : Nat → Nat) : Prop where
  len : row.length = n
  lt : ∀ i, i < n → it row i < n
  plt : ∀ z, z < n → pos z < n
  pa : ∀ i, i < n → pos (it row i) = i
  ap : ∀ z, z < n → it row (pos z) = z

theorem range_it {n i : Nat} (h : i < n) : it (List.range n) i = i := it_of (by rw [List.getElem?_range h])
theorem Perm.start (n : Nat) : Perm n (List.range n) (fun z => z) where
  len := List.length_range
  lt := fun i h => by rw [range_it h]; exact h
  plt := fun _ h => h
  pa := fun i h => range_it h
  ap := fun z h => range_it h
theorem Perm.swap {n s : Nat} {row : List Nat} {pos : Nat → Nat} (p : Perm n row pos) (hs : s + 1 < n) :
    Perm n (swapL row s) (fun z => if z = it row s then s + 1 else if z = it row (s + 1) then s else pos z) := by
  have hl : s + 1 < row.length := by rw [p.len]; exact hs
  have ne : it row s ≠ it row (s + 1) := fun e => by
    have h1 := p.pa s (by omega)
    have h2 := p.pa (s + 1) hs
    rw [e, h2] at h1
    omega
  refine ⟨(swapL_len hl).trans p.len, fun i h => ?_, fun z h => ?_, fun i h => ?_, fun z h => ?_⟩
  · by_cases e1 : i = s
    · subst e1; rw [swapL_1 hl]; exact p.lt _ hs
    · by_cases e2 : i = s + 1
      · subst e2; rw [swapL_2 hl]; exact p.lt _ (by omega)
      · rw [swapL_3 hl e1 e2]; exact p.lt i h
  · show (if z = it row s then s + 1 else if z = it row (s + 1) then s else pos z) < n
    have := p.plt z h
    split
    · omega
    · split <;> omega
  · show (if it (swapL row s) i = it row s then s + 1 else if it (swapL row s) i = it row (s + 1) then s else pos (it (swapL row s) i)) = i
    by_cases e1 : i = s
    · subst e1; rw [swapL_1 hl, if_neg ne.symm, if_pos rfl]
    · by_cases e2 : i = s + 1
      · subst e2; rw [swapL_2 hl, if_pos rfl]
      · rw [swapL_3 hl e1 e2, if_neg, if_neg]
        · exact p.pa i h
        · intro e
          have := p.pa i h
          rw [e, p.pa _ hs] at this
          exact e2 this.symm
        · intro e
          have := p.pa i h
          rw [e, p.pa _ (by omega)] at this
          exact e1 this.symm
  · show it (swapL row s) (if z = it row s then s + 1 else if z = it row (s + 1) then s else pos z) = z
    by_cases e1 : z = it row s
    · rw [if_pos e1, swapL_2 hl, e1]
    · by_cases e2 : z = it row (s + 1)
      · rw [if_neg e1, if_pos e2, swapL_1 hl, e2]
      · rw [if_neg e1, if_neg e2, swapL_3 hl, p.ap z h]
        · intro e; exact e1 (by rw [← e]; exact (p.ap z h).symm)
        · intro e; exact e2 (by rw [← e]; exact (p.ap z h).symm)

/-- the invariant holds behind a valid sequence -/
theorem Valid.inv {n : Nat} {rk : Nat → Nat → Nat} (seq : List Nat) : Valid n rk seq → ∃ pos, Perm n (rowAfter n seq) pos ∧ Inv n rk (it (rowAfter n seq)) pos := by
  induction seq using rev_ind with
  | h0 => intro _; exact ⟨_, Perm.start n, by
      have I := Inv.start n rk
      exact ⟨fun i h => (Perm.start n).lt i h, I.p_lt, (Perm.start n).pa, (Perm.start n).ap, fun z p a b c => (Nat.not_lt_of_le b c).elim, fun z p a b c => (Nat.not_lt_of_le c b).elim, I.mv, I.pl, I.hi, I.lo⟩⟩
  | h1 l s ih =>
    intro h
    obtain ⟨hv, ho⟩ := h.init
    obtain ⟨pos, P, I⟩ := ih hv
    obtain ⟨h1, h2, h3⟩ := ho
    have hs : s + 1 < n := by rw [← P.len]; exact h1
    have P' := P.swap hs
    have ne : it (rowAfter n l) (s + 1) ≠ it (rowAfter n l) s := fun e => by
      have h1 := P.pa s (by omega)
      have h2 := P.pa (s + 1) hs
      rw [← e, h2] at h1
      omega
    rw [rowAfter_snoc]
    refine ⟨_, P', I.step hs h2 h3 (swapL_1 h1) (swapL_2 h1) (fun i a b => swapL_3 h1 a b) (if_pos rfl) ?_ fun z hz a b => ?_⟩
    · show (if it (rowAfter n l) (s + 1) = it (rowAfter n l) s then s + 1 else if it (rowAfter n l) (s + 1) = it (rowAfter n l) (s + 1) then s else _) = s
      rw [if_neg ne, if_pos rfl]
    · show (if z = it (rowAfter n l) s then s + 1 else if z = it (rowAfter n l) (s + 1) then s else pos z) = pos z
      rw [if_neg a, if_neg b]
theorem Valid.perm {n : Nat} {rk : Nat → Nat → Nat} {seq : List Nat} (h : Valid n rk seq) : ∃ pos, Perm n (rowAfter n seq) pos := by
  obtain ⟨pos, P, _⟩ := Valid.inv seq h
  exact ⟨pos, P⟩

/-! ### the mirror image -/
def mirRow (n : Nat) (row : List Nat) : List Nat := row.reverse.map (n - 1 - ·)
theorem mir_it {n i : Nat} {row : List Nat} (hl : row.length = n) (h : i < n) : it (mirRow n row) i = n - 1 - it row (n - 1 - i) := it_of (by
  unfold mirRow
  rw [List.getElem?_map, List.getElem?_reverse (by omega), hl, of_it (by omega)]; rfl)
theorem mir_len {n : Nat} {row : List Nat} : (mirRow n row).length = row.length := by
  unfold mirRow; rw [List.length_map, List.length_reverse]
theorem mir_swap {n s : Nat} {row : List Nat} (hl : row.length = n) (hs : s + 1 < n) : mirRow n (swapL row s) = swapL (mirRow n row) (n - 2 - s) := by
  have h1 : s + 1 < row.length := by omega
  have h2 : n - 2 - s + 1 < (mirRow n row).length := by rw [mir_len]; omega
  refine row_ext (by rw [mir_len, swapL_len h1, swapL_len h2, mir_len]) fun i hi => ?_
  rw [mir_len, swapL_len h1, hl] at hi
  rw [mir_it ((swapL_len h1).trans hl) hi]
  by_cases e1 : i = n - 2 - s
  · rw [e1, swapL_1 h2, mir_it hl (by omega), show n - 1 - (n - 2 - s) = s + 1 by omega, swapL_2 h1, show n - 1 - (n - 2 - s + 1) = s by omega]
  · by_cases e2 : i = n - 2 - s + 1
    · rw [e2, swapL_2 h2, mir_it hl (by omega), show n - 1 - (n - 2 - s + 1) = s by omega, swapL_1 h1, show n - 1 - (n - 2 - s) = s + 1 by omega]
    · rw [swapL_3 h2 e1 e2, mir_it hl hi, swapL_3 h1 (by omega) (by omega)]
theorem mir_start {n : Nat} : mirRow n (List.range n) = List.range n := by
  refine row_ext (by rw [mir_len]) fun i hi => ?_
  rw [mir_len, List.length_range] at hi
  rw [mir_it List.length_range hi, range_it (by omega), range_it hi]
  omega

theorem mirror {n : Nat} {rk rk' : Nat → Nat → Nat} (hm : ∀ p y, p < n → y < n → rk' p y = rk (n - 1 - p) (n - 1 - y)) (seq : List Nat) :
    Valid n rk seq → Valid n rk' (seq.map (n - 2 - ·)) ∧ rowAfter n (seq.map (n - 2 - ·)) = mirRow n (rowAfter n seq) := by
  induction seq using rev_ind with
  | h0 => intro _; exact ⟨Valid.nil, mir_start.symm⟩
  | h1 l s ih =>
    intro h
    obtain ⟨hv, ho⟩ := h.init
    obtain ⟨v1, r1⟩ := ih hv
    obtain ⟨pos, P⟩ := hv.perm
    obtain ⟨h1, h2, h3⟩ := ho
    have hs : s + 1 < n := by rw [← P.len]; exact h1
    rw [List.map_append]
    show Valid n rk' (l.map (n - 2 - ·) ++ [n - 2 - s]) ∧ rowAfter n (l.map (n - 2 - ·) ++ [n - 2 - s]) = _
    have i1 := P.lt s (by omega)
    have i2 := P.lt (s + 1) hs
    constructor
    · refine v1.snoc ?_
      rw [r1]
      refine ⟨by rw [mir_len, P.len]; omega, ?_, ?_⟩
      · rw [mir_it P.len (by omega), mir_it P.len (by omega), show n - 1 - (n - 2 - s + 1) = s by omega, show n - 1 - (n - 2 - s) = s + 1 by omega, hm _ _ (by omega) (by omega), hm _ _ (by omega) (by omega),
          show n - 1 - (n - 2 - s) = s + 1 by omega, show n - 1 - (n - 1 - it (rowAfter n l) s) = it (rowAfter n l) s by omega, show n - 1 - (n - 1 - it (rowAfter n l) (s + 1)) = it (rowAfter n l) (s + 1) by omega]
        exact h3
      · rw [mir_it P.len (by omega), mir_it P.len (by omega), show n - 1 - (n - 2 - s + 1) = s by omega, show n - 1 - (n - 2 - s) = s + 1 by omega, hm _ _ (by omega) (by omega), hm _ _ (by omega) (by omega),
          show n - 1 - (n - 2 - s + 1) = s by omega, show n - 1 - (n - 1 - it (rowAfter n l) s) = it (rowAfter n l) s by omega, show n - 1 - (n - 1 - it (rowAfter n l) (s + 1)) = it (rowAfter n l) (s + 1) by omega]
        exact h2
    · rw [rowAfter_snoc, r1, rowAfter_snoc, mir_swap P.len hs]

/-- COMPLETENESS over sequences -/
theorem complete_seq {n : Nat} {rk : Nat → Nat → Nat} {x q : Nat} {seq : List Nat} (h : Valid n rk seq) (hxq : x < q) (hq : q < n) (hA : it (rowAfter n seq) q = x) :
    ∃ w, q ≤ w ∧ w < n ∧ leftIdx rk x q w = some (q - x) ∧ ∃ σ : Nat → Bool, ∀ y z, x < y → y < w → x < z → z < w → clash n rk x q w (y, σ y) (z, σ z) = false := by
  obtain ⟨pos, _, I⟩ := Valid.inv seq h
  exact complete I hxq hq hA
end Sw

/-! Ways without a conflict make an arrangement; every sequence of needed swaps leads to it and is valid. -/
namespace Sw

theorem filt_get {f : Nat → Bool} {i : Nat} : ∀ {m : Nat}, i < m → f i = true → ((List.range m).filter f)[cnt f i]? = some i
  | 0, h, _ => absurd h (Nat.not_lt_zero _)
  | m + 1, h, hf => by
    have hl : ∀ m, ((List.range m).filter f).length = cnt f m := by
      intro m
      induction m with
      | zero => rfl
      | succ m ih =>
        rw [List.range_succ, List.filter_append, List.length_append, ih]
        show _ = cnt f m + (if f m = true then 1 else 0)
        by_cases e : f m = true
        · rw [if_pos e, List.filter_cons, if_pos e]; rfl
        · rw [if_neg e, List.filter_cons, if_neg e]; rfl
    rw [List.range_succ, List.filter_append]
    by_cases e : i = m
    · subst e
      rw [List.getElem?_append_right (by rw [hl]; exact Nat.le_refl _), hl, Nat.sub_self, List.filter_cons, if_pos hf]; rfl
    · have ih := filt_get (f := f) (i := i) (m := m) (by omega) hf
      rw [List.getElem?_append_left (List.getElem?_eq_some_iff.mp ih).1]
      exact ih
theorem filt_len {f : Nat → Bool} : ∀ m, ((List.range m).filter f).length = cnt f m
  | 0 => rfl
  | m + 1 => by
    rw [List.range_succ, List.filter_append, List.length_append, filt_len m]
    show _ = cnt f m + (if f m = true then 1 else 0)
    by_cases e : f m = true
    · rw [if_pos e, List.filter_cons, if_pos e]; rfl
    · rw [if_neg e, List.filter_cons, if_neg e]; rfl
theorem cnt_not {f : Nat → Bool} : ∀ m, cnt (fun i => !f i) m = m - cnt f m
  | 0 => rfl
  | m + 1 => by
    have := cnt_le (f := f) (m := m)
    show cnt _ m + (if (!f m) = true then 1 else 0) = m + 1 - (cnt f m + (if f m = true then 1 else 0))
    rw [cnt_not m]
    cases f m with
    | true => rw [if_neg (by decide), if_pos rfl]; omega
    | false => rw [if_pos (by decide), if_neg (by decide)]; omega
theorem cnt_shift {σ : Nat → Bool} {x : Nat} : ∀ j, cnt (fun i => σ (x + 1 + i)) j = lcnt σ x (x + 1 + j)
  | 0 => (lcnt_zero (by omega)).symm
  | j + 1 => by
    show cnt _ j + (if σ (x + 1 + j) = true then 1 else 0) = _
    rw [cnt_shift j, show x + 1 + (j + 1) = x + 1 + j + 1 by omega, lcnt_step (by omega)]
theorem lcnt_lip {f : Nat → Bool} {x y : Nat} (h : x < y) : ∀ {z : Nat}, y ≤ z → lcnt f x z ≤ lcnt f x y + (z - y)
  | 0, hz => by have : y = 0 := by omega
                omega
  | z + 1, hz => by
    by_cases e : y = z + 1
    · subst e; omega
    · have := lcnt_lip (f := f) h (z := z) (by omega)
      rw [lcnt_step (f := f) (x := x) (y := z) (by omega)]
      split <;> omega

/-- all needed pairs, in ascending order -/
def invList (g : Nat → Nat) (n : Nat) : List (Nat × Nat) := (List.range n).flatMap fun u => ((List.range (n - (u + 1))).filter fun i => decide (g (u + 1 + i) < g u)).map fun i => (u, u + 1 + i)
theorem invList_mem {g : Nat → Nat} {n u v : Nat} : (u, v) ∈ invList g n ↔ u < v ∧ v < n ∧ g v < g u := by
  unfold invList
  rw [List.mem_flatMap]
  constructor
  · rintro ⟨a, ha, h⟩
    obtain ⟨i, hi, e⟩ := List.mem_map.mp h
    obtain ⟨h1, h2⟩ := List.mem_filter.mp hi
    have h1 := List.mem_range.mp h1
    have h2 := of_decide_eq_true h2
    injection e with e1 e2
    subst e1 e2
    exact ⟨by omega, by omega, h2⟩
  · rintro ⟨h1, h2, h3⟩
    exact ⟨u, List.mem_range.mpr (by omega), List.mem_map.mpr ⟨v - (u + 1), List.mem_filter.mpr ⟨List.mem_range.mpr (by omega), decide_eq_true (by rw [show u + 1 + (v - (u + 1)) = v by omega]; exact h3)⟩, by rw [show u + 1 + (v - (u + 1)) = v by omega]⟩⟩
theorem invList_nodup {g : Nat → Nat} {n : Nat} : (invList g n).Nodup := by
  unfold invList
  show List.Pairwise (· ≠ ·) _
  rw [List.flatMap_def, List.pairwise_flatten]
  constructor
  · intro l hl
    obtain ⟨a, _, rfl⟩ := List.mem_map.mp hl
    rw [List.pairwise_map]
    refine List.Pairwise.imp ?_ (List.Pairwise.filter _ List.nodup_range)
    intro i j ne e
    injection e with _ e2
    exact ne (by omega)
  · rw [List.pairwise_map]
    refine List.Pairwise.imp ?_ (List.nodup_range (n := n))
    intro a b ne p hp r hr e
    obtain ⟨_, _, rfl⟩ := List.mem_map.mp hp
    obtain ⟨_, _, rfl⟩ := List.mem_map.mp hr
    injection e with e1 _
    exact ne e1

section
variable (n : Nat) (x q w : Nat) (σ : Nat → Bool)
def goal (z : Nat) : Nat :=
  if z < x ∨ w < z then z else if z = x then q else if z = w then q - 1 else if σ z = true then x + lcnt σ x z else q + (z - x - lcnt σ x z)
def leftOf : List Nat := ((List.range (w - (x + 1))).filter fun i => σ (x + 1 + i)).map (x + 1 + ·)
def stayOf : List Nat := ((List.range (w - (x + 1))).filter fun i => !σ (x + 1 + i)).map (x + 1 + ·)
def arr : List Nat := List.range x ++ (leftOf x w σ ++ [w]) ++ [x] ++ stayOf x w σ ++ (List.range (n - (w + 1))).map (w + 1 + ·)
end

section
variable {n : Nat} {rk : Nat → Nat → Nat} {x q w : Nat} {σ : Nat → Bool}

/-- what the ways tell -/
structure Ways (n : Nat) (rk : Nat → Nat → Nat) (x q w : Nat) (σ : Nat → Bool) : Prop where
  inj : ∀ p y z, p < n → y < n → z < n → rk p y = rk p z → y = z
  xq : x < q
  qw : q ≤ w
  wn : w < n
  last : leftIdx rk x q w = some (q - x)
  free : ∀ y z, x < y → y < w → x < z → z < w → clash n rk x q w (y, σ y) (z, σ z) = false

theorem Ways.notWrong (W : Ways n rk x q w σ) {y : Nat} (h1 : x < y) (h2 : y < w) : wrong rk x q w (y, σ y) = false := by
  have := W.free y y h1 h2 h1 h2
  unfold clash at this
  cases e : wrong rk x q w (y, σ y) with
  | false => rfl
  | true => rw [e, if_pos (.inl rfl)] at this; cases this

theorem Ways.before (W : Ways n rk x q w σ) : ∀ y, x < y → y < w → before rk x q w (y, σ y) = (lcnt σ x y : Int)
  | 0, h, _ => absurd h (Nat.not_lt_zero _)
  | y + 1, h1, h2 => by
    have nw := W.notWrong h1 h2
    unfold wrong at nw
    by_cases e : y = x
    · subst e
      rw [lcnt_zero (by omega)]
      by_cases h : idx rk y q w (y + 1, σ (y + 1)) = none ∨ (y + 1, σ (y + 1)).1 = y + 1 ∧ Sw.before rk y q w (y + 1, σ (y + 1)) ≠ 0
      · rw [if_pos h] at nw; cases nw
      · refine Classical.byContradiction fun h3 => h (.inr ⟨rfl, h3⟩)
    · have ih := W.before y (by omega) (by omega)
      have c := W.free y (y + 1) (by omega) (by omega) h1 h2
      unfold clash at c
      rw [W.notWrong (by omega : x < y) (by omega), W.notWrong h1 h2, if_neg (by simp), if_neg (show ¬ y = y + 1 by omega)] at c
      have l : (y, σ y).1 < (y + 1, σ (y + 1)).1 := Nat.lt_succ_self y
      simp only [if_pos l] at c
      by_cases h : beyond rk x q w (y, σ y) ≠ Sw.before rk x q w (y + 1, σ (y + 1))
      · rw [if_pos ⟨trivial, h⟩] at c; cases c
      · have e2 : beyond rk x q w (y, σ y) = Sw.before rk x q w (y + 1, σ (y + 1)) := Classical.byContradiction fun h3 => h h3
        rw [← e2, lcnt_step (by omega)]
        unfold beyond
        rw [ih]
        show _ + (if σ y = true then (1 : Int) else 0) = _
        cases σ y with
        | true => rfl
        | false => rfl

theorem Ways.ix (W : Ways n rk x q w σ) {y : Nat} (h1 : x < y) (h2 : y < w) : ∃ k, idx rk x q w (y, σ y) = some k ∧ (σ y = true → k = lcnt σ x y + 1) ∧ (σ y = false → k = y - x - lcnt σ x y ∧ lcnt σ x y < y - x) := by
  have nw := W.notWrong h1 h2
  have b := W.before y h1 h2
  have l0 := lcnt_le (f := σ) (x := x) (y := y)
  unfold wrong at nw
  unfold Sw.before at b
  cases hk : idx rk x q w (y, σ y) with
  | none => rw [hk, if_pos (.inl rfl)] at nw; cases nw
  | some k =>
    rw [hk] at b
    change (if σ y = true then ((k : Nat) : Int) - 1 else (y : Int) - x - (k : Nat)) = _ at b
    refine ⟨k, rfl, fun e => ?_, fun e => ?_⟩
    · rw [if_pos e] at b; omega
    · rw [e, if_neg (by decide)] at b
      omega

theorem Ways.tot (W : Ways n rk x q w σ) : lcnt σ x w + 1 = q - x := by
  have := W.xq
  have := W.qw
  by_cases e : w = x + 1
  · rw [lcnt_zero (by omega)]; omega
  · have h1 : x < w - 1 := by omega
    have h2 : w - 1 < w := by omega
    have nw := W.notWrong h1 h2
    have b := W.before (w - 1) h1 h2
    unfold wrong at nw
    have bb : beyond rk x q w (w - 1, σ (w - 1)) = (lcnt σ x w : Int) := by
      unfold beyond
      rw [b]
      have := lcnt_step (f := σ) (x := x) (y := w - 1) h1
      rw [show w - 1 + 1 = w by omega] at this
      rw [this]
      show _ + (if σ (w - 1) = true then (1 : Int) else 0) = _
      cases σ (w - 1) with
      | true => rfl
      | false => rfl
    by_cases h : idx rk x q w (w - 1, σ (w - 1)) = none ∨ (w - 1, σ (w - 1)).1 = x + 1 ∧ Sw.before rk x q w (w - 1, σ (w - 1)) ≠ 0
    · rw [if_pos h] at nw; cases nw
    · rw [if_neg h] at nw
      have nw := of_decide_eq_false nw
      have : beyond rk x q w (w - 1, σ (w - 1)) = (q : Int) - x - 1 := Classical.byContradiction fun h3 => nw ⟨by show ((w - 1 : Nat) : Int) = (w : Int) - 1; omega, h3⟩
      rw [bb] at this
      omega

/-- goes left | begins on the left of those -/
def isL (x w : Nat) (σ : Nat → Bool) (y : Nat) : Prop := x < y ∧ y ≤ w ∧ (y < w → σ y = true)
def isM (x w : Nat) (σ : Nat → Bool) (y : Nat) : Prop := x ≤ y ∧ y < w ∧ (x < y → σ y = false)
theorem not_both {y : Nat} (a : isL x w σ y) (b : isM x w σ y) : False := by
  have := a.2.2 b.2.1
  rw [b.2.2 a.1] at this
  cases this

theorem Ways.goalM (W : Ways n rk x q w σ) {y : Nat} (h : isM x w σ y) : goal x q w σ y = q + (y - x - lcnt σ x y) ∧ q ≤ goal x q w σ y ∧ goal x q w σ y ≤ w ∧ lcnt σ x y ≤ y - x := by
  obtain ⟨h1, h2, h3⟩ := h
  have t := W.tot
  have := W.xq
  have := W.qw
  have l0 := lcnt_le (f := σ) (x := x) (y := y)
  by_cases e : y = x
  · subst e
    unfold goal
    rw [if_neg (by omega), if_pos rfl, lcnt_zero (by omega)]
    omega
  · have hs := h3 (by omega)
    have g : goal x q w σ y = q + (y - x - lcnt σ x y) := by
      unfold goal
      rw [if_neg (by omega), if_neg e, if_neg (by omega), hs, if_neg (by decide)]
    have lip := lcnt_lip (f := σ) (x := x) (y := y + 1) (by omega) (z := w) (by omega)
    rw [lcnt_step (by omega), hs, if_neg (by decide)] at lip
    rw [g]
    omega
theorem Ways.goalL (W : Ways n rk x q w σ) {y : Nat} (h : isL x w σ y) : goal x q w σ y = x + lcnt σ x y ∧ goal x q w σ y < q := by
  obtain ⟨h1, h2, h3⟩ := h
  have t := W.tot
  have := W.xq
  have := W.qw
  have m := lcnt_mono (f := σ) (x := x) h2
  by_cases e : y = w
  · subst e
    unfold goal
    rw [if_neg (by omega), if_neg (by omega), if_pos rfl]
    omega
  · have hs := h3 (by omega)
    unfold goal
    rw [if_neg (by omega), if_neg (by omega), if_neg e, if_pos hs]
    omega
theorem kinds (x w : Nat) (σ : Nat → Bool) (y : Nat) : y < x ∨ w < y ∨ isL x w σ y ∨ isM x w σ y ∨ (y = x ∧ w ≤ x) := by
  by_cases h1 : y < x
  · exact .inl h1
  · by_cases h2 : w < y
    · exact .inr (.inl h2)
    · by_cases e1 : y = x
      · by_cases e2 : w ≤ x
        · exact .inr (.inr (.inr (.inr ⟨e1, e2⟩)))
        · exact .inr (.inr (.inr (.inl ⟨by omega, by omega, fun h => by omega⟩)))
      · by_cases e2 : y = w
        · exact .inr (.inr (.inl ⟨by omega, by omega, fun h => by omega⟩))
        · cases hs : σ y with
          | true => exact .inr (.inr (.inl ⟨by omega, by omega, fun _ => hs⟩))
          | false => exact .inr (.inr (.inr (.inl ⟨by omega, by omega, fun _ => hs⟩)))

theorem Ways.need_iff (W : Ways n rk x q w σ) {u v : Nat} (h : u < v) : goal x q w σ v < goal x q w σ u ↔ isM x w σ u ∧ isL x w σ v := by
  have hxq := W.xq
  have hqw := W.qw
  have out : ∀ z, z < x ∨ w < z → goal x q w σ z = z := fun z hz => by unfold goal; rw [if_pos hz]
  have big : ∀ z, isL x w σ z ∨ isM x w σ z → x ≤ goal x q w σ z := fun z hz => by
    rcases hz with h | h
    · have := W.goalL h; omega
    · have := W.goalM h; omega
  rcases kinds x w σ u with a | a | a | a | a
  · have no : ¬ (isM x w σ u ∧ isL x w σ v) := fun h => by have := h.1.1; omega
    refine ⟨fun h => ?_, fun h => (no h).elim⟩
    rw [out u (.inl a)] at h
    rcases kinds x w σ v with b | b | b | b | b
    · rw [out v (.inl b)] at h; omega
    · rw [out v (.inr b)] at h; omega
    · have := big v (.inl b); omega
    · have := big v (.inr b); omega
    · omega
  · have no : ¬ (isM x w σ u ∧ isL x w σ v) := fun h => by have := h.1.2.1; omega
    refine ⟨fun h => ?_, fun h => (no h).elim⟩
    rw [out u (.inr a), out v (.inr (by omega))] at h
    omega
  · have ga := W.goalL a
    refine ⟨fun h => ?_, fun h => (not_both a h.1).elim⟩
    rcases kinds x w σ v with b | b | b | b | b
    · have := a.1; omega
    · rw [out v (.inr b)] at h; omega
    · have gb := W.goalL b
      have m := lcnt_mono (f := σ) (x := x) (show u + 1 ≤ v by omega)
      rw [lcnt_step a.1, if_pos (a.2.2 (by have := b.2.1; omega))] at m
      omega
    · have gb := W.goalM b; omega
    · omega
  · have ga := W.goalM a
    rcases kinds x w σ v with b | b | b | b | b
    · have := a.1; omega
    · refine ⟨fun h => ?_, fun h => ?_⟩
      · rw [out v (.inr b)] at h; omega
      · have := h.2.2.1; omega
    · have gb := W.goalL b
      exact ⟨fun _ => ⟨a, b⟩, fun _ => by omega⟩
    · have gb := W.goalM b
      refine ⟨fun h => ?_, fun h => (not_both h.2 b).elim⟩
      by_cases e : u = x
      · subst e
        rw [lcnt_zero (show u ≤ u + 1 by omega)] at ga
        omega
      · have lip := lcnt_lip (f := σ) (x := x) (y := u + 1) (by have := a.1; omega) (z := v) (by omega)
        rw [lcnt_step (by have := a.1; omega), a.2.2 (by have := a.1; omega), if_neg (by decide)] at lip
        have := a.1
        omega
    · omega
  · omega

theorem Ways.goal_lt (W : Ways n rk x q w σ) {z : Nat} (h : z < n) : goal x q w σ z < n := by
  have := W.xq
  have := W.qw
  have := W.wn
  rcases kinds x w σ z with a | a | a | a | a
  · unfold goal; rw [if_pos (.inl a)]; exact h
  · unfold goal; rw [if_pos (.inr a)]; exact h
  · have := W.goalL a; omega
  · have := W.goalM a; omega
  · omega

theorem Ways.arr_len (W : Ways n rk x q w σ) : (arr n x w σ).length = n ∧ (leftOf x w σ).length = lcnt σ x w ∧ (stayOf x w σ).length = w - (x + 1) - lcnt σ x w := by
  have := W.xq
  have := W.qw
  have := W.wn
  have t := W.tot
  have a : (leftOf x w σ).length = lcnt σ x w := by
    unfold leftOf
    rw [List.length_map, filt_len, cnt_shift, show x + 1 + (w - (x + 1)) = w by omega]
  have b : (stayOf x w σ).length = w - (x + 1) - lcnt σ x w := by
    unfold stayOf
    rw [List.length_map, filt_len, cnt_not, cnt_shift, show x + 1 + (w - (x + 1)) = w by omega]
  refine ⟨?_, a, b⟩
  unfold arr
  simp only [List.length_append, List.length_range, List.length_map, a, b, List.length_cons, List.length_nil]
  have := lcnt_le (f := σ) (x := x) (y := w)
  omega

theorem Ways.arr_goal (W : Ways n rk x q w σ) {z : Nat} (h : z < n) : (arr n x w σ)[goal x q w σ z]? = some z := by
  have hxq := W.xq
  have hqw := W.qw
  have hwn := W.wn
  have t := W.tot
  obtain ⟨_, la, lb⟩ := W.arr_len
  have lw := lcnt_le (f := σ) (x := x) (y := w)
  have l1 : (List.range x ++ (leftOf x w σ ++ [w])).length = q := by
    rw [List.length_append, List.length_append, List.length_range, la]; show x + (_ + 1) = q; omega
  have l2 : (List.range x ++ (leftOf x w σ ++ [w]) ++ [x]).length = q + 1 := by rw [List.length_append, l1]; rfl
  have l3 : (List.range x ++ (leftOf x w σ ++ [w]) ++ [x] ++ stayOf x w σ).length = w + 1 := by rw [List.length_append, l2, lb]; omega
  unfold arr
  rcases kinds x w σ z with a | a | a | a | a
  · have g : goal x q w σ z = z := by unfold goal; rw [if_pos (.inl a)]
    rw [g, List.getElem?_append_left (by rw [l3]; omega), List.getElem?_append_left (by rw [l2]; omega), List.getElem?_append_left (by rw [l1]; omega), List.getElem?_append_left (by rw [List.length_range]; exact a), List.getElem?_range a]
  · have g : goal x q w σ z = z := by unfold goal; rw [if_pos (.inr a)]
    rw [g, List.getElem?_append_right (by rw [l3]; omega), l3, List.getElem?_map, List.getElem?_range (by omega)]
    show some (w + 1 + (z - (w + 1))) = some z
    congr 1; omega
  · obtain ⟨g, g2⟩ := W.goalL a
    rw [List.getElem?_append_left (by rw [l3]; omega), List.getElem?_append_left (by rw [l2]; omega), List.getElem?_append_left (by rw [l1]; omega), g,
      List.getElem?_append_right (by rw [List.length_range]; omega), List.length_range, show x + lcnt σ x z - x = lcnt σ x z by omega]
    by_cases e : z = w
    · subst e
      rw [List.getElem?_append_right (by rw [la]; omega), la, Nat.sub_self]; rfl
    · have h1 := a.1
      have h2 := a.2.1
      have fg := filt_get (f := fun i => σ (x + 1 + i)) (i := z - (x + 1)) (m := w - (x + 1)) (by omega) (by show σ (x + 1 + (z - (x + 1))) = true; rw [show x + 1 + (z - (x + 1)) = z by omega]; exact a.2.2 (by omega))
      rw [cnt_shift, show x + 1 + (z - (x + 1)) = z by omega] at fg
      have e2 : (leftOf x w σ)[lcnt σ x z]? = some z := by
        unfold leftOf
        rw [List.getElem?_map, fg]
        show some (x + 1 + (z - (x + 1))) = some z
        congr 1; omega
      rw [List.getElem?_append_left (List.getElem?_eq_some_iff.mp e2).1]
      exact e2
  · obtain ⟨g, g2, g3, g4⟩ := W.goalM a
    rw [List.getElem?_append_left (by rw [l3]; omega)]
    by_cases e : z = x
    · subst e
      rw [g, lcnt_zero (by omega), List.getElem?_append_left (by rw [l2]; omega), List.getElem?_append_right (by rw [l1]; omega), l1, show q + (z - z - 0) - q = 0 by omega]
      rfl
    · have h1 := a.1
      have h2 := a.2.1
      have l0 := lcnt_le (f := σ) (x := x) (y := z)
      rw [List.getElem?_append_right (by rw [l2, g]; omega), l2, g]
      have fg := filt_get (f := fun i => !σ (x + 1 + i)) (i := z - (x + 1)) (m := w - (x + 1)) (by omega) (by show (!σ (x + 1 + (z - (x + 1)))) = true; rw [show x + 1 + (z - (x + 1)) = z by omega, a.2.2 (by omega)]; rfl)
      rw [cnt_not, cnt_shift, show x + 1 + (z - (x + 1)) = z by omega] at fg
      unfold stayOf
      rw [List.getElem?_map, show q + (z - x - lcnt σ x z) - (q + 1) = z - (x + 1) - lcnt σ x z by omega, fg]
      show some (x + 1 + (z - (x + 1))) = some z
      congr 1; omega
  · omega

/-- THE PLACE: neighbors of which the swap is needed may swap -/
theorem Ways.allowed (W : Ways n rk x q w σ) {row : List Nat} {pos : Nat → Nat} (P : Perm n row pos) (hin : ∀ u v, u < v → v < n → pos v < pos u → isM x w σ u ∧ isL x w σ v) {p : Nat} (hp : p + 1 < n)
    (huv : it row p < it row (p + 1)) (hM : isM x w σ (it row p)) (hL : isL x w σ (it row (p + 1))) : okStep rk row p := by
  have hvn := P.lt (p + 1) hp
  have pu := P.pa p (by omega)
  have pv := P.pa (p + 1) hp
  have unq : ∀ z i, z < n → pos z = i → z = it row i := fun z i hz e => by rw [← e]; exact (P.ap z hz).symm
  have hxq := W.xq
  have hqw := W.qw
  have hwn := W.wn
  refine ⟨by rw [P.len]; exact hp, ?_⟩
  generalize hU : it row p = u at *
  generalize hV : it row (p + 1) = v at *
  have place : u + lcnt σ u v = p := by
    have c := cnt_pos P.lt P.pa P.ap p (by omega)
    rw [cnt_hi (v := v) (by omega) (fun y h1 h2 => decide_eq_false fun h => by
      by_cases e : y = v
      · subst e; omega
      · exact not_both hL (hin v y (by omega) h2 (by omega)).1), cnt_lo (u := u) (by omega) (fun y hy => decide_eq_true (Nat.lt_of_not_le fun h => by
      by_cases e : pos y = p
      · have := unq y p (by omega) e; omega
      · exact not_both (hin y u hy (by omega) (by omega)).2 hM))] at c
    have e : lcnt σ u v = cnt (fun y => decide (u ≤ y) && decide (pos y < p)) v := cnt_congr fun y hy => by
      by_cases e1 : u < y
      · rw [decide_eq_true e1, decide_eq_true (by omega : u ≤ y)]
        show σ y = decide (pos y < p)
        have hyw : y < w := by have := hL.2.1; omega
        have hxy : x < y := by have := hM.1; omega
        cases hs : σ y with
        | true =>
          refine (decide_eq_true (Nat.lt_of_not_le fun h => ?_)).symm
          have ne1 : pos y ≠ p := fun e => by have := unq y p (by omega) e; omega
          have ne2 : pos y ≠ p + 1 := fun e => by have := unq y (p + 1) (by omega) e; omega
          exact not_both ⟨hxy, by omega, fun _ => hs⟩ (hin y v hy hvn (by omega)).1
        | false =>
          refine (decide_eq_false fun h => ?_).symm
          exact not_both (hin u y e1 (by omega) (by omega)).2 ⟨by omega, hyw, fun _ => hs⟩
      · rw [decide_eq_false e1]
        by_cases e2 : u = y
        · subst e2
          rw [decide_eq_false (by omega : ¬ pos u < p), Bool.and_false]; rfl
        · rw [decide_eq_false (by omega : ¬ u ≤ y)]; rfl
    rw [e]; exact c
  have hne : ∀ a, a < n → rk a u ≠ rk a v := fun a ha e => by have := W.inj a u v ha (by omega) hvn e; omega
  by_cases eu : u = x
  · -- x itself
    have hk : leftIdx rk x q v = some (lcnt σ x v + 1) := by
      by_cases ev : v = w
      · rw [ev, W.last, ← W.tot]
      · obtain ⟨k, h1, h2, _⟩ := W.ix hL.1 (show v < w by have := hL.2.1; omega)
        have hs := hL.2.2 (by have := hL.2.1; omega)
        rw [h2 hs] at h1
        unfold idx at h1
        rw [if_pos (show (v, σ v).2 = true from hs)] at h1
        exact h1
    obtain ⟨a, h1, h2, h3, h4, h5⟩ := leftIdx_iff.mp hk
    have ea : a = p := by rw [eu] at place; omega
    subst ea
    rw [eu]
    refine ⟨h3, ?_⟩
    have := h4 (a + 1) (by omega) (by omega)
    have := hne (a + 1) hp
    rw [eu] at this
    omega
  · have hxu : x < u := by have := hM.1; omega
    have hs := hM.2.2 hxu
    obtain ⟨t, h1, _, h2⟩ := W.ix hxu hM.2.1
    have h3 := h2 hs
    have m := lcnt_mid (f := σ) hxu huv
    rw [lcnt_step hxu, hs, if_neg (by decide)] at m
    have tt := W.tot
    by_cases ev : v = w
    · unfold idx at h1
      rw [if_neg (show ¬ (u, σ u).2 = true by rw [show (u, σ u).2 = false from hs]; decide)] at h1
      change stayIdx rk q w u = some t at h1
      obtain ⟨a, g1, g2, g3, g4, g5, g6, g7⟩ := stayIdx_iff.mp h1
      have ea : a = p + 1 := by rw [ev] at place m; omega
      subst ea
      rw [ev]
      refine ⟨?_, g5⟩
      have := g6 p (by omega) (by omega)
      have := hne p (by omega)
      rw [ev] at this
      omega
    · have hvw : v < w := by have := hL.2.1; omega
      have hsv := hL.2.2 hvw
      obtain ⟨k, g1, g2, _⟩ := W.ix hL.1 hvw
      have g3 := g2 hsv
      have c := W.free u v hxu hM.2.1 hL.1 hvw
      unfold clash at c
      rw [W.notWrong hxu hM.2.1, W.notWrong hL.1 hvw, if_neg (by simp), if_neg (show ¬ u = v by omega)] at c
      have l : (u, σ u).1 < (v, σ v).1 := huv
      simp only [if_pos l] at c
      by_cases hb : (v, σ v).1 = (u, σ u).1 + 1 ∧ beyond rk x q w (u, σ u) ≠ Sw.before rk x q w (v, σ v)
      · rw [if_pos hb] at c; cases c
      · rw [if_neg hb] at c
        have ag : agree n rk x q w (u, σ u) (v, σ v) = true := by
          cases e : agree n rk x q w (u, σ u) (v, σ v) with
          | true => rfl
          | false => rw [e] at c; cases c
        unfold agree at ag
        rw [hs, hsv, if_neg (by simp)] at ag
        rw [hs] at h1
        rw [hsv] at g1
        rw [h1, g1] at ag
        change (if n ≤ x + t + k - 1 + 1 then false else likes rk (x + t + k - 1) v u && likes rk (x + t + k - 1 + 1) u v) = true at ag
        have ep : x + t + k - 1 = p := by omega
        rw [ep, if_neg (by omega)] at ag
        have := Bool.and_eq_true_iff.mp ag
        exact ⟨of_decide_eq_true this.1, of_decide_eq_true this.2⟩

/-- the state between two swaps -/
structure Going (n : Nat) (rk : Nat → Nat → Nat) (g : Nat → Nat) (row fnd : List Nat) : Prop where
  valid : Valid n rk fnd
  row_eq : row = rowAfter n fnd
  ex : ∃ (pos : Nat → Nat) (done : List (Nat × Nat)), Perm n row pos ∧ done.Nodup ∧ done.length = fnd.length ∧ (∀ u v, (u, v) ∈ done ↔ u < v ∧ v < n ∧ pos v < pos u) ∧ ∀ u v, (u, v) ∈ done → g v < g u

theorem Going.start {g : Nat → Nat} : Going n rk g (List.range n) [] :=
  ⟨Valid.nil, rfl, _, [], Perm.start n, List.nodup_nil, rfl, fun u v => ⟨fun h => (by cases h), fun h => (by omega)⟩, fun u v h => (by cases h)⟩
theorem Going.len {g : Nat → Nat} {row fnd : List Nat} (h : Going n rk g row fnd) : row.length = n := by
  obtain ⟨_, _, P, _⟩ := h.ex
  exact P.len
theorem Going.lt {g : Nat → Nat} {row fnd : List Nat} (h : Going n rk g row fnd) {i : Nat} (hi : i < n) : it row i < n := by
  obtain ⟨_, _, P, _⟩ := h.ex
  exact P.lt i hi
theorem Going.le {g : Nat → Nat} {row fnd : List Nat} (h : Going n rk g row fnd) : fnd.length ≤ (invList g n).length := by
  obtain ⟨pos, done, _, hn, hl, hm, hg⟩ := h.ex
  rw [← hl]
  refine nodup_len hn fun p hp => ?_
  obtain ⟨u, v⟩ := p
  have := (hm u v).mp hp
  exact invList_mem.mpr ⟨this.1, this.2.1, hg u v hp⟩

theorem Going.next (W : Ways n rk x q w σ) {row fnd : List Nat} (h : Going n rk (goal x q w σ) row fnd) {p : Nat} (hp : p + 1 < n) (hn : (it row p, it row (p + 1)) ∈ invList (goal x q w σ) n) :
    Going n rk (goal x q w σ) (swapL row p) (fnd ++ [p]) := by
  obtain ⟨h1, h2, h3⟩ := invList_mem.mp hn
  obtain ⟨pos, done, P, hd, hl, hm, hg⟩ := h.ex
  have nd := (W.need_iff h1).mp h3
  have ok : okStep rk row p := W.allowed P (fun u v a b c => (W.need_iff a).mp (hg u v ((hm u v).mpr ⟨a, b, c⟩))) hp h1 nd.1 nd.2
  refine ⟨h.valid.snoc (by rw [← h.row_eq]; exact ok), by rw [rowAfter_snoc, ← h.row_eq], _, (it row p, it row (p + 1)) :: done, P.swap hp, ?_, ?_, ?_, ?_⟩
  · refine List.nodup_cons.mpr ⟨fun hmem => ?_, hd⟩
    have := (hm _ _).mp hmem
    rw [P.pa p (by omega), P.pa (p + 1) hp] at this
    omega
  · rw [List.length_cons, List.length_append, hl]; rfl
  · intro u v
    rw [List.mem_cons, hm]
    have pu := P.pa p (by omega)
    have pv := P.pa (p + 1) hp
    have unq : ∀ z i, z < n → pos z = i → z = it row i := fun z i hz e => by rw [← e]; exact (P.ap z hz).symm
    have pc : ∀ z, z < n → (z = it row p ∧ pos z = p ∧ (if z = it row p then p + 1 else if z = it row (p + 1) then p else pos z) = p + 1) ∨ (z = it row (p + 1) ∧ pos z = p + 1 ∧ (if z = it row p then p + 1 else if z = it row (p + 1) then p else pos z) = p) ∨
        (z ≠ it row p ∧ z ≠ it row (p + 1) ∧ (if z = it row p then p + 1 else if z = it row (p + 1) then p else pos z) = pos z ∧ pos z ≠ p ∧ pos z ≠ p + 1) := fun z hz => by
      by_cases e1 : z = it row p
      · exact .inl ⟨e1, by rw [e1]; exact pu, by rw [if_pos e1]⟩
      · by_cases e2 : z = it row (p + 1)
        · exact .inr (.inl ⟨e2, by rw [e2]; exact pv, by rw [if_neg e1, if_pos e2]⟩)
        · exact .inr (.inr ⟨e1, e2, by rw [if_neg e1, if_neg e2], fun e => e1 (unq z p hz e), fun e => e2 (unq z (p + 1) hz e)⟩)
    constructor
    · rintro (e | ⟨a, b, c⟩)
      · injection e with e1 e2
        subst e1 e2
        refine ⟨h1, h2, ?_⟩
        rcases pc (it row p) (by omega) with z | z | z <;> rcases pc (it row (p + 1)) h2 with y | y | y <;> omega
      · refine ⟨a, b, ?_⟩
        rcases pc u (by omega) with z | z | z <;> rcases pc v b with y | y | y <;> omega
    · rintro ⟨a, b, c⟩
      change (if v = it row p then p + 1 else if v = it row (p + 1) then p else pos v) < (if u = it row p then p + 1 else if u = it row (p + 1) then p else pos u) at c
      by_cases e : (u, v) = (it row p, it row (p + 1))
      · exact .inl e
      · refine .inr ⟨a, b, ?_⟩
        rcases pc u (by omega) with z | z | z <;> rcases pc v b with y | y | y <;> first | omega | exact absurd (by rw [z.1, y.1]) e
  · intro u v hmem
    rcases List.mem_cons.mp hmem with e | e
    · injection e with e1 e2
      subst e1 e2
      exact h3
    · exact hg u v e

/-- no needed pair beside each other: all stand at their goals -/
theorem Going.sorted (W : Ways n rk x q w σ) {row fnd : List Nat} (h : Going n rk (goal x q w σ) row fnd) (hno : ∀ p, p + 1 < n → (it row p, it row (p + 1)) ∉ invList (goal x q w σ) n) : ∀ i, i < n → goal x q w σ (it row i) = i := by
  obtain ⟨pos, done, P, hd, hl, hm, hg⟩ := h.ex
  have ginj : ∀ u v, u < n → v < n → goal x q w σ u = goal x q w σ v → u = v := fun u v hu hv e => by
    have h1 := W.arr_goal hu
    rw [e, W.arr_goal hv] at h1
    exact (Option.some.inj h1).symm
  have asc : ∀ p, p + 1 < n → goal x q w σ (it row p) < goal x q w σ (it row (p + 1)) := fun p hp => by
    have hu := P.lt p (by omega)
    have hv := P.lt (p + 1) hp
    have pu := P.pa p (by omega)
    have pv := P.pa (p + 1) hp
    have ne : it row p ≠ it row (p + 1) := fun e => by rw [e] at pu; omega
    refine Nat.lt_of_not_le fun hle => ?_
    have ne2 : goal x q w σ (it row (p + 1)) ≠ goal x q w σ (it row p) := fun e => ne (ginj _ _ hv hu e).symm
    by_cases l : it row p < it row (p + 1)
    · exact hno p hp (invList_mem.mpr ⟨l, hv, by omega⟩)
    · have := hg (it row (p + 1)) (it row p) ((hm _ _).mpr ⟨by omega, hu, by omega⟩)
      omega
  have up : ∀ i, i < n → i ≤ goal x q w σ (it row i) := by
    intro i
    induction i with
    | zero => intro _; exact Nat.zero_le _
    | succ i ih =>
      intro hi
      have := ih (by omega)
      have := asc i hi
      omega
  have down : ∀ k i, i + k + 1 = n → goal x q w σ (it row i) ≤ i := by
    intro k
    induction k with
    | zero => intro i hi; have := W.goal_lt (P.lt i (by omega)); omega
    | succ k ih =>
      intro i hi
      have := ih (i + 1) (by omega)
      have := asc i (by omega)
      omega
  exact fun i hi => Nat.le_antisymm (down (n - 1 - i) i (by omega)) (up i hi)
theorem Going.done (W : Ways n rk x q w σ) {row fnd : List Nat} (h : Going n rk (goal x q w σ) row fnd) (hall : (invList (goal x q w σ) n).length ≤ fnd.length) : ∀ p, p + 1 < n → (it row p, it row (p + 1)) ∉ invList (goal x q w σ) n := by
  obtain ⟨pos, done, P, hd, hl, hm, hg⟩ := h.ex
  intro p hp hmem
  have := nodup_all hd (m := invList (goal x q w σ) n) (fun a ha => by
    obtain ⟨u, v⟩ := a
    have := (hm u v).mp ha
    exact invList_mem.mpr ⟨this.1, this.2.1, hg u v ha⟩) (by omega) _ hmem
  have := (hm _ _).mp this
  rw [P.pa p (by omega), P.pa (p + 1) hp] at this
  omega
theorem Going.more (W : Ways n rk x q w σ) {row fnd : List Nat} (h : Going n rk (goal x q w σ) row fnd) (hlt : fnd.length < (invList (goal x q w σ) n).length) (hno : ∀ p, p + 1 < n → (it row p, it row (p + 1)) ∉ invList (goal x q w σ) n) : False := by
  have s := h.sorted W hno
  obtain ⟨pos, done, P, hd, hl, hm, hg⟩ := h.ex
  have := nodup_len (l := invList (goal x q w σ) n) (m := done) invList_nodup fun a ha => by
    obtain ⟨u, v⟩ := a
    obtain ⟨h1, h2, h3⟩ := invList_mem.mp ha
    refine (hm u v).mpr ⟨h1, h2, ?_⟩
    have e1 := s (pos u) (P.plt u (by omega))
    have e2 := s (pos v) (P.plt v h2)
    rw [P.ap u (by omega)] at e1
    rw [P.ap v h2] at e2
    omega
  omega
/-- the person holds the item -/
theorem Going.brings (W : Ways n rk x q w σ) {row fnd : List Nat} (h : Going n rk (goal x q w σ) row fnd) (hall : (invList (goal x q w σ) n).length ≤ fnd.length) : Valid n rk fnd ∧ row = rowAfter n fnd ∧ it row q = x := by
  have s := h.sorted W (h.done W hall)
  obtain ⟨pos, done, P, hd, hl, hm, hg⟩ := h.ex
  refine ⟨h.valid, h.row_eq, ?_⟩
  have hq : q < n := by have := W.qw; have := W.wn; omega
  have hx : x < n := by have := W.xq; omega
  have gx : goal x q w σ x = q := by
    unfold goal
    rw [if_neg (by have := W.xq; have := W.qw; omega), if_pos rfl]
  have e := s (pos x) (P.plt x hx)
  rw [P.ap x hx, gx] at e
  rw [e]
  exact P.ap x hx
end
end Sw

/-! Implications: what is found from a choice, walks, ways chosen. -/
namespace Sw

section
variable (n : Nat) (rk : Nat → Nat → Nat) (x q w : Nat)
def imp (c d : Ch) : Bool := clash n rk x q w c (opp d)
def rng (x w : Nat) (c : Ch) : Prop := x < c.1 ∧ c.1 < w
structure IsWalk (p : List Ch) : Prop where
  len : 3 ≤ p.length
  rng : ∀ c, c ∈ p → rng x w c
  ends : ∃ c, p[0]? = some c ∧ p[p.length - 1]? = some c ∧ opp c ∈ p
  chain : ∀ (i : Nat) a b, p[i]? = some a → p[i + 1]? = some b → imp n rk x q w a b = true
inductive Path : Ch → Ch → List Ch → Prop
  | one (a : Ch) : rng x w a → Path a a [a]
  | cons {a b c : Ch} {l : List Ch} : rng x w a → imp n rk x q w a b = true → Path b c l → Path a c (a :: l)
end

section
variable {n : Nat} {rk : Nat → Nat → Nat} {x q w : Nat}

theorem rng_opp {c : Ch} (h : rng x w c) : rng x w (opp c) := h
theorem imp_skew {c d : Ch} : imp n rk x q w c d = imp n rk x q w (opp d) (opp c) := by
  unfold imp
  rw [opp_opp, clash_comm]

theorem Path.head {a b : Ch} {l : List Ch} (h : Path n rk x q w a b l) : ∃ r, l = a :: r := by
  cases h with
  | one => exact ⟨[], rfl⟩
  | cons => exact ⟨_, rfl⟩
theorem Path.all {a b : Ch} {l : List Ch} (h : Path n rk x q w a b l) : ∀ c, c ∈ l → rng x w c := by
  induction h with
  | one a h => intro c hc; rw [List.mem_singleton.mp hc]; exact h
  | cons h _ _ ih =>
    intro c hc
    rcases List.mem_cons.mp hc with e | e
    · rw [e]; exact h
    · exact ih c e
theorem Path.last {a b : Ch} {l : List Ch} (h : Path n rk x q w a b l) : l[l.length - 1]? = some b := by
  induction h with
  | one => rfl
  | cons _ _ p ih =>
    obtain ⟨r, rfl⟩ := p.head
    rw [List.length_cons, Nat.add_sub_cancel, List.length_cons, List.getElem?_cons_succ]
    exact ih
theorem Path.mem {a b : Ch} {l : List Ch} (h : Path n rk x q w a b l) : b ∈ l := List.mem_of_getElem? h.last
theorem Path.chain {a b : Ch} {l : List Ch} (h : Path n rk x q w a b l) : ∀ (i : Nat) u v, l[i]? = some u → l[i + 1]? = some v → imp n rk x q w u v = true := by
  induction h with
  | one => intro i u v h1 h2; simp at h2
  | cons _ hi p ih =>
    intro i u v h1 h2
    obtain ⟨r, rfl⟩ := p.head
    cases i with
    | zero =>
      have e1 := Option.some.inj h1
      have e2 := Option.some.inj h2
      rw [← e1, ← e2]; exact hi
    | succ i => exact ih i u v h1 h2
theorem Path.append {a b c : Ch} {l m : List Ch} (h : Path n rk x q w a b l) (k : Path n rk x q w b c m) : Path n rk x q w a c (l ++ m.tail) := by
  induction h with
  | one a _ =>
    obtain ⟨r, rfl⟩ := k.head
    exact k
  | cons h1 h2 _ ih => exact .cons h1 h2 (ih k)
theorem Path.two {a b : Ch} {l : List Ch} (h : Path n rk x q w a b l) (ne : a ≠ b) : 2 ≤ l.length := by
  cases h with
  | one => exact absurd rfl ne
  | cons _ _ p =>
    obtain ⟨r, rfl⟩ := p.head
    simp
/-- there and back -/
theorem walk_of {c : Ch} {l m : List Ch} (h : Path n rk x q w c (opp c) l) (k : Path n rk x q w (opp c) c m) : IsWalk n rk x q w (l ++ m.tail) := by
  have p := h.append k
  have h2 := h.two (opp_ne c).symm
  have k2 := k.two (opp_ne c)
  obtain ⟨r, hr⟩ := p.head
  refine ⟨?_, p.all, ⟨c, ?_, p.last, List.mem_append_left _ h.mem⟩, p.chain⟩
  · rw [List.length_append, List.length_tail]; omega
  · rw [hr]; rfl

/-- a walk forbids ways without a conflict -/
theorem IsWalk.no {p : List Ch} (W : IsWalk n rk x q w p) {σ : Nat → Bool} (h : ∀ y z, x < y → y < w → x < z → z < w → clash n rk x q w (y, σ y) (z, σ z) = false) : False := by
  have step : ∀ c d : Ch, Sw.rng x w c → Sw.rng x w d → imp n rk x q w c d = true → σ c.1 = c.2 → σ d.1 = d.2 := fun c d hc hd hi e => by
    refine Classical.byContradiction fun ne => ?_
    have e2 : σ d.1 = !d.2 := by cases h1 : σ d.1 <;> cases h2 : d.2 <;> simp_all
    have := h c.1 d.1 hc.1 hc.2 hd.1 hd.2
    rw [e, e2] at this
    unfold imp at hi
    have e3 : (c.1, c.2) = c := rfl
    have e4 : (d.1, !d.2) = opp d := rfl
    rw [e3, e4, hi] at this
    cases this
  have go : ∀ (k i : Nat) (a b : Ch), p[i]? = some a → p[i + k]? = some b → σ a.1 = a.2 → σ b.1 = b.2 := by
    intro k
    induction k with
    | zero =>
      intro i a b h1 h2 e
      rw [Nat.add_zero, h1] at h2
      rw [← Option.some.inj h2]; exact e
    | succ k ih =>
      intro i a b h1 h2 e
      have hlt := (List.getElem?_eq_some_iff.mp h2).1
      have h3 : p[i + k]? = some p[i + k] := List.getElem?_eq_getElem (by omega)
      exact step _ _ (W.rng _ (List.mem_of_getElem? h3)) (W.rng _ (List.mem_of_getElem? h2)) (W.chain (i + k) _ _ h3 h2) (ih i a _ h1 h3 e)
  obtain ⟨c, h0, hl, hm⟩ := W.ends
  obtain ⟨j, hj⟩ := List.getElem?_of_mem hm
  have hjl := (List.getElem?_eq_some_iff.mp hj).1
  by_cases e : σ c.1 = c.2
  · have := go j 0 c (opp c) h0 (by rw [Nat.zero_add]; exact hj) e
    have e2 : σ c.1 = !c.2 := this
    rw [e] at e2
    cases h2 : c.2 <;> rw [h2] at e2 <;> cases e2
  · have e2 : σ (opp c).1 = (opp c).2 := by
      show σ c.1 = !c.2
      cases h1 : σ c.1 <;> cases h2 : c.2 <;> simp_all
    exact e (go (p.length - 1 - j) j (opp c) c hj (by rw [show j + (p.length - 1 - j) = p.length - 1 by omega]; exact hl) e2)

/-! ### what is found from a choice -/
/-- found so far, each with the choice from which it was found -/
structure Part (n : Nat) (rk : Nat → Nat → Nat) (x q w : Nat) (root : Ch) (F : List (Ch × Option Ch)) : Prop where
  nodup : (F.map (·.1)).Nodup
  head : F[0]? = some (root, none)
  rroot : rng x w root
  par : ∀ (i : Nat) c o, F[i]? = some (c, o) → i = 0 ∨ ∃ p j, o = some p ∧ j < i ∧ (∃ o', F[j]? = some (p, o')) ∧ imp n rk x q w p c = true ∧ rng x w c
abbrev keys (F : List (Ch × Option Ch)) : List Ch := F.map (·.1)
def Closed (n : Nat) (rk : Nat → Nat → Nat) (x q w : Nat) (F : List (Ch × Option Ch)) : Prop := ∀ c, c ∈ keys F → ∀ d, rng x w d → imp n rk x q w c d = true → d ∈ keys F

theorem Part.start {root : Ch} (h : rng x w root) : Part n rk x q w root [(root, none)] where
  nodup := (by simp)
  head := rfl
  rroot := h
  par := fun i c o h => by
    cases i with
    | zero => exact .inl rfl
    | succ i => simp at h
theorem Part.add {root c d : Ch} {F : List (Ch × Option Ch)} (P : Part n rk x q w root F) (hc : c ∈ keys F) (hd : d ∉ keys F) (hr : rng x w d) (hi : imp n rk x q w c d = true) : Part n rk x q w root (F ++ [(d, some c)]) where
  nodup := by
    rw [List.map_append, List.nodup_append]
    refine ⟨P.nodup, (by simp), fun a ha b hb => ?_⟩
    rw [List.mem_singleton.mp hb]
    intro e
    rw [e] at ha
    exact hd ha
  head := by
    have := (List.getElem?_eq_some_iff.mp P.head).1
    rw [List.getElem?_append_left this]; exact P.head
  rroot := P.rroot
  par := fun i e o h => by
    by_cases l : i < F.length
    · rw [List.getElem?_append_left l] at h
      rcases P.par i e o h with z | ⟨p, j, h1, h2, ⟨o', h3⟩, h4⟩
      · exact .inl z
      · exact .inr ⟨p, j, h1, h2, ⟨o', by rw [List.getElem?_append_left (by omega)]; exact h3⟩, h4⟩
    · rw [List.getElem?_append_right (by omega)] at h
      have hl := (List.getElem?_eq_some_iff.mp h).1
      rw [List.length_singleton] at hl
      rw [show i - F.length = 0 by omega] at h
      have h := Option.some.inj h
      injection h with e1 e2
      subst e1 e2
      obtain ⟨⟨c', o'⟩, hm, e⟩ := List.mem_map.mp hc
      have e : c' = c := e
      subst e
      obtain ⟨j, hj⟩ := List.getElem?_of_mem hm
      have hjl := (List.getElem?_eq_some_iff.mp hj).1
      exact .inr ⟨c', j, rfl, by omega, ⟨o', by rw [List.getElem?_append_left hjl]; exact hj⟩, hi, hr⟩
theorem Part.rng {root c : Ch} {F : List (Ch × Option Ch)} (P : Part n rk x q w root F) (h : c ∈ keys F) : rng x w c := by
  obtain ⟨⟨c', o⟩, hm, e⟩ := List.mem_map.mp h
  have e : c' = c := e
  subst e
  obtain ⟨i, hi⟩ := List.getElem?_of_mem hm
  rcases P.par i c' o hi with z | ⟨p, j, _, _, _, _, hr⟩
  · subst z
    rw [P.head] at hi
    have := Option.some.inj hi
    injection this with e1 _
    rw [← e1]; exact P.rroot
  · exact hr
/-- all choices -/
def allCh (x w : Nat) : List Ch := (List.range (w - (x + 1))).flatMap fun i => [(x + 1 + i, true), (x + 1 + i, false)]
theorem allCh_mem {c : Ch} : c ∈ allCh x w ↔ Sw.rng x w c := by
  obtain ⟨y, b⟩ := c
  unfold allCh
  rw [List.mem_flatMap]
  constructor
  · rintro ⟨i, hi, h⟩
    have hi := List.mem_range.mp hi
    have : y = x + 1 + i := by
      rcases List.mem_cons.mp h with e | e
      · injection e
      · have := List.mem_singleton.mp e
        injection this
    exact ⟨by show x < y; omega, by show y < w; omega⟩
  · rintro ⟨h1, h2⟩
    have h1 : x < y := h1
    have h2 : y < w := h2
    refine ⟨y - (x + 1), List.mem_range.mpr (by omega), ?_⟩
    rw [show x + 1 + (y - (x + 1)) = y by omega]
    cases b
    · exact List.mem_cons_of_mem _ List.mem_cons_self
    · exact List.mem_cons_self
theorem allCh_len : (allCh x w).length = 2 * (w - (x + 1)) := by
  have : ∀ m, ((List.range m).flatMap fun i => [((x + 1 + i : Nat), true), (x + 1 + i, false)]).length = 2 * m := by
    intro m
    induction m with
    | zero => rfl
    | succ m ih =>
      rw [List.range_succ, List.flatMap_append, List.length_append, ih]
      simp; omega
  exact this _
theorem allCh_nodup : (allCh x w).Nodup := by
  unfold allCh
  show List.Pairwise (· ≠ ·) _
  rw [List.flatMap_def, List.pairwise_flatten]
  constructor
  · intro l hl
    obtain ⟨a, _, rfl⟩ := List.mem_map.mp hl
    simp
  · rw [List.pairwise_map]
    refine List.Pairwise.imp ?_ (List.nodup_range (n := w - (x + 1)))
    intro a b ne p hp r hr e
    have h1 : p.1 = x + 1 + a := by
      rcases List.mem_cons.mp hp with e | e
      · rw [e]
      · rw [List.mem_singleton.mp e]
    have h2 : r.1 = x + 1 + b := by
      rcases List.mem_cons.mp hr with e | e
      · rw [e]
      · rw [List.mem_singleton.mp e]
    rw [e, h2] at h1
    exact ne (by omega)
theorem Part.len_le {root : Ch} {F : List (Ch × Option Ch)} (P : Part n rk x q w root F) : F.length ≤ 2 * (w - (x + 1)) := by
  rw [← allCh_len, ← List.length_map (f := fun p : Ch × Option Ch => p.1)]
  exact nodup_len P.nodup fun c hc => allCh_mem.mpr (P.rng hc)

/-- a contradiction reaches the root's own opposite -/
theorem Part.root_opp {root : Ch} {F : List (Ch × Option Ch)} (P : Part n rk x q w root F) (C : Closed n rk x q w F) {c : Ch} (h1 : c ∈ keys F) (h2 : opp c ∈ keys F) : opp root ∈ keys F := by
  have go : ∀ (i : Nat) (d : Ch) (o : Option Ch), F[i]? = some (d, o) → opp d ∈ keys F → opp root ∈ keys F := by
    intro i
    induction i using Nat.strongRecOn with
    | ind i ih =>
      intro d o hi hd
      rcases P.par i d o hi with z | ⟨p, j, _, hj, ⟨o', hp⟩, hm, hr⟩
      · subst z
        rw [P.head] at hi
        have := Option.some.inj hi
        injection this with e1 _
        rw [e1]; exact hd
      · refine ih j hj p o' hp (C _ hd _ ?_ ?_)
        · have : p ∈ keys F := List.mem_map.mpr ⟨(p, o'), List.mem_of_getElem? hp, rfl⟩
          exact rng_opp (P.rng this)
        · rw [imp_skew, opp_opp, opp_opp]; exact hm
  obtain ⟨⟨c', o⟩, hm, e⟩ := List.mem_map.mp h1
  have e : c' = c := e
  subst e
  obtain ⟨i, hi⟩ := List.getElem?_of_mem hm
  exact go i c' o hi h2

/-- what is chosen already does not contradict what is found -/
theorem Part.agrees {root : Ch} {F : List (Ch × Option Ch)} (P : Part n rk x q w root F) {C : Nat → Option Bool} (hcl : ∀ z b, C z = some b → ∀ d, Sw.rng x w d → imp n rk x q w (z, b) d = true → C d.1 = some d.2)
    (hr : C root.1 = none) : ∀ c, c ∈ keys F → C c.1 ≠ some (!c.2) := by
  have go : ∀ (i : Nat) (d : Ch) (o : Option Ch), F[i]? = some (d, o) → C d.1 ≠ some (!d.2) := by
    intro i
    induction i using Nat.strongRecOn with
    | ind i ih =>
      intro d o hi hd
      rcases P.par i d o hi with z | ⟨p, j, _, hj, ⟨o', hp⟩, hm, hrg⟩
      · subst z
        rw [P.head] at hi
        have := Option.some.inj hi
        injection this with e1 _
        rw [← e1, hr] at hd
        cases hd
      · have hpk : p ∈ keys F := List.mem_map.mpr ⟨(p, o'), List.mem_of_getElem? hp, rfl⟩
        have := hcl d.1 (!d.2) hd (opp p) (rng_opp (P.rng hpk)) (by
          show imp n rk x q w (opp d) (opp p) = true
          rw [imp_skew, opp_opp, opp_opp]; exact hm)
        exact ih j hj p o' hp this
  intro c hc
  obtain ⟨⟨c', o⟩, hm, e⟩ := List.mem_map.mp hc
  have e : c' = c := e
  subst e
  obtain ⟨i, hi⟩ := List.getElem?_of_mem hm
  exact go i c' o hi

/-- chosen so far: all items below y, nothing implied is left out -/
structure Chosen (n : Nat) (rk : Nat → Nat → Nat) (x q w : Nat) (C : Nat → Option Bool) (y : Nat) : Prop where
  rng : ∀ z b, C z = some b → x < z ∧ z < w
  below : ∀ z, x < z → z < y → ∃ b, C z = some b
  closed : ∀ z b, C z = some b → ∀ d, Sw.rng x w d → imp n rk x q w (z, b) d = true → C d.1 = some d.2
theorem Chosen.start : Chosen n rk x q w (fun _ => none) (x + 1) := ⟨fun _ _ h => (by cases h), fun z h1 h2 => by omega, fun _ _ h => (by cases h)⟩
theorem Chosen.skip {C : Nat → Option Bool} {y : Nat} {b : Bool} (h : Chosen n rk x q w C y) (hy : C y = some b) : Chosen n rk x q w C (y + 1) :=
  ⟨h.rng, fun z h1 h2 => by
    by_cases e : z = y
    · subst e; exact ⟨b, hy⟩
    · exact h.below z h1 (by omega), h.closed⟩
theorem Chosen.add {C C' : Nat → Option Bool} {y : Nat} {b : Bool} {F : List (Ch × Option Ch)} (h : Chosen n rk x q w C y) (hy : C y = none) (P : Part n rk x q w (y, b) F) (cl : Closed n rk x q w F)
    (h1 : ∀ c, c ∈ keys F → C' c.1 = some c.2) (h2 : ∀ z, (∀ b, (z, b) ∉ keys F) → C' z = C z) : Chosen n rk x q w C' (y + 1) := by
  have ag := P.agrees h.closed hy
  have old : ∀ z b, C z = some b → C' z = some b := fun z b hz => by
    by_cases e : ∃ b', (z, b') ∈ keys F
    · obtain ⟨b', hb⟩ := e
      have a1 := h1 _ hb
      have a2 := ag _ hb
      have a1 : C' z = some b' := a1
      have a2 : C z ≠ some (!b') := a2
      rw [hz] at a2
      rw [a1]
      cases b <;> cases b' <;> simp_all
    · rw [h2 z fun b hb => e ⟨b, hb⟩]; exact hz
  have new : ∀ z b, C' z = some b → (z, b) ∈ keys F ∨ C z = some b := fun z b hz => by
    by_cases e : ∃ b', (z, b') ∈ keys F
    · obtain ⟨b', hb⟩ := e
      have a1 : C' z = some b' := h1 _ hb
      rw [hz] at a1
      rw [Option.some.inj a1]
      exact .inl hb
    · rw [h2 z fun b hb => e ⟨b, hb⟩] at hz; exact .inr hz
  have root : (y, b) ∈ keys F := List.mem_map.mpr ⟨_, List.mem_of_getElem? P.head, rfl⟩
  refine ⟨fun z b hz => ?_, fun z a1 a2 => ?_, fun z b hz d hd hi => ?_⟩
  · rcases new z b hz with e | e
    · exact P.rng e
    · exact h.rng z b e
  · by_cases e : z = y
    · subst e; exact ⟨_, h1 _ root⟩
    · obtain ⟨b', hb⟩ := h.below z a1 (by omega)
      exact ⟨b', old z b' hb⟩
  · rcases new z b hz with e | e
    · exact h1 _ (cl _ e d hd hi)
    · exact old _ _ (h.closed z b e d hd hi)
theorem Chosen.free {C : Nat → Option Bool} {σ : Nat → Bool} (h : Chosen n rk x q w C w) (hσ : ∀ z, x < z → z < w → C z = some (σ z)) : ∀ y z, x < y → y < w → x < z → z < w → clash n rk x q w (y, σ y) (z, σ z) = false := fun y z h1 h2 h3 h4 => by
  cases e : clash n rk x q w (y, σ y) (z, σ z) with
  | false => rfl
  | true =>
    have := h.closed y (σ y) (hσ y h1 h2) (opp (z, σ z)) ⟨h3, h4⟩ (by unfold imp; rw [opp_opp]; exact e)
    have e2 : C z = some (!σ z) := this
    rw [hσ z h3 h4] at e2
    have e3 := Option.some.inj e2
    cases h5 : σ z <;> rw [h5] at e3 <;> cases e3
end
end Sw

/-! The tour that lays the lists: each item moves one way alone. -/
namespace Sw
structure WInv (n : Nat) (row : List Nat) (held : Nat → List Nat) (mv : Nat → Int) : Prop where
  len : row.length = n
  nd : row.Nodup
  lt : ∀ y ∈ row, y < n
  hnd : ∀ w, w < n → (held w).Nodup
  h : ∀ w, w < n → ∀ y ∈ held w, ∃ p, row[p]? = some y ∧ (mv y ≠ -1 → w ≤ p) ∧ (mv y ≠ 1 → p ≤ w)
theorem WInv.start (n : Nat) : WInv n (List.range n) (fun w => [w]) (fun _ => 0) := by
  refine ⟨List.length_range, List.nodup_range, fun y h => List.mem_range.mp h, fun w _ => by simp, fun w hw y hy => ?_⟩
  simp only [List.mem_singleton] at hy
  subst hy
  exact ⟨y, by rw [List.getElem?_range hw], fun _ => Nat.le_refl _, fun _ => Nat.le_refl _⟩
theorem nd_at {l : List Nat} (h : l.Nodup) {p q y : Nat} (hp : l[p]? = some y) (hq : l[q]? = some y) : p = q := by
  obtain ⟨a, e1⟩ := List.getElem?_eq_some_iff.mp hp
  obtain ⟨b, e2⟩ := List.getElem?_eq_some_iff.mp hq
  rcases Nat.lt_trichotomy p q with e | e | e
  · exact absurd (e1.trans e2.symm) (List.pairwise_iff_getElem.mp h p q a b e)
  · exact e
  · exact absurd (e2.trans e1.symm) (List.pairwise_iff_getElem.mp h q p b a e)
def stepRow (row : List Nat) (at' thing far : Nat) : List Nat := (row.set at' far).set (at' + 1) thing
theorem stepRow_perm {row : List Nat} {a t f : Nat} (ht : row[a]? = some t) (hf : row[a + 1]? = some f) : (stepRow row a t f).Perm row := by
  induction row generalizing a with
  | nil => simp at ht
  | cons x l ih =>
    cases a with
    | zero =>
      cases l with
      | nil => simp at hf
      | cons z m =>
        simp only [List.getElem?_cons_zero, Option.some.injEq] at ht
        simp only [List.getElem?_cons_succ, List.getElem?_cons_zero, Option.some.injEq] at hf
        subst ht hf
        exact List.Perm.swap _ _ _
    | succ a =>
      exact (ih (a := a) (by simpa using ht) (by simpa using hf)).cons x
theorem WInv.step {n : Nat} {row : List Nat} {held : Nat → List Nat} {mv : Nat → Int} (I : WInv n row held mv) {a t f : Nat} (ht : row[a]? = some t) (hf : row[a + 1]? = some f) (mt : mv t ≠ -1) (mf : mv f ≠ 1) :
    WInv n (stepRow row a t f) (fun w => if w = a then held a ++ [f] else if w = a + 1 then held (a + 1) ++ [t] else held w) (fun y => if y = f then -1 else if y = t then 1 else mv y) := by
  have ha : a + 1 < n := by have := (List.getElem?_eq_some_iff.mp hf).1; rw [I.len] at this; exact this
  have ntf : t ≠ f := fun e => by subst e; have := nd_at I.nd ht hf; omega
  have P := stepRow_perm ht hf
  have la : a < row.length := by rw [I.len]; omega
  have la1 : a + 1 < row.length := by rw [I.len]; omega
  have r0 : (stepRow row a t f)[a]? = some f := by
    unfold stepRow
    rw [List.getElem?_set_ne (by omega), List.getElem?_set_self la]
  have r1 : (stepRow row a t f)[a + 1]? = some t := by
    unfold stepRow
    rw [List.getElem?_set_self (by rw [List.length_set]; exact la1)]
  have rr : ∀ p, p ≠ a → p ≠ a + 1 → (stepRow row a t f)[p]? = row[p]? := fun p h1 h2 => by
    unfold stepRow
    rw [List.getElem?_set_ne (by omega), List.getElem?_set_ne (by omega)]
  refine ⟨by rw [P.length_eq]; exact I.len, P.nodup_iff.mpr I.nd, fun y h => I.lt y (P.mem_iff.mp h), fun w hw => ?_, fun w hw y hy => ?_⟩
  · show (if w = a then held a ++ [f] else if w = a + 1 then held (a + 1) ++ [t] else held w).Nodup
    by_cases h1 : w = a
    · rw [if_pos h1]
      refine List.nodup_append.mpr ⟨I.hnd a (by omega), by simp, fun x hx z hz e => ?_⟩
      simp only [List.mem_singleton] at hz
      subst e hz
      obtain ⟨p, hp, _, h3⟩ := I.h a (by omega) x hx
      have := nd_at I.nd hp hf
      have := h3 mf
      omega
    · rw [if_neg h1]
      by_cases h2 : w = a + 1
      · rw [if_pos h2]
        refine List.nodup_append.mpr ⟨I.hnd (a + 1) ha, by simp, fun x hx z hz e => ?_⟩
        simp only [List.mem_singleton] at hz
        subst e hz
        obtain ⟨p, hp, h3, _⟩ := I.h (a + 1) ha x hx
        have := nd_at I.nd hp ht
        have := h3 mt
        omega
      · rw [if_neg h2]; exact I.hnd w hw
  · have key : (y ∈ held w) ∨ (w = a ∧ y = f) ∨ (w = a + 1 ∧ y = t) := by
      have hy' : y ∈ (if w = a then held a ++ [f] else if w = a + 1 then held (a + 1) ++ [t] else held w) := hy
      by_cases h1 : w = a
      · rw [if_pos h1] at hy'
        rcases List.mem_append.mp hy' with h | h
        · exact .inl (by rw [h1]; exact h)
        · exact .inr (.inl ⟨h1, by simpa using h⟩)
      · rw [if_neg h1] at hy'
        by_cases h2 : w = a + 1
        · rw [if_pos h2] at hy'
          rcases List.mem_append.mp hy' with h | h
          · exact .inl (by rw [h2]; exact h)
          · exact .inr (.inr ⟨h2, by simpa using h⟩)
        · rw [if_neg h2] at hy'; exact .inl hy'
    show ∃ p, (stepRow row a t f)[p]? = some y ∧ ((if y = f then (-1 : Int) else if y = t then 1 else mv y) ≠ -1 → w ≤ p) ∧ ((if y = f then (-1 : Int) else if y = t then 1 else mv y) ≠ 1 → p ≤ w)
    by_cases e1 : y = f
    · refine ⟨a, by rw [e1]; exact r0, fun h => absurd (if_pos e1) h, fun _ => ?_⟩
      rcases key with k | ⟨k, _⟩ | ⟨k, _⟩
      · obtain ⟨p, hp, _, h3⟩ := I.h w hw y k
        rw [e1] at hp h3
        have := nd_at I.nd hp hf
        have := h3 mf
        omega
      · omega
      · omega
    · by_cases e2 : y = t
      · refine ⟨a + 1, by rw [e2]; exact r1, fun _ => ?_, fun h => absurd (by rw [if_neg e1, if_pos e2]) h⟩
        rcases key with k | ⟨k, _⟩ | ⟨k, _⟩
        · obtain ⟨p, hp, h3, _⟩ := I.h w hw y k
          rw [e2] at hp h3
          have := nd_at I.nd hp ht
          have := h3 mt
          omega
        · omega
        · omega
      · rw [if_neg e1, if_neg e2]
        rcases key with k | ⟨_, k⟩ | ⟨_, k⟩
        · obtain ⟨p, hp, h3, h4⟩ := I.h w hw y k
          refine ⟨p, ?_, h3, h4⟩
          rw [rr p (fun e => ?_) (fun e => ?_)]; exact hp
          · rw [e, ht] at hp; exact e2 (Option.some.inj hp).symm
          · rw [e, hf] at hp; exact e1 (Option.some.inj hp).symm
        · exact absurd k e1
        · exact absurd k e2
theorem WInv.row {n : Nat} {row : List Nat} {held : Nat → List Nat} {mv : Nat → Int} (I : WInv n row held mv) {w : Nat} (hw : w < n) : (held w).Nodup ∧ ∀ y ∈ held w, y < n := ⟨I.hnd w hw, fun y hy => by
  obtain ⟨p, hp, _⟩ := I.h w hw y hy
  exact I.lt y (List.mem_of_getElem? hp)⟩
end Sw

/-! What is known while a def runs: a base of objects that stand, and the heap; what an expression gives. -/
namespace Sk
open PySem PySem.Spec PyProof.Rows L2

/-- every tracked object stands -/
def Ex (H H' : Hp) : Prop := ∀ b o, H b = some o → H' b = some o
theorem Ex.refl (H : Hp) : Ex H H := fun _ _ h => h
theorem Ex.trans {H H1 H2 : Hp} (a : Ex H H1) (b : Ex H1 H2) : Ex H H2 := fun x o h => b x o (a x o h)
theorem Ex.new {H : Hp} {p : Addr} {o : HO} (h : H p = none) : Ex H (upd H p o) := fun a u e => by
  rw [upd_ne (ne_of_none e h)]; exact e
theorem Ex.none {H H' : Hp} {b : Addr} (e : Ex H H') (h : H' b = Option.none) : H b = Option.none := by
  cases q : H b with
  | none => rfl
  | some o => rw [e b o q] at h; cases h
theorem Ex.rd {H H' : Hp} {a : Addr} {u : HO} (e : Ex H H') (h : Rd H a u) : Rd H' a u := by
  rcases h with h | ⟨o, h⟩
  · exact .inl (e a _ h)
  · exact .inr ⟨o, e a _ h⟩
theorem Ex.l {K : PySem.W.Frag} {H H' : Hp} {a : Addr} {xs : List V} (e : Ex H H') (h : SqL K H a xs) : SqL K H' a xs := by
  rcases h with h | h
  · exact .inl (e.rd h)
  · exact .inr h
theorem Ex.t {K : PySem.W.Frag} {H H' : Hp} {a : Addr} {xs : List V} (e : Ex H H') (h : SqT K H a xs) : SqT K H' a xs := by
  rcases h with h | h
  · exact .inl (e.rd h)
  · exact .inr h
theorem sl_of {K : PySem.W.Frag} {H : Hp} {a : Addr} {xs : List V} (h : H a = some (.lst xs)) : SqL K H a xs := .inl (.inl h)
theorem st_of {K : PySem.W.Frag} {H : Hp} {a : Addr} {xs : List V} (h : H a = some (.tup xs)) : SqT K H a xs := .inl (.inl h)

/-- from the base Hc of the heap H to the base Hc1 of the heap H1: what stands stands, what was hidden is hidden; only what F names may change -/
structure GoF (F : Addr → Prop) (Hc H Hc1 H1 : Hp) : Prop where
  up : Ex Hc Hc1
  sub : Ex Hc1 H1
  keep : ∀ b o, ¬ F b → H b = some o → H1 b = some o
  off : ∀ b, Hc b = none → H b ≠ none → Hc1 b = none
  there : ∀ b, H1 b = none → H b = none
abbrev nF : Addr → Prop := fun _ => False
abbrev Go := GoF nF
theorem GoF.ex {Hc H Hc1 H1 : Hp} (g : Go Hc H Hc1 H1) : Ex H H1 := fun b o h => g.keep b o (fun z => z) h
theorem GoF.refl {F : Addr → Prop} {Hc H : Hp} (e : Ex Hc H) : GoF F Hc H Hc H := ⟨Ex.refl _, e, fun _ _ _ h => h, fun _ h _ => h, fun _ h => h⟩
theorem GoF.f {F : Addr → Prop} {Hc H Hc1 H1 : Hp} (g : Go Hc H Hc1 H1) : GoF F Hc H Hc1 H1 := ⟨g.up, g.sub, fun b o _ h => g.ex b o h, g.off, g.there⟩
theorem GoF.trans {F : Addr → Prop} {Hc H Hc1 H1 Hc2 H2 : Hp} (a : GoF F Hc H Hc1 H1) (b : GoF F Hc1 H1 Hc2 H2) : GoF F Hc H Hc2 H2 :=
  ⟨a.up.trans b.up, b.sub, fun c o f h => b.keep c o f (a.keep c o f h), fun c h1 h2 => b.off c (a.off c h1 h2) fun e => h2 (a.there c e), fun c h => a.there c (b.there c h)⟩
/-- a new hidden object -/
theorem GoF.new {F : Addr → Prop} {Hc H Hc1 H1 : Hp} (g : GoF F Hc H Hc1 H1) {l : Addr} {o : HO} (h : H1 l = none) : GoF F Hc H Hc1 (upd H1 l o) :=
  ⟨g.up, g.sub.trans (Ex.new h), fun b u f e => Ex.new h b u (g.keep b u f e), g.off, fun b e => g.there b ((Ex.new h).none e)⟩
/-- a hidden object changes -/
theorem GoF.mut {F : Addr → Prop} {Hc H Hc1 H1 : Hp} (g : GoF F Hc H Hc1 H1) {l : Addr} {o : HO} (h0 : H l = none) (hc : Hc1 l = none) : GoF F Hc H Hc1 (upd H1 l o) :=
  ⟨g.up, fun b u e => by rw [upd_ne (ne_of_none e hc)]; exact g.sub b u e, fun b u f e => by rw [upd_ne (ne_of_none e h0)]; exact g.keep b u f e, g.off, fun b e => by
    by_cases eb : b = l
    · subst eb; exact h0
    · rw [upd_ne eb] at e; exact g.there b e⟩
/-- what F names changes -/
theorem GoF.chg {F : Addr → Prop} {Hc H Hc1 H1 : Hp} (g : GoF F Hc H Hc1 H1) {l : Addr} {o : HO} (f : F l) (hc : Hc1 l = none) : GoF F Hc H Hc1 (upd H1 l o) :=
  ⟨g.up, fun b u e => by rw [upd_ne (ne_of_none e hc)]; exact g.sub b u e, fun b u nf e => by
    by_cases eb : b = l
    · subst eb; exact absurd f nf
    · rw [upd_ne eb]; exact g.keep b u nf e, g.off, fun b e => by
    by_cases eb : b = l
    · subst eb; rw [upd_same] at e; cases e
    · rw [upd_ne eb] at e; exact g.there b e⟩
/-- a hidden object is shown: it will not change any more -/
theorem GoF.shown {F : Addr → Prop} {Hc H Hc1 H1 : Hp} (g : GoF F Hc H Hc1 H1) {l : Addr} {o : HO} (h : H1 l = some o) (h0 : H l = none) : GoF F Hc H (upd Hc1 l o) H1 := by
  refine ⟨fun b u e => ?_, fun b u e => ?_, g.keep, fun b h1 h2 => ?_, g.there⟩
  · by_cases eb : b = l
    · subst eb
      have := g.sub b u (g.up b u e)
      rw [h] at this
      rw [upd_same]; exact this
    · rw [upd_ne eb]; exact g.up b u e
  · by_cases eb : b = l
    · subst eb; rw [upd_same] at e; rw [h]; exact e
    · rw [upd_ne eb] at e; exact g.sub b u e
  · by_cases eb : b = l
    · subst eb; exact absurd h0 h2
    · rw [upd_ne eb]; exact g.off b h1 h2
theorem Ex.shown {Hc H1 : Hp} {l : Addr} {o : HO} (e : Ex Hc H1) (h : H1 l = some o) : Ex Hc (upd Hc l o) := fun b u q => by
  by_cases eb : b = l
  · subst eb
    rw [e b u q] at h
    rw [upd_same]; exact h.symm
  · rw [upd_ne eb]; exact q
/-- a new object, shown -/
theorem GoF.laid {F : Addr → Prop} {Hc H Hc1 H1 : Hp} (g : GoF F Hc H Hc1 H1) {l : Addr} {o : HO} (h : H1 l = none) : GoF F Hc H (upd Hc1 l o) (upd H1 l o) :=
  (g.new h).shown upd_same (g.there l h)

/-! ### what is given -/
def EvP (te : TE) (σ : L2.St) (Hc : Hp) (P : V → Hp → Prop) : Prop := ∀ B H, Ex Hc B → Ex B H → ∀ Q : VK, (∀ v B2 H2, Go B H B2 H2 → P v B2 → Q v H2) → te σ H Q
/-- this very value -/
abbrev EvV (te : TE) (σ : L2.St) (Hc : Hp) (v : V) : Prop := EvP te σ Hc fun u _ => u = v
def EvT (tt : TT) (σ : L2.St) (Hc : Hp) (b : Bool) : Prop := ∀ B H, Ex Hc B → Ex B H → ∀ Q : Bool → Hp → Prop, (∀ B2 H2, Go B H B2 H2 → Q b H2) → tt σ H Q
def EvA (ta : TA) (σ : L2.St) (Hc : Hp) (P : List V → Hp → Prop) : Prop := ∀ B H, Ex Hc B → Ex B H → ∀ Q : List V → Hp → Prop, (∀ vs B2 H2, Go B H B2 H2 → P vs B2 → Q vs H2) → ta σ H Q
/-- a rule by values -/
def RvP (r : V → V → Hp → VK → Prop) (x y : V) (Hc : Hp) (P : V → Hp → Prop) : Prop := ∀ B H, Ex Hc B → Ex B H → ∀ Q : VK, (∀ v B2 H2, Go B H B2 H2 → P v B2 → Q v H2) → r x y H Q
def RuP (r : V → Hp → VK → Prop) (x : V) (Hc : Hp) (P : V → Hp → Prop) : Prop := ∀ B H, Ex Hc B → Ex B H → ∀ Q : VK, (∀ v B2 H2, Go B H B2 H2 → P v B2 → Q v H2) → r x H Q
def RaP (r : List V → Hp → VK → Prop) (vs : List V) (Hc : Hp) (P : V → Hp → Prop) : Prop := ∀ B H, Ex Hc B → Ex B H → ∀ Q : VK, (∀ v B2 H2, Go B H B2 H2 → P v B2 → Q v H2) → r vs H Q
def SpP (sp : Sp) (vs : List V) (Hc : Hp) (P : V → Hp → Prop) : Prop := ∀ B H, Ex Hc B → Ex B H → ∀ Q : VK, (∀ v B2 H2, Go B H B2 H2 → P v B2 → Q v H2) → ∀ E : XK, sp vs H Q E

/-- what holds of a value holds wherever more stands -/
def Mo (P : V → Hp → Prop) : Prop := ∀ v H H', Ex H H' → P v H → P v H'

section
variable {K : PySem.W.Frag} {σ : L2.St} {Hc H H' : Hp} {ta tb tc te tx : TE} {t u : TT} {x y z v : V} {r : R2} {P P' Pa Pb : V → Hp → Prop} {a b : Bool}

theorem EvP.mono (h : EvP te σ Hc P) (e : Ex Hc H') : EvP te σ H' P := fun B H1 a b Q q => h B H1 (e.trans a) b Q q
theorem EvT.mono (h : EvT t σ Hc b) (e : Ex Hc H') : EvT t σ H' b := fun B H1 a b Q q => h B H1 (e.trans a) b Q q
theorem EvA.mono {tr : TA} {PA : List V → Hp → Prop} (h : EvA tr σ Hc PA) (e : Ex Hc H') : EvA tr σ H' PA := fun B H1 a b Q q => h B H1 (e.trans a) b Q q
/-- weaken what is told -/
theorem EvP.wk (h : EvP te σ Hc P) (w : ∀ v B, Ex Hc B → P v B → P' v B) : EvP te σ Hc P' := fun B H a b Q q => h B H a b Q fun v B2 H2 g p => q v B2 H2 g (w v B2 (a.trans g.up) p)
theorem EvP.ofV (h : EvV te σ Hc v) (w : ∀ B, Ex Hc B → P v B) : EvP te σ Hc P := h.wk fun u B e p => by rw [p]; exact w B e
theorem EvV.is {w : V} (h : EvV te σ Hc v) (e : v = w) : EvV te σ Hc w := by rw [← e]; exact h
theorem EvT.is (h : EvT t σ Hc a) (e : a = b) : EvT t σ Hc b := by rw [← e]; exact h

theorem e_var {i : Nat} (h : σ[i]? = some (some v)) (p : ∀ B, Ex Hc B → P v B) : EvP (tVar i) σ Hc P := fun B H a b Q q => ⟨v, h, q v B H (.refl b) (p B a)⟩
theorem v_var {i : Nat} (h : σ[i]? = some (some v)) : EvV (tVar i) σ Hc v := e_var h fun _ _ => rfl
theorem e_c (p : ∀ B, Ex Hc B → P v B) : EvP (tC v) σ Hc P := fun B H a b Q q => q v B H (.refl b) (p B a)
theorem v_c : EvV (tC v) σ Hc v := e_c fun _ _ => rfl
theorem e_op (ha : EvP ta σ Hc Pa) (hb : ∀ x B, Ex Hc B → Pa x B → EvP tb σ B Pb) (hr : ∀ x y B1 B2, Ex Hc B1 → Ex B1 B2 → Pa x B1 → Pb y B2 → RvP r x y B2 P) : EvP (tOp r ta tb) σ Hc P := fun B H a b Q q =>
  ha B H a b _ fun x B1 H1 g1 p1 => hb x B1 (a.trans g1.up) p1 B1 H1 (Ex.refl _) g1.sub _ fun y B2 H2 g2 p2 =>
    hr x y B1 B2 (a.trans g1.up) g2.up p1 p2 B2 H2 (Ex.refl _) g2.sub Q fun v B3 H3 g3 p3 => q v B3 H3 ((g1.trans g2).trans g3) p3
/-- both operands' values known -/
theorem e_op2 (ha : EvV ta σ Hc x) (hb : EvV tb σ Hc y) (hr : ∀ B, Ex Hc B → RvP r x y B P) : EvP (tOp r ta tb) σ Hc P :=
  e_op ha (fun _ _ e _ => hb.mono e) fun _ _ B1 B2 e1 e2 p1 p2 => by rw [p1, p2]; exact hr B2 (e1.trans e2)
theorem r_I0 {g : Int → Int → V} {i j : Int} : RvP (rI0 g) (.int i) (.int j) Hc fun u _ => u = g i j := fun B H _ b _ q => ⟨i, j, rfl, rfl, q _ B H (.refl b) rfl⟩
theorem r_I {C : Int → Int → Prop} {g : Int → Int → V} {i j : Int} (hc : C i j) : RvP (rI C g) (.int i) (.int j) Hc fun u _ => u = g i j := fun B H _ b _ q => ⟨i, j, rfl, rfl, hc, q _ B H (.refl b) rfl⟩
theorem v_I0 {g : Int → Int → V} {i j : Int} (ha : EvV ta σ Hc (.int i)) (hb : EvV tb σ Hc (.int j)) : EvV (tOp (rI0 g) ta tb) σ Hc (g i j) := e_op2 ha hb fun _ _ => r_I0
theorem v_I {C : Int → Int → Prop} {g : Int → Int → V} {i j : Int} (hc : C i j) (ha : EvV ta σ Hc (.int i)) (hb : EvV tb σ Hc (.int j)) : EvV (tOp (rI C g) ta tb) σ Hc (g i j) := e_op2 ha hb fun _ _ => r_I hc
theorem v_eq (ha : EvV ta σ Hc x) (hb : EvV tb σ Hc y) (h : scal x y = true) : EvV (tOp rEq ta tb) σ Hc (.bl (decide (x = y))) := e_op2 ha hb fun _ _ B H _ b _ q => ⟨h, q _ B H (.refl b) rfl⟩
theorem v_ne (ha : EvV ta σ Hc x) (hb : EvV tb σ Hc y) (h : scal x y = true) : EvV (tOp rNe ta tb) σ Hc (.bl (!decide (x = y))) := e_op2 ha hb fun _ _ B H _ b _ q => ⟨h, q _ B H (.refl b) rfl⟩
theorem v_un {g : Int → V} {i : Int} (ha : EvV ta σ Hc (.int i)) : EvV (tUn (rU g) ta) σ Hc (g i) := fun B H a b Q q => ha B H a b _ fun x B1 H1 g1 p1 => ⟨i, p1, q _ B1 H1 g1 rfl⟩
/-- an item of a list, of a tuple -/
theorem e_ixL {Q2 : List V → Hp → Prop} {i : Int} (ha : EvP ta σ Hc fun u B => ∃ p xs, u = .ref p ∧ SqL K B p xs ∧ Q2 xs B) (hb : EvV tb σ Hc (.int i)) (h : ∀ xs B1 B, Ex Hc B1 → Ex B1 B → Q2 xs B1 → ∃ v, atI xs i = some v ∧ P v B) : EvP (tOp (rIxL K) ta tb) σ Hc P :=
  e_op ha (fun _ _ e _ => hb.mono e) fun x y B1 B2 e1 e2 p1 p2 B H e b Q q => by
    obtain ⟨p, xs, rfl, hs, hq⟩ := p1
    obtain ⟨v, hv, pv⟩ := h xs B1 B e1 (e2.trans e) hq
    exact ⟨p, xs, i, v, rfl, p2, (e2.trans (e.trans b)).l hs, hv, q v B H (.refl b) pv⟩
theorem e_ixT {Q2 : List V → Hp → Prop} {i : Int} (ha : EvP ta σ Hc fun u B => ∃ p xs, u = .ref p ∧ SqT K B p xs ∧ Q2 xs B) (hb : EvV tb σ Hc (.int i)) (h : ∀ xs B1 B, Ex Hc B1 → Ex B1 B → Q2 xs B1 → ∃ v, atI xs i = some v ∧ P v B) : EvP (tOp (rIxT K) ta tb) σ Hc P :=
  e_op ha (fun _ _ e _ => hb.mono e) fun x y B1 B2 e1 e2 p1 p2 B H e b Q q => by
    obtain ⟨p, xs, rfl, hs, hq⟩ := p1
    obtain ⟨v, hv, pv⟩ := h xs B1 B e1 (e2.trans e) hq
    exact ⟨p, xs, i, v, rfl, p2, (e2.trans (e.trans b)).t hs, hv, q v B H (.refl b) pv⟩

/-! ### tests, and, or, if -/
theorem t_test (h : EvV te σ Hc (.bl b)) : EvT (tTest te) σ Hc b := fun B H a e Q q => h B H a e _ fun v B2 H2 g p => ⟨b, p, q B2 H2 g⟩
theorem t_B (h : EvV te σ Hc (.bl b)) : EvT (tB te) σ Hc b := fun B H a e Q q => h B H a e _ fun v B2 H2 g p => ⟨b, p, q B2 H2 g⟩
theorem t_and (h1 : EvT t σ Hc a) (h2 : a = true → EvT u σ Hc b) : EvT (tAnd t u) σ Hc (a && b) := fun B H e1 e2 Q q => h1 B H e1 e2 _ fun B2 H2 g => by
  cases a with
  | true =>
    show u σ H2 Q
    exact h2 rfl B2 H2 (e1.trans g.up) g.sub _ fun B3 H3 g3 => q B3 H3 (g.trans g3)
  | false =>
    show Q false H2
    exact q B2 H2 g
theorem t_or (h1 : EvT t σ Hc a) (h2 : a = false → EvT u σ Hc b) : EvT (tOr t u) σ Hc (a || b) := fun B H e1 e2 Q q => h1 B H e1 e2 _ fun B2 H2 g => by
  cases a with
  | false =>
    show u σ H2 Q
    exact h2 rfl B2 H2 (e1.trans g.up) g.sub _ fun B3 H3 g3 => q B3 H3 (g.trans g3)
  | true =>
    show Q true H2
    exact q B2 H2 g
theorem t_not (h1 : EvT t σ Hc a) : EvT (tNot t) σ Hc (!a) := fun B H e1 e2 Q q => h1 B H e1 e2 _ fun B2 H2 g => q B2 H2 g
theorem v_and (h1 : EvV ta σ Hc (.bl a)) (h2 : a = true → EvV tb σ Hc (.bl b)) : EvV (tAndV ta tb) σ Hc (.bl (a && b)) := fun B H e1 e2 Q q => h1 B H e1 e2 _ fun v B2 H2 g p => ⟨a, p, by
  cases a with
  | true =>
    show tb σ H2 Q
    exact h2 rfl B2 H2 (e1.trans g.up) g.sub _ fun w B3 H3 g3 p3 => q w B3 H3 (g.trans g3) p3
  | false =>
    show Q (.bl false) H2
    exact q _ B2 H2 g rfl⟩
theorem v_or (h1 : EvV ta σ Hc (.bl a)) (h2 : a = false → EvV tb σ Hc (.bl b)) : EvV (tOrV ta tb) σ Hc (.bl (a || b)) := fun B H e1 e2 Q q => h1 B H e1 e2 _ fun v B2 H2 g p => ⟨a, p, by
  cases a with
  | false =>
    show tb σ H2 Q
    exact h2 rfl B2 H2 (e1.trans g.up) g.sub _ fun w B3 H3 g3 p3 => q w B3 H3 (g.trans g3) p3
  | true =>
    show Q (.bl true) H2
    exact q _ B2 H2 g rfl⟩
theorem v_not (h1 : EvV ta σ Hc (.bl a)) : EvV (tNotV ta) σ Hc (.bl (!a)) := fun B H e1 e2 Q q => h1 B H e1 e2 _ fun v B2 H2 g p => ⟨a, p, q _ B2 H2 g rfl⟩
theorem e_if (h : EvT t σ Hc b) (h1 : b = true → EvP ta σ Hc P) (h2 : b = false → EvP tb σ Hc P) : EvP (tIf t ta tb) σ Hc P := fun B H e1 e2 Q q => h B H e1 e2 _ fun B2 H2 g => by
  cases b with
  | true =>
    show ta σ H2 Q
    exact h1 rfl B2 H2 (e1.trans g.up) g.sub _ fun w B3 H3 g3 p3 => q w B3 H3 (g.trans g3) p3
  | false =>
    show tb σ H2 Q
    exact h2 rfl B2 H2 (e1.trans g.up) g.sub _ fun w B3 H3 g3 p3 => q w B3 H3 (g.trans g3) p3
/-- a < b < c and its like -/
theorem v_chain {r' : R2} {k l : Bool} (ha : EvV ta σ Hc x) (hb : EvV tb σ Hc y) (h1 : ∀ B, Ex Hc B → RvP r x y B fun u _ => u = .bl k) (hc : k = true → EvV tc σ Hc z) (h2 : k = true → ∀ B, Ex Hc B → RvP r' y z B fun u _ => u = .bl l) : EvV (tChain r r' ta tb tc) σ Hc (.bl (k && l)) := fun B H e1 e2 Q q =>
  ha B H e1 e2 _ fun v1 B1 H1 g1 p1 => hb B1 H1 (e1.trans g1.up) g1.sub _ fun v2 B2 H2 g2 p2 => by
    subst p1 p2
    refine h1 B2 ((e1.trans g1.up).trans g2.up) B2 H2 (Ex.refl _) g2.sub _ fun v3 B3 H3 g3 p3 => ⟨k, p3, ?_⟩
    cases k with
    | false =>
      show Q (.bl false) H3
      exact q _ B3 H3 ((g1.trans g2).trans g3) rfl
    | true =>
      show tc σ H3 fun w' H4 => r' _ w' H4 Q
      refine hc rfl B3 H3 (((e1.trans g1.up).trans g2.up).trans g3.up) g3.sub _ fun v4 B4 H4 g4 p4 => ?_
      subst p4
      exact h2 rfl B4 ((((e1.trans g1.up).trans g2.up).trans g3.up).trans g4.up) B4 H4 (Ex.refl _) g4.sub _ fun v5 B5 H5 g5 p5 => q _ B5 H5 ((((g1.trans g2).trans g3).trans g4).trans g5) p5

/-! ### arguments, calls, displays -/
theorem a_nil {PA : List V → Hp → Prop} (p : ∀ B, Ex Hc B → PA [] B) : EvA tNil σ Hc PA := fun B H a b Q q => q [] B H (.refl b) (p B a)
theorem a_cons {tr : TA} {PA PR : List V → Hp → Prop} (h : EvP ta σ Hc P) (hr : ∀ x B, Ex Hc B → P x B → EvA tr σ B PR) (k : ∀ x xs B1 B2, Ex Hc B1 → Ex B1 B2 → P x B1 → PR xs B2 → PA (x :: xs) B2) : EvA (tCons ta tr) σ Hc PA := fun B H a b Q q =>
  h B H a b _ fun x B1 H1 g1 p1 => hr x B1 (a.trans g1.up) p1 B1 H1 (Ex.refl _) g1.sub _ fun xs B2 H2 g2 p2 => q _ B2 H2 (g1.trans g2) (k x xs B1 B2 (a.trans g1.up) g2.up p1 p2)
/-- the arguments' very values -/
abbrev EvAV (ta : TA) (σ : L2.St) (Hc : Hp) (vs : List V) : Prop := EvA ta σ Hc fun us _ => us = vs
theorem av_nil : EvAV tNil σ Hc [] := a_nil fun _ _ => rfl
theorem av_cons {tr : TA} {vs : List V} (h : EvV ta σ Hc x) (hr : EvAV tr σ Hc vs) : EvAV (tCons ta tr) σ Hc (x :: vs) := a_cons h (fun _ _ e _ => hr.mono e) fun _ _ _ _ _ _ p1 p2 => by rw [p1, p2]
/-- the last argument told by P -/
theorem a_one {Pl : List V → Hp → Prop} (h : EvP ta σ Hc P) (k : ∀ x B, Ex Hc B → P x B → Pl [x] B) (m : ∀ x B B', Ex B B' → P x B → P x B') : EvA (tCons ta tNil) σ Hc Pl :=
  a_cons (PR := fun xs _ => xs = []) h (fun _ _ _ _ => a_nil fun _ _ => rfl) fun x xs B1 B2 e1 e2 p1 p2 => by rw [p2]; exact k x B2 (e1.trans e2) (m x B1 B2 e2 p1)
theorem e_cb {r : List V → Hp → VK → Prop} {tr : TA} {PA : List V → Hp → Prop} (h : EvA tr σ Hc PA) (hr : ∀ vs B, Ex Hc B → PA vs B → RaP r vs B P) : EvP (tCB r tr) σ Hc P := fun B H a b Q q =>
  h B H a b _ fun vs B1 H1 g1 p1 => hr vs B1 (a.trans g1.up) p1 B1 H1 (Ex.refl _) g1.sub Q fun v B2 H2 g2 p2 => q v B2 H2 (g1.trans g2) p2
theorem e_call {sp : Sp} {dvs : List V} {E : XK} {tr : TA} {PA : List V → Hp → Prop} (h : EvA tr σ Hc PA) (hs : ∀ vs B, Ex Hc B → PA vs B → SpP sp (vs ++ dvs) B P) : EvP (tCall sp dvs E tr) σ Hc P := fun B H a b Q q =>
  h B H a b _ fun vs B1 H1 g1 p1 => hs vs B1 (a.trans g1.up) p1 B1 H1 (Ex.refl _) g1.sub Q (fun v B2 H2 g2 p2 => q v B2 H2 (g1.trans g2) p2) E
theorem e_tup {tr : TA} {PA : List V → Hp → Prop} (h : EvA tr σ Hc PA) (hl : ∀ vs B, PA vs B → vs.length ≤ 100000) (k : ∀ p vs B1 B, Ex Hc B1 → Ex B1 B → PA vs B1 → B p = some (.tup vs) → P (.ref p) B) : EvP (tTup tr) σ Hc P := fun B H a b Q q =>
  h B H a b _ fun vs B1 H1 g1 p1 => ⟨Nat.le_trans (hl vs B1 p1) (by decide), fun p hp => q _ _ _ (g1.laid hp) (k p vs B1 _ (a.trans g1.up) (Ex.new (g1.sub.none hp)) p1 upd_same)⟩
theorem e_lst {tr : TA} {PA : List V → Hp → Prop} (h : EvA tr σ Hc PA) (hl : ∀ vs B, PA vs B → vs.length ≤ 100000) (k : ∀ p vs B1 B, Ex Hc B1 → Ex B1 B → PA vs B1 → B p = some (.lst vs) → P (.ref p) B) : EvP (tLst tr) σ Hc P := fun B H a b Q q =>
  h B H a b _ fun vs B1 H1 g1 p1 => ⟨Nat.le_trans (hl vs B1 p1) (by decide), fun p hp => q _ _ _ (g1.laid hp) (k p vs B1 _ (a.trans g1.up) (Ex.new (g1.sub.none hp)) p1 upd_same)⟩
/-- len of a list or tuple -/
theorem v_len {n : Nat} (h : EvP ta σ Hc fun u B => ∃ p ys, u = .ref p ∧ (SqL K B p ys ∨ SqT K B p ys) ∧ ys.length = n) : EvV (tCB (fun xs H Q => ∃ p ys, xs = [.ref p] ∧ (SqL K H p ys ∨ SqT K H p ys) ∧ Q (.int ys.length) H) (tCons ta tNil)) σ Hc (.int (n : Int)) := fun B H a b Q q =>
  h B H a b _ fun v B1 H1 g1 ⟨p, ys, e, hs, hn⟩ => ⟨p, ys, by rw [e], hs.imp g1.sub.l g1.sub.t, q _ B1 H1 g1 (by rw [hn])⟩

/-! ### statements -/
variable {D : Ends} {tz tu tw : TS}
theorem s_asg {i : Nat} (h : EvP te σ Hc P) (e : Ex Hc H) (k : ∀ v B H1, Go Hc H B H1 → P v B → D.nx (σ.set i (some v)) H1) : tAsg te (gName i) D σ H := h Hc H (Ex.refl _) e _ k
theorem q_asg {i : Nat} (h : EvP te σ Hc P) (e : Ex Hc H) (k : ∀ v B H1, Go Hc H B H1 → P v B → tz D (σ.set i (some v)) H1) : tSeq (tAsg te (gName i)) tz D σ H := h Hc H (Ex.refl _) e _ k
theorem s_ret (h : EvP te σ Hc P) (e : Ex Hc H) (k : ∀ v B H1, Go Hc H B H1 → P v B → D.rt v H1) : tRet te D σ H := h Hc H (Ex.refl _) e _ k
theorem s_drop (h : EvP te σ Hc P) (e : Ex Hc H) (k : ∀ v B H1, Go Hc H B H1 → P v B → D.nx σ H1) : tDrop te D σ H := h Hc H (Ex.refl _) e _ k
theorem q_drop (h : EvP te σ Hc P) (e : Ex Hc H) (k : ∀ v B H1, Go Hc H B H1 → P v B → tz D σ H1) : tSeq (tDrop te) tz D σ H := h Hc H (Ex.refl _) e _ k
theorem s_if (h : EvT t σ Hc b) (e : Ex Hc H) (h1 : b = true → ∀ B H1, Go Hc H B H1 → tu D σ H1) (h2 : b = false → ∀ B H1, Go Hc H B H1 → tw D σ H1) : tIfS t tu tw D σ H := h Hc H (Ex.refl _) e _ fun B H1 g => by
  cases b with
  | true => exact h1 rfl B H1 g
  | false => exact h2 rfl B H1 g
theorem q_if (h : EvT t σ Hc b) (e : Ex Hc H) (h1 : b = true → ∀ B H1, Go Hc H B H1 → tu { D with nx := tz D } σ H1) (h2 : b = false → ∀ B H1, Go Hc H B H1 → tw { D with nx := tz D } σ H1) : tSeq (tIfS t tu tw) tz D σ H := s_if (D := { D with nx := tz D }) h e h1 h2
/-- an if without else that is not entered -/
theorem q_skip (h : EvT t σ Hc false) (e : Ex Hc H) (k : ∀ B H1, Go Hc H B H1 → tz D σ H1) : tSeq (tIfS t tu tNext) tz D σ H := q_if h e (fun z => by cases z) fun _ => k
theorem q_when (h : EvT t σ Hc b) (e : Ex Hc H) (h1 : b = true → ∀ B H1, Go Hc H B H1 → tu { D with nx := tz D } σ H1) (h2 : b = false → ∀ B H1, Go Hc H B H1 → tz D σ H1) : tSeq (tIfS t tu tNext) tz D σ H := q_if h e h1 h2
theorem q_next {s1 s2 : TS} (h : s1 { D with nx := tz D } σ H) : tSeq s1 tz D σ H := h
end
end Sk

namespace Sk
open PySem PySem.Spec PyProof.Rows L2

/-- two sequences, item by item -/
structure Seq2 {α : Type} (P : V → α → Prop) (vs : List V) (xs : List α) : Prop where
  len : vs.length = xs.length
  at_ : ∀ (i : Nat) v x, vs[i]? = some v → xs[i]? = some x → P v x
theorem Seq2.nil {α : Type} {P : V → α → Prop} : Seq2 P [] [] := ⟨rfl, fun i v x h => by simp at h⟩
theorem Seq2.imp {α : Type} {P P' : V → α → Prop} {vs : List V} {xs : List α} (s : Seq2 P vs xs) (h : ∀ v x, P v x → P' v x) : Seq2 P' vs xs := ⟨s.len, fun i v x h1 h2 => h v x (s.at_ i v x h1 h2)⟩
theorem Seq2.snoc {α : Type} {P : V → α → Prop} {vs : List V} {xs : List α} {v : V} {x : α} (s : Seq2 P vs xs) (h : P v x) : Seq2 P (vs ++ [v]) (xs ++ [x]) := by
  refine ⟨by rw [List.length_append, List.length_append, s.len]; rfl, fun i u y h1 h2 => ?_⟩
  by_cases hi : i < vs.length
  · rw [List.getElem?_append_left hi] at h1
    rw [List.getElem?_append_left (by rw [← s.len]; exact hi)] at h2
    exact s.at_ i u y h1 h2
  · rw [List.getElem?_append_right (by omega)] at h1
    rw [List.getElem?_append_right (by rw [← s.len]; omega)] at h2
    have e1 := (List.getElem?_eq_some_iff.mp h1).1
    rw [List.length_singleton] at e1
    rw [show i - vs.length = 0 by omega] at h1
    rw [show i - xs.length = 0 by rw [← s.len]; omega] at h2
    rw [← Option.some.inj h1, ← Option.some.inj h2]
    exact h
theorem Seq2.cons {α : Type} {P : V → α → Prop} {vs : List V} {xs : List α} {v : V} {x : α} (h : P v x) (s : Seq2 P vs xs) : Seq2 P (v :: vs) (x :: xs) := by
  refine ⟨by rw [List.length_cons, List.length_cons, s.len], fun i u y h1 h2 => ?_⟩
  cases i with
  | zero => rw [← Option.some.inj h1, ← Option.some.inj h2]; exact h
  | succ i => exact s.at_ i u y h1 h2
theorem Seq2.get {α : Type} {P : V → α → Prop} {vs : List V} {xs : List α} (s : Seq2 P vs xs) {i : Nat} {x : α} (h : xs[i]? = some x) : ∃ v, vs[i]? = some v ∧ P v x := by
  have hi := (List.getElem?_eq_some_iff.mp h).1
  have h2 : vs[i]? = some (vs[i]'(by rw [s.len]; exact hi)) := List.getElem?_eq_getElem _
  exact ⟨_, h2, s.at_ i _ x h2 h⟩
theorem Seq2.back {α : Type} {P : V → α → Prop} {vs : List V} {xs : List α} (s : Seq2 P vs xs) {i : Nat} {v : V} (h : vs[i]? = some v) : ∃ x, xs[i]? = some x ∧ P v x := by
  have hi := (List.getElem?_eq_some_iff.mp h).1
  have h2 : xs[i]? = some (xs[i]'(by rw [← s.len]; exact hi)) := List.getElem?_eq_getElem _
  exact ⟨_, h2, s.at_ i v _ h h2⟩
theorem Seq2.map {α β : Type} {P : V → α → Prop} {P' : V → β → Prop} {f : α → β} {vs : List V} {xs : List α} (s : Seq2 P vs xs) (h : ∀ v x, P v x → P' v (f x)) : Seq2 P' vs (xs.map f) := by
  refine ⟨by rw [List.length_map, s.len], fun i v x h1 h2 => ?_⟩
  rw [List.getElem?_map] at h2
  obtain ⟨y, h3, h4⟩ := s.back h1
  rw [h3] at h2
  rw [← Option.some.inj h2]
  exact h v y h4
/-- values that are told each -/
theorem Seq2.eq {α : Type} {f : α → V} {vs : List V} {xs : List α} (s : Seq2 (fun v x => v = f x) vs xs) : vs = xs.map f := by
  refine List.ext_getElem? fun i => ?_
  rw [List.getElem?_map]
  cases h : xs[i]? with
  | none => rw [List.getElem?_eq_none (by rw [s.len]; exact List.getElem?_eq_none_iff.mp h)]; rfl
  | some x =>
    obtain ⟨v, h1, h2⟩ := s.get h
    rw [h1, h2]; rfl
theorem seq2_map {α : Type} {f : α → V} {xs : List α} : Seq2 (fun v x => v = f x) (xs.map f) xs := ⟨List.length_map _, fun i v x h1 h2 => by
  rw [List.getElem?_map, h2] at h1
  exact (Option.some.inj h1).symm⟩

/-! ### what is walked -/
/-- the walk J over the base B: n turns; turn i yields x with Y i x -/
structure WalkB (J : It) (n : Nat) (B : Hp) (Y : Nat → V → Hp → Prop) : Prop where
  goes : ∀ i H, i < n → Ex B H → J.go i H
  stops : ∀ H, Ex B H → J.stop n H
  yields : ∀ i B1 H x H', i < n → Ex B B1 → Ex B1 H → J.yld i H x H' → ∃ B2, Go B1 H B2 H' ∧ Y i x B2
theorem WalkB.mono {J : It} {n : Nat} {B B' : Hp} {Y : Nat → V → Hp → Prop} (w : WalkB J n B Y) (e : Ex B B') : WalkB J n B' Y :=
  ⟨fun i H hi h => w.goes i H hi (e.trans h), fun H h => w.stops H (e.trans h), fun i B1 H x H' hi h1 h2 y => w.yields i B1 H x H' hi (e.trans h1) h2 y⟩
def EvI (wi : TI) (σ : L2.St) (Hc : Hp) (n : Nat) (Y : Nat → V → Hp → Prop) : Prop :=
  ∀ B H, Ex Hc B → Ex B H → ∀ R : It → Hp → Prop, (∀ J B2 H2, Go B H B2 H2 → WalkB J n B2 Y → R J H2) → wi σ H R
/-- a target stored -/
def EvG (g : TG) (x : V) (σ : L2.St) (Hc : Hp) (S : L2.St → Hp → Prop) : Prop :=
  ∀ B H, Ex Hc B → Ex B H → ∀ Q : L2.St → Hp → Prop, (∀ σ2 B2 H2, Go B H B2 H2 → S σ2 B2 → Q σ2 H2) → g x σ H Q

section
variable {K : PySem.W.Frag} {σ : L2.St} {Hc H H' : Hp} {ta tb tc te tx tl : TE} {t u tt : TT} {x y z v : V} {P P' Pa Pb : V → Hp → Prop} {a b : Bool} {wi : TI} {g : TG} {n : Nat} {Y : Nat → V → Hp → Prop}

theorem g_name {i : Nat} {S : L2.St → Hp → Prop} (h : ∀ B, Ex Hc B → S (σ.set i (some x)) B) : EvG (gName i) x σ Hc S := fun B H a b Q q => q _ B H (.refl b) (h B a)
theorem i_list {xs : List V} (hl : EvP tl σ Hc fun u B => ∃ p, u = .ref p ∧ SqL K B p xs) : EvI (iList K tl) σ Hc xs.length fun i x B => xs[i]? = some x := fun B H a b R q =>
  hl B H a b _ fun v B1 H1 g1 ⟨p, e, hs⟩ => ⟨p, e, ⟨xs, g1.sub.l hs⟩, q _ B1 H1 g1
    ⟨fun i H hi h => ⟨xs, xs[i], h.l hs, List.getElem?_eq_getElem hi⟩, fun H h => ⟨xs, h.l hs, Nat.le_refl _⟩, fun i B2 H x H' hi h1 h2 y => by
      obtain ⟨e1, e2⟩ := y
      subst e1
      exact ⟨B2, .refl h2, e2 xs ((h1.trans h2).l hs)⟩⟩⟩
theorem i_tup {xs : List V} (hl : EvP tl σ Hc fun u B => ∃ p, u = .ref p ∧ SqT K B p xs) : EvI (iTup K tl) σ Hc xs.length fun i x B => xs[i]? = some x := fun B H a b R q =>
  hl B H a b _ fun v B1 H1 g1 ⟨p, e, hs⟩ => ⟨p, e, ⟨xs, g1.sub.t hs⟩, q _ B1 H1 g1
    ⟨fun i H hi h => ⟨xs, xs[i], h.t hs, List.getElem?_eq_getElem hi⟩, fun H h => ⟨xs, h.t hs, Nat.le_refl _⟩, fun i B2 H x H' hi h1 h2 y => by
      obtain ⟨e1, e2⟩ := y
      subst e1
      exact ⟨B2, .refl h2, e2 xs ((h1.trans h2).t hs)⟩⟩⟩
theorem i_rng1 {tr : TA} {m : Nat} (ha : EvAV tr σ Hc [.int (m : Int)]) (hm : m ≤ 100000) : EvI (iRng1 tr) σ Hc m fun i x B => x = .int (i : Nat) := fun B H a b R q =>
  ha B H a b _ fun vs B1 H1 g1 e => ⟨m, e, by omega, by omega, q _ B1 H1 g1
    ⟨fun i H hi h => by show i < (m : Int).toNat; omega, fun H h => by show (m : Int).toNat ≤ m; omega, fun i B2 H x H' hi h1 h2 y => by
      obtain ⟨e1, e2⟩ := y
      subst e1
      exact ⟨B2, .refl h2, by rw [e2, Int.zero_add]⟩⟩⟩
/-- range(lo, hi) with lo not above hi + 1 -/
theorem i_rng2 {tr : TA} {lo hi : Nat} (ha : EvAV tr σ Hc [.int (lo : Int), .int (hi : Int)]) (h1 : lo ≤ 100000) (h2 : hi ≤ 100000) : EvI (iRng2 tr) σ Hc (hi - lo) fun i x B => x = .int ((lo + i : Nat) : Int) := fun B H a b R q =>
  ha B H a b _ fun vs B1 H1 g1 e => ⟨lo, hi, e, ⟨by omega, by omega, by omega, by omega⟩, q _ B1 H1 g1
    ⟨fun i H hi h => by show i < ((_ : Int) - _).toNat; omega, fun H h => by show ((_ : Int) - _).toNat ≤ _; omega, fun i B2 H x H' hi h1 h2 y => by
      obtain ⟨e1, e2⟩ := y
      subst e1
      exact ⟨B2, .refl h2, by rw [e2]; congr 1⟩⟩⟩

/-- the items that pass the test -/
abbrev kept (n : Nat) (f : Nat → Bool) : List Nat := (List.range n).filter f
theorem kept_le (n : Nat) (f : Nat → Bool) : (kept n f).length ≤ n := by
  have h := List.length_filter_le f (List.range n)
  rw [List.length_range] at h
  exact h
theorem kept_yes {f : Nat → Bool} (h : f n = true) : kept (n + 1) f = kept n f ++ [n] := by
  unfold kept
  rw [List.range_succ, List.filter_append, List.filter_cons, if_pos h]; rfl
theorem kept_no {f : Nat → Bool} (h : f n = false) : kept (n + 1) f = kept n f := by
  unfold kept
  rw [List.range_succ, List.filter_append, List.filter_cons, if_neg (by rw [h]; decide)]; exact List.append_nil _
theorem kept_all : ∀ n, kept n (fun _ => true) = List.range n := fun n => List.filter_eq_self.mpr fun _ _ => rfl

/-- a comprehension of one clause -/
theorem e_lc {vs : List Nat} (Pe : Nat → V → Hp → Prop) (f : Nat → Bool) (hi : EvI wi σ Hc n Y) (hn : n ≤ 100000)
    (hb : ∀ i x B, i < n → Ex Hc B → Y i x B → EvG g x (wipe σ vs) B fun σ2 B2 => wipe σ2 vs = wipe σ vs ∧ EvT tt σ2 B2 (f i) ∧ (f i = true → EvP te σ2 B2 (Pe i)))
    (hm : ∀ i v B B', i < n → Ex B B' → Pe i v B → Pe i v B') (k : ∀ p xs B, Ex Hc B → B p = some (.lst xs) → Seq2 (fun v i => Pe i v B) xs (kept n f) → P (.ref p) B) : EvP (tLc wi g tt te vs) σ Hc P := fun B H a b Q q =>
  hi B H a b _ fun J B1 H1 g1 w D hD => by
    refine ⟨fun i m H' => m = n - i ∧ i ≤ n ∧ ∃ B', Go B1 H1 B' H' ∧ B' D = none ∧ ∃ acc, H' D = some (.lst acc) ∧ Seq2 (fun v i => Pe i v B') acc (kept i f), ⟨n, by simp, Nat.zero_le _, B1, GoF.new (.refl g1.sub) hD, g1.sub.none hD, [], upd_same, Seq2.nil⟩, ?_⟩
    rintro i m H' ⟨rfl, hin, B', gg, hBD, acc, hacc, hs⟩
    by_cases hlt : i < n
    · refine .inr ⟨w.goes i H' hlt (gg.up.trans gg.sub), fun H'' => i + 1 ≤ n ∧ ∃ B', Go B1 H1 B' H'' ∧ B' D = none ∧ ∃ acc, H'' D = some (.lst acc) ∧ Seq2 (fun v i => Pe i v B') acc (kept (i + 1) f), fun H'' h => ⟨n - (i + 1), by omega, rfl, h⟩, fun x H2 y => ?_⟩
      obtain ⟨B2, g2, hY⟩ := w.yields i B' H' x H2 hlt gg.up gg.sub y
      refine hb i x B2 hlt ((a.trans g1.up).trans (gg.up.trans g2.up)) hY B2 H2 (Ex.refl _) g2.sub _ fun σ2 B3 H3 g3 ⟨hw, ht, he⟩ => ⟨hw, ?_⟩
      refine ht B3 H3 (Ex.refl _) g3.sub _ fun B4 H4 g4 => ?_
      have gD : H' D ≠ none := by rw [hacc]; simp
      have g24 := (g2.trans g3).trans g4
      cases hf : f i with
      | false =>
        show i + 1 ≤ n ∧ _
        refine ⟨hlt, B4, gg.trans g24, g24.off D hBD gD, acc, g24.ex D _ hacc, ?_⟩
        rw [kept_no hf]
        exact ⟨hs.len, fun j v x h1 h2 => by
          have := List.mem_range.mp (List.mem_filter.mp (List.mem_of_getElem? h2)).1
          exact hm x v B' B4 (by omega) g24.up (hs.at_ j v x h1 h2)⟩
      | true =>
        show te σ2 H4 _
        refine he hf B4 H4 g4.up g4.sub _ fun y B5 H5 g5 p5 => ?_
        have g25 := g24.trans g5
        refine ⟨acc, g25.ex D _ hacc, ?_, hlt, B5, (gg.trans g25).mut hD (g25.off D hBD gD), g25.off D hBD gD, acc ++ [y], upd_same, ?_⟩
        · rw [hs.len]
          exact Nat.lt_of_le_of_lt (Nat.le_trans (kept_le i f) (by omega : i ≤ 100000)) (by decide)
        · rw [kept_yes hf]
          refine Seq2.snoc ⟨hs.len, fun j v x h1 h2 => ?_⟩ p5
          have := List.mem_range.mp (List.mem_filter.mp (List.mem_of_getElem? h2)).1
          exact hm x v B' B5 (by omega) g25.up (hs.at_ j v x h1 h2)
    · have e : i = n := by omega
      subst e
      refine .inl ⟨w.stops H' (gg.up.trans gg.sub), q (.ref D) _ H' (g1.trans (gg.shown hacc hD)) (k D acc _ (a.trans (g1.up.trans (gg.up.trans (Ex.shown gg.sub hacc)))) upd_same ?_)⟩
      exact ⟨hs.len, fun j v x h1 h2 => by
        have := List.mem_range.mp (List.mem_filter.mp (List.mem_of_getElem? h2)).1
        exact hm x v B' _ (by omega) (Ex.shown gg.sub hacc) (hs.at_ j v x h1 h2)⟩
/-- without a test -/
theorem t_yes : EvT tYes σ Hc true := fun B H a b Q q => q B H (.refl b)
/-- a comprehension whose elements are values told each, the target a name -/
theorem e_lcV {vs : List Nat} {j : Nat} (f : Nat → Bool) (fv : Nat → V) (hi : EvI wi σ Hc n Y) (hn : n ≤ 100000) (hw : ∀ x, wipe ((wipe σ vs).set j (some x)) vs = wipe σ vs)
    (ht : ∀ i x B, i < n → Ex Hc B → Y i x B → EvT tt ((wipe σ vs).set j (some x)) B (f i)) (he : ∀ i x B, i < n → Ex Hc B → Y i x B → f i = true → EvV te ((wipe σ vs).set j (some x)) B (fv i)) :
    EvP (tLc wi (gName j) tt te vs) σ Hc fun u B => ∃ p, u = .ref p ∧ B p = some (.lst ((kept n f).map fv)) :=
  e_lc (fun i v _ => v = fv i) f hi hn (fun i x B hin e y B1 H1 a b Q q => q _ B1 H1 (.refl b) ⟨hw x, (ht i x B hin e y).mono a, fun hf => (he i x B hin e y hf).mono a⟩) (fun _ _ _ _ _ _ h => h) fun p xs B e hp hs => ⟨p, rfl, by rw [hp, hs.eq]⟩
end
end Sk

namespace Sk
open PySem PySem.Spec PyProof.Rows L2

/-! ### the text by places -/
def topS (i : Nat) : Stmt := PySem.Challenge.pw_swaprow_k21_whole_reach_for_many.main.body.getD i (.Pass ⟨0, 0, 0, 0⟩)
/-- a def that stands behind its name -/
def Df (K : PySem.W.Frag) (mg : Str → Option Value) (x : Str) (st : Stmt) : Prop := ∃ (f : Addr) (fd : FuncData), Fun K x x st f fd ∧ mg x = some (.ref f)
/-- a method -/
def Mf (K : PySem.W.Frag) (C : Addr) (m qual : Str) (st : Stmt) : Prop := ∃ (f : Addr) (fd : FuncData), Fun K m qual st f fd ∧ Meth K C m f

/-- a def of which the promise is shown -/
structure Cal (P : Program) (w : World) (K : PySem.W.Frag) (mg : Str → Option Value) (base : Heap) (x : Str) (ps : List Str) (k : Nat) (sp : Sp) : Prop where
  ex : ∃ (f : Addr) (fd : FuncData), FnOk P w K mg base CX0 k f fd ps sp ∧ mg x = some (.ref f) ∧ PySem.W.keepIn K (.ref f) = true ∧ Binds K fd ps []
structure Mal (P : Program) (w : World) (K : PySem.W.Frag) (mg : Str → Option Value) (base : Heap) (C : Addr) (m : Str) (ps : List Str) (k : Nat) (sp : Sp) : Prop where
  ex : ∃ (f : Addr) (fd : FuncData), FnOk P w K mg base CX0 k f fd ps sp ∧ Meth K C m f ∧ Binds K fd ps []

section
variable {P : Program} {w : World} {K : PySem.W.Frag} {mg : Str → Option Value} {base : Heap}
theorem Df.cal {x : Str} {st : Stmt} {N ps : List Str} {k : Nat} {sp : Sp} (D : Df K mg x st) (S : FnScope N ps (defScope st)) (len : ∀ vs H Q E, sp vs H Q E → vs.length = ps.length)
    (hb : ∀ (kV doc pm : Value) (an : Option Addr) (cdv ct : Value) (us : List Value), us.length = ps.length → bindArgs (PySem.W.fnOf x x (defArgs st) (defBody st) (defScope st) .none kV doc pm an cdv ct) ⟨us, []⟩ = pure (ps.zip us))
    (hbody : ∀ (f : Addr) (cdv : Value) (A : Around) (outer : List Env) (s : Shared) (H : Hp) (vs : List V) (Q : VK) (E : XK), Room k (A.deeper (envOfC x (defScope st) s.heap.objs.size f cdv)) → sp vs H Q E →
      ∃ t, PSs (cxOf CX0 P w K mg base N x (defScope st) f cdv A outer s H E).nox (defBody st) t ∧ t { nx := fun _ H' => Q .non H', rt := Q } (start N vs) H) : Cal P w K mg base x ps (k + 1) sp := by
  obtain ⟨f, fd, F, g⟩ := D
  exact ⟨f, fd, F.ok S len (hbody f), g, F.kp, F.binds hb⟩
theorem Mf.mal {C : Addr} {m qual : Str} {st : Stmt} {N ps : List Str} {k : Nat} {sp : Sp} (D : Mf K C m qual st) (S : FnScope N ps (defScope st)) (len : ∀ vs H Q E, sp vs H Q E → vs.length = ps.length)
    (hb : ∀ (kV doc pm : Value) (an : Option Addr) (cdv ct : Value) (us : List Value), us.length = ps.length → bindArgs (PySem.W.fnOf m qual (defArgs st) (defBody st) (defScope st) .none kV doc pm an cdv ct) ⟨us, []⟩ = pure (ps.zip us))
    (hbody : ∀ (f : Addr) (cdv : Value) (A : Around) (outer : List Env) (s : Shared) (H : Hp) (vs : List V) (Q : VK) (E : XK), Room k (A.deeper (envOfC qual (defScope st) s.heap.objs.size f cdv)) → sp vs H Q E →
      ∃ t, PSs (cxOf CX0 P w K mg base N qual (defScope st) f cdv A outer s H E).nox (defBody st) t ∧ t { nx := fun _ H' => Q .non H', rt := Q } (start N vs) H) : Mal P w K mg base C m ps (k + 1) sp := by
  obtain ⟨f, fd, F, g⟩ := D
  exact ⟨f, fd, F.ok S len (hbody f), g, F.binds hb⟩
end
section
variable {X : Cx} {x : Str} {ps : List Str} {k j : Nat} {sp : Sp} {e o : Expr} {es : List Expr} {t : TA} {to : TE} {p pos apos : Pos} {C : Addr} {m : Str}
theorem Cal.pe (c : Cal X.prog X.w X.K X.mg X.base x ps k sp) (hr : Room j X.A) (hk : k ≤ j) (hg : Gl X x) (ha : PA X (e :: es) t)
    (hst : starEach (e :: es) X.env = (false, eval e X.env) :: starEach es X.env := by rfl) (hpl : (backTo pos (starEach es X.env)).any (·.1) = false := by rfl) (hdb : (x == ("__debug__" : Str)) = false := by decide) : PE X (.Call (.Name x p) (e :: es) [] pos) (tCall sp [] E0 t) := by
  obtain ⟨f, fd, F, g, kp, b⟩ := c.ex
  exact pe_call F (hr.mono hk) hg g kp b .nil pass0 ha (hdb := hdb) (he := hst) (hpl := hpl)
theorem Mal.pe {pl : Sem Bool} (c : Mal X.prog X.w X.K X.mg X.base C m ps k sp) (cl : Cls X.K C) (hr : Room j X.A) (hk : k ≤ j) (ho : PE X o to) (ha : PA X (e :: es) t)
    (hst : starEach (e :: es) X.env = (false, eval e X.env) :: starEach es X.env := by rfl)
    (hpl : (backTo pos (starEach es X.env)).any (·.1) = false := by rfl)
    (ht : eval (.Call (.Attribute o m apos) (e :: es) [] pos) X.env = (do
      let ov ← eval o X.env
      standAt apos.atName
      let (f, first) ← holding [ov] (getMethod ov m pl)
      callWith pos f first (backTo pos (starEach (e :: es) X.env)) (backToKw pos (keywordEach [] X.env))) := by rfl) :
    PE X (.Call (.Attribute o m apos) (e :: es) [] pos) (tMeth C m sp [] E0 to t) := by
  obtain ⟨f, fd, F, g, b⟩ := c.ex
  exact pe_meth ho cl g F (hr.mono hk) b .nil pass0 ha (hst := hst) (hpl := hpl) (ht := ht)
theorem Mal.pe0 {pl : Sem Bool} (c : Mal X.prog X.w X.K X.mg X.base C m ps k sp) (cl : Cls X.K C) (hr : Room j X.A) (hk : k ≤ j) (ho : PE X o to)
    (ht : eval (.Call (.Attribute o m apos) [] [] pos) X.env = (do
      let ov ← eval o X.env
      standAt apos.atName
      let (f, first) ← holding [ov] (getMethod ov m pl)
      callWith pos f first (backTo pos (starEach [] X.env)) (backToKw pos (keywordEach [] X.env))) := by rfl) :
    PE X (.Call (.Attribute o m apos) [] [] pos) (tMeth C m sp [] E0 to tNil) := by
  obtain ⟨f, fd, F, g, b⟩ := c.ex
  exact pe_meth0 ho cl g F (hr.mono hk) b .nil pass0 (ht := ht)
theorem pe_gl {v : V} {u : Tok → Value} (h : ∃ t, X.mg x = some (u t)) (r : ∀ t, RelV v (u t)) (hg : Gl X x) (hdb : (x == ("__debug__" : Str)) = false := by decide) : PE X (.Name x p) (tC v) := by
  obtain ⟨t, h⟩ := h
  exact pe_glob hg h (r t) (hd := hdb)
end
abbrev s_M___init__ : Stmt := inClass (topS 21) 0
abbrev N_M___init__ : List Str := ["self", "tables", "item", "person", "last", "y"]
theorem sc_M___init__ : FnScope N_M___init__ ["self", "tables", "item", "person", "last"] (defScope s_M___init__) := ⟨rfl, rfl, rfl, by decide +kernel, rfl, by decide +kernel, by decide +kernel⟩
abbrev s_M_likes : Stmt := inClass (topS 21) 1
abbrev N_M_likes : List Str := ["self", "person", "y", "z"]
theorem sc_M_likes : FnScope N_M_likes ["self", "person", "y", "z"] (defScope s_M_likes) := ⟨rfl, rfl, rfl, by decide +kernel, rfl, by decide +kernel, by decide +kernel⟩
abbrev s_M_left_index : Stmt := inClass (topS 21) 2
abbrev N_M_left_index : List Str := ["self", "y", "top", "some", "person"]
theorem sc_M_left_index : FnScope N_M_left_index ["self", "y"] (defScope s_M_left_index) := ⟨rfl, rfl, rfl, by decide +kernel, rfl, by decide +kernel, by decide +kernel⟩
abbrev s_M_stay_index : Stmt := inClass (topS 21) 3
abbrev N_M_stay_index : List Str := ["self", "y", "low", "some", "person"]
theorem sc_M_stay_index : FnScope N_M_stay_index ["self", "y"] (defScope s_M_stay_index) := ⟨rfl, rfl, rfl, by decide +kernel, rfl, by decide +kernel, by decide +kernel⟩
abbrev s_M_last_fits : Stmt := inClass (topS 21) 4
abbrev N_M_last_fits : List Str := ["self"]
theorem sc_M_last_fits : FnScope N_M_last_fits ["self"] (defScope s_M_last_fits) := ⟨rfl, rfl, rfl, by decide +kernel, rfl, by decide +kernel, by decide +kernel⟩
abbrev s_M_before : Stmt := inClass (topS 21) 5
abbrev N_M_before : List Str := ["self", "choice", "index"]
theorem sc_M_before : FnScope N_M_before ["self", "choice"] (defScope s_M_before) := ⟨rfl, rfl, rfl, by decide +kernel, rfl, by decide +kernel, by decide +kernel⟩
abbrev s_M_beyond : Stmt := inClass (topS 21) 6
abbrev N_M_beyond : List Str := ["self", "choice"]
theorem sc_M_beyond : FnScope N_M_beyond ["self", "choice"] (defScope s_M_beyond) := ⟨rfl, rfl, rfl, by decide +kernel, rfl, by decide +kernel, by decide +kernel⟩
abbrev s_M_is_wrong : Stmt := inClass (topS 21) 7
abbrev N_M_is_wrong : List Str := ["self", "choice"]
theorem sc_M_is_wrong : FnScope N_M_is_wrong ["self", "choice"] (defScope s_M_is_wrong) := ⟨rfl, rfl, rfl, by decide +kernel, rfl, by decide +kernel, by decide +kernel⟩
abbrev s_M_pass_each_other : Stmt := inClass (topS 21) 8
abbrev N_M_pass_each_other : List Str := ["self", "stay", "left", "place"]
theorem sc_M_pass_each_other : FnScope N_M_pass_each_other ["self", "stay", "left"] (defScope s_M_pass_each_other) := ⟨rfl, rfl, rfl, by decide +kernel, rfl, by decide +kernel, by decide +kernel⟩
abbrev s_M_clash : Stmt := inClass (topS 21) 9
abbrev N_M_clash : List Str := ["self", "one", "other", "first", "second"]
theorem sc_M_clash : FnScope N_M_clash ["self", "one", "other"] (defScope s_M_clash) := ⟨rfl, rfl, rfl, by decide +kernel, rfl, by decide +kernel, by decide +kernel⟩
abbrev s_M_implies : Stmt := inClass (topS 21) 10
abbrev N_M_implies : List Str := ["self", "one", "other"]
theorem sc_M_implies : FnScope N_M_implies ["self", "one", "other"] (defScope s_M_implies) := ⟨rfl, rfl, rfl, by decide +kernel, rfl, by decide +kernel, by decide +kernel⟩
abbrev s_is_integer : Stmt := topS 10
abbrev N_is_integer : List Str := ["value"]
theorem sc_is_integer : FnScope N_is_integer ["value"] (defScope s_is_integer) := ⟨rfl, rfl, rfl, by decide +kernel, rfl, by decide +kernel, by decide +kernel⟩
abbrev s_is_number_below : Stmt := topS 11
abbrev N_is_number_below : List Str := ["value", "limit"]
theorem sc_is_number_below : FnScope N_is_number_below ["value", "limit"] (defScope s_is_number_below) := ⟨rfl, rfl, rfl, by decide +kernel, rfl, by decide +kernel, by decide +kernel⟩
abbrev s_is_ranking : Stmt := topS 12
abbrev N_is_ranking : List Str := ["value", "size", "item"]
theorem sc_is_ranking : FnScope N_is_ranking ["value", "size"] (defScope s_is_ranking) := ⟨rfl, rfl, rfl, by decide +kernel, rfl, by decide +kernel, by decide +kernel⟩
abbrev s_check_rankings : Stmt := topS 13
abbrev N_check_rankings : List Str := ["value", "person", "ranking"]
theorem sc_check_rankings : FnScope N_check_rankings ["value"] (defScope s_check_rankings) := ⟨rfl, rfl, rfl, by decide +kernel, rfl, by decide +kernel, by decide +kernel⟩
abbrev s_check_person : Stmt := topS 14
abbrev N_check_person : List Str := ["rankings", "person"]
theorem sc_check_person : FnScope N_check_person ["rankings", "person"] (defScope s_check_person) := ⟨rfl, rfl, rfl, by decide +kernel, rfl, by decide +kernel, by decide +kernel⟩
abbrev s_check_item : Stmt := topS 15
abbrev N_check_item : List Str := ["rankings", "item"]
theorem sc_check_item : FnScope N_check_item ["rankings", "item"] (defScope s_check_item) := ⟨rfl, rfl, rfl, by decide +kernel, rfl, by decide +kernel, by decide +kernel⟩
abbrev s_mirrored_rankings : Stmt := topS 16
abbrev N_mirrored_rankings : List Str := ["rankings", "last", "item", "ranking"]
theorem sc_mirrored_rankings : FnScope N_mirrored_rankings ["rankings"] (defScope s_mirrored_rankings) := ⟨rfl, rfl, rfl, by decide +kernel, rfl, by decide +kernel, by decide +kernel⟩
abbrev s_rank_tables : Stmt := topS 17
abbrev N_rank_tables : List Str := ["rankings", "place", "item", "ranking"]
theorem sc_rank_tables : FnScope N_rank_tables ["rankings"] (defScope s_rank_tables) := ⟨rfl, rfl, rfl, by decide +kernel, rfl, by decide +kernel, by decide +kernel⟩
abbrev s_opposite : Stmt := topS 22
abbrev N_opposite : List Str := ["choice"]
theorem sc_opposite : FnScope N_opposite ["choice"] (defScope s_opposite) := ⟨rfl, rfl, rfl, by decide +kernel, rfl, by decide +kernel, by decide +kernel⟩
abbrev s_is_choice : Stmt := topS 23
abbrev N_is_choice : List Str := ["item", "last", "value"]
theorem sc_is_choice : FnScope N_is_choice ["item", "last", "value"] (defScope s_is_choice) := ⟨rfl, rfl, rfl, by decide +kernel, rfl, by decide +kernel, by decide +kernel⟩
abbrev s_check_arrangement : Stmt := topS 25
abbrev N_check_arrangement : List Str := ["value", "position", "item"]
theorem sc_check_arrangement : FnScope N_check_arrangement ["value"] (defScope s_check_arrangement) := ⟨rfl, rfl, rfl, by decide +kernel, rfl, by decide +kernel, by decide +kernel⟩
abbrev s_check_fitting : Stmt := topS 26
abbrev N_check_fitting : List Str := ["rankings", "arrangement"]
theorem sc_check_fitting : FnScope N_check_fitting ["rankings", "arrangement"] (defScope s_check_fitting) := ⟨rfl, rfl, rfl, by decide +kernel, rfl, by decide +kernel, by decide +kernel⟩
abbrev s_goals_of : Stmt := topS 27
abbrev N_goals_of : List Str := ["arrangement", "found", "person", "item"]
theorem sc_goals_of : FnScope N_goals_of ["arrangement"] (defScope s_goals_of) := ⟨rfl, rfl, rfl, by decide +kernel, rfl, by decide +kernel, by decide +kernel⟩
abbrev s_inversions_of : Stmt := topS 28
abbrev N_inversions_of : List Str := ["arrangement", "ends", "size", "x", "z"]
theorem sc_inversions_of : FnScope N_inversions_of ["arrangement"] (defScope s_inversions_of) := ⟨rfl, rfl, rfl, by decide +kernel, rfl, by decide +kernel, by decide +kernel⟩
abbrev s_is_allowed_there : Stmt := topS 30
abbrev N_is_allowed_there : List Str := ["tables", "arrangement", "swap", "own", "other"]
theorem sc_is_allowed_there : FnScope N_is_allowed_there ["tables", "arrangement", "swap"] (defScope s_is_allowed_there) := ⟨rfl, rfl, rfl, by decide +kernel, rfl, by decide +kernel, by decide +kernel⟩
abbrev s_swapped : Stmt := topS 31
abbrev N_swapped : List Str := ["arrangement", "swap"]
theorem sc_swapped : FnScope N_swapped ["arrangement", "swap"] (defScope s_swapped) := ⟨rfl, rfl, rfl, by decide +kernel, rfl, by decide +kernel, by decide +kernel⟩
abbrev s_history : Stmt := topS 32
abbrev N_history : List Str := ["rankings", "arrangement", "sequence", "tables", "found", "index", "swap"]
theorem sc_history : FnScope N_history ["rankings", "arrangement", "sequence"] (defScope s_history) := ⟨rfl, rfl, rfl, by decide +kernel, rfl, by decide +kernel, by decide +kernel⟩
abbrev s_sequence_to : Stmt := topS 34
abbrev N_sequence_to : List Str := ["arrangement", "needed", "pair", "here", "found", "swap"]
theorem sc_sequence_to : FnScope N_sequence_to ["arrangement"] (defScope s_sequence_to) := ⟨rfl, rfl, rfl, by decide +kernel, rfl, by decide +kernel, by decide +kernel⟩
abbrev s_all_choices : Stmt := topS 36
abbrev N_all_choices : List Str := ["item", "last", "y", "way"]
theorem sc_all_choices : FnScope N_all_choices ["item", "last"] (defScope s_all_choices) := ⟨rfl, rfl, rfl, by decide +kernel, rfl, by decide +kernel, by decide +kernel⟩
abbrev s_implications : Stmt := topS 37
abbrev N_implications : List Str := ["choices", "some", "other", "one"]
theorem sc_implications : FnScope N_implications ["choices"] (defScope s_implications) := ⟨rfl, rfl, rfl, by decide +kernel, rfl, by decide +kernel, by decide +kernel⟩
abbrev s_implied_by : Stmt := topS 38
abbrev N_implied_by : List Str := ["links", "choice", "found", "fresh", "further", "one", "other"]
theorem sc_implied_by : FnScope N_implied_by ["links", "choice"] (defScope s_implied_by) := ⟨rfl, rfl, rfl, by decide +kernel, rfl, by decide +kernel, by decide +kernel⟩
abbrev s_path_to : Stmt := topS 39
abbrev N_path_to : List Str := ["found", "choice", "path"]
theorem sc_path_to : FnScope N_path_to ["found", "choice"] (defScope s_path_to) := ⟨rfl, rfl, rfl, by decide +kernel, rfl, by decide +kernel, by decide +kernel⟩
abbrev s_solved : Stmt := topS 40
abbrev N_solved : List Str := ["choices", "chosen", "links", "y", "closures", "way", "good", "found", "one", "first", "second", "z"]
theorem sc_solved : FnScope N_solved ["choices"] (defScope s_solved) := ⟨rfl, rfl, rfl, by decide +kernel, rfl, by decide +kernel, by decide +kernel⟩
abbrev s_arrangement_for : Stmt := topS 41
abbrev N_arrangement_for : List Str := ["size", "item", "person", "last", "chosen", "left", "y", "stay"]
theorem sc_arrangement_for : FnScope N_arrangement_for ["size", "item", "person", "last", "chosen"] (defScope s_arrangement_for) := ⟨rfl, rfl, rfl, by decide +kernel, rfl, by decide +kernel, by decide +kernel⟩
abbrev s_reach_right : Stmt := topS 42
abbrev N_reach_right : List Str := ["rankings", "item", "person", "tables", "block", "last", "choices", "chosen", "walk"]
theorem sc_reach_right : FnScope N_reach_right ["rankings", "item", "person"] (defScope s_reach_right) := ⟨rfl, rfl, rfl, by decide +kernel, rfl, by decide +kernel, by decide +kernel⟩
abbrev s_check_arguments : Stmt := topS 43
abbrev N_check_arguments : List Str := ["rankings", "item", "person"]
theorem sc_check_arguments : FnScope N_check_arguments ["rankings", "item", "person"] (defScope s_check_arguments) := ⟨rfl, rfl, rfl, by decide +kernel, rfl, by decide +kernel, by decide +kernel⟩
abbrev s_reach : Stmt := topS 44
abbrev N_reach : List Str := ["rankings", "item", "person", "last", "word", "value", "swap"]
theorem sc_reach : FnScope N_reach ["rankings", "item", "person"] (defScope s_reach) := ⟨rfl, rfl, rfl, by decide +kernel, rfl, by decide +kernel, by decide +kernel⟩
abbrev s_is_walk : Stmt := topS 45
abbrev N_is_walk : List Str := ["choices", "value", "choice", "one", "other"]
theorem sc_is_walk : FnScope N_is_walk ["choices", "value"] (defScope s_is_walk) := ⟨rfl, rfl, rfl, by decide +kernel, rfl, by decide +kernel, by decide +kernel⟩
abbrev s_is_reason : Stmt := topS 46
abbrev N_is_reason : List Str := ["choices", "value"]
theorem sc_is_reason : FnScope N_is_reason ["choices", "value"] (defScope s_is_reason) := ⟨rfl, rfl, rfl, by decide +kernel, rfl, by decide +kernel, by decide +kernel⟩
abbrev s_is_block : Stmt := topS 47
abbrev N_is_block : List Str := ["rankings", "item", "person", "value", "tables", "last", "pair"]
theorem sc_is_block : FnScope N_is_block ["rankings", "item", "person", "value"] (defScope s_is_block) := ⟨rfl, rfl, rfl, by decide +kernel, rfl, by decide +kernel, by decide +kernel⟩
abbrev s_blocks : Stmt := topS 48
abbrev N_blocks : List Str := ["rankings", "item", "person", "value", "last"]
theorem sc_blocks : FnScope N_blocks ["rankings", "item", "person", "value"] (defScope s_blocks) := ⟨rfl, rfl, rfl, by decide +kernel, rfl, by decide +kernel, by decide +kernel⟩
abbrev s_brings : Stmt := topS 49
abbrev N_brings : List Str := ["rankings", "item", "person", "value"]
theorem sc_brings : FnScope N_brings ["rankings", "item", "person", "value"] (defScope s_brings) := ⟨rfl, rfl, rfl, by decide +kernel, rfl, by decide +kernel, by decide +kernel⟩
abbrev s_check_reach : Stmt := topS 50
abbrev N_check_reach : List Str := ["rankings", "item", "person", "answer", "word", "value"]
theorem sc_check_reach : FnScope N_check_reach ["rankings", "item", "person", "answer"] (defScope s_check_reach) := ⟨rfl, rfl, rfl, by decide +kernel, rfl, by decide +kernel, by decide +kernel⟩
abbrev s__law_mixed : Stmt := topS 52
abbrev N__law_mixed : List Str := ["_law_cell", "_law_n", "_law_turned_here"]
theorem sc__law_mixed : FnScope N__law_mixed ["_law_cell", "_law_n"] (defScope s__law_mixed) := ⟨rfl, rfl, rfl, by decide +kernel, rfl, by decide +kernel, by decide +kernel⟩
abbrev s__law_folded : Stmt := topS 53
abbrev N__law_folded : List Str := ["_law_script", "_law_found", "_law_n", "_law_cell"]
theorem sc__law_folded : FnScope N__law_folded ["_law_script"] (defScope s__law_folded) := ⟨rfl, rfl, rfl, by decide +kernel, rfl, by decide +kernel, by decide +kernel⟩
abbrev s__law_draw : Stmt := topS 54
abbrev N__law_draw : List Str := ["_law_m", "_law_top", "_law_n", "_law_at", "_law_cell"]
theorem sc__law_draw : FnScope N__law_draw ["_law_m", "_law_top"] (defScope s__law_draw) := ⟨rfl, rfl, rfl, by decide +kernel, rfl, by decide +kernel, by decide +kernel⟩
abbrev s__law_begun : Stmt := topS 55
abbrev N__law_begun : List Str := ["_law_script", "_law_m", "_law_cell"]
theorem sc__law_begun : FnScope N__law_begun ["_law_script"] (defScope s__law_begun) := ⟨rfl, rfl, rfl, by decide +kernel, rfl, by decide +kernel, by decide +kernel⟩
abbrev s__law_mixed_up : Stmt := topS 56
abbrev N__law_mixed_up : List Str := ["_law_m", "_law_things", "_law_stock", "_law_found", "_law_n"]
theorem sc__law_mixed_up : FnScope N__law_mixed_up ["_law_m", "_law_things"] (defScope s__law_mixed_up) := ⟨rfl, rfl, rfl, by decide +kernel, rfl, by decide +kernel, by decide +kernel⟩
abbrev s__law_walked : Stmt := topS 57
abbrev N__law_walked : List Str := ["_law_m", "_law_many", "_law_row", "_law_held", "_law_moved", "_law_who", "_law_n", "_law_at", "_law_thing", "_law_far"]
theorem sc__law_walked : FnScope N__law_walked ["_law_m", "_law_many"] (defScope s__law_walked) := ⟨rfl, rfl, rfl, by decide +kernel, rfl, by decide +kernel, by decide +kernel⟩
abbrev s__law_lists : Stmt := topS 58
abbrev N__law_lists : List Str := ["_law_m", "_law_many", "_law_way", "_law_held", "_law_found", "_law_who", "_law_rest", "_law_thing", "_law_liked", "_law_cut", "_law_ranked"]
theorem sc__law_lists : FnScope N__law_lists ["_law_m", "_law_many"] (defScope s__law_lists) := ⟨rfl, rfl, rfl, by decide +kernel, rfl, by decide +kernel, by decide +kernel⟩
abbrev s__law_likes : Stmt := topS 59
abbrev N__law_likes : List Str := ["_law_lists_here", "_law_who", "_law_thing", "_law_far"]
theorem sc__law_likes : FnScope N__law_likes ["_law_lists_here", "_law_who", "_law_thing", "_law_far"] (defScope s__law_likes) := ⟨rfl, rfl, rfl, by decide +kernel, rfl, by decide +kernel, by decide +kernel⟩
abbrev s__law_may : Stmt := topS 60
abbrev N__law_may : List Str := ["_law_lists_here", "_law_row", "_law_at"]
theorem sc__law_may : FnScope N__law_may ["_law_lists_here", "_law_row", "_law_at"] (defScope s__law_may) := ⟨rfl, rfl, rfl, by decide +kernel, rfl, by decide +kernel, by decide +kernel⟩
abbrev s__law_after : Stmt := topS 61
abbrev N__law_after : List Str := ["_law_row", "_law_at"]
theorem sc__law_after : FnScope N__law_after ["_law_row", "_law_at"] (defScope s__law_after) := ⟨rfl, rfl, rfl, by decide +kernel, rfl, by decide +kernel, by decide +kernel⟩
abbrev s__law_moves : Stmt := topS 62
abbrev N__law_moves : List Str := ["_law_m", "_law_lists_here", "_law_row", "_law_many_steps", "_law_found", "_law_n", "_law_some", "_law_at"]
theorem sc__law_moves : FnScope N__law_moves ["_law_m", "_law_lists_here", "_law_row", "_law_many_steps"] (defScope s__law_moves) := ⟨rfl, rfl, rfl, by decide +kernel, rfl, by decide +kernel, by decide +kernel⟩
abbrev s__law_left_index : Stmt := topS 63
abbrev N__law_left_index : List Str := ["_law_lists_here", "_law_x", "_law_q", "_law_y", "_law_top", "_law_some", "_law_who"]
theorem sc__law_left_index : FnScope N__law_left_index ["_law_lists_here", "_law_x", "_law_q", "_law_y"] (defScope s__law_left_index) := ⟨rfl, rfl, rfl, by decide +kernel, rfl, by decide +kernel, by decide +kernel⟩
abbrev s__law_stay_index : Stmt := topS 64
abbrev N__law_stay_index : List Str := ["_law_lists_here", "_law_q", "_law_w", "_law_y", "_law_some", "_law_who"]
theorem sc__law_stay_index : FnScope N__law_stay_index ["_law_lists_here", "_law_q", "_law_w", "_law_y"] (defScope s__law_stay_index) := ⟨rfl, rfl, rfl, by decide +kernel, rfl, by decide +kernel, by decide +kernel⟩
abbrev s__law_index : Stmt := topS 65
abbrev N__law_index : List Str := ["_law_lists_here", "_law_x", "_law_q", "_law_w", "_law_pick"]
theorem sc__law_index : FnScope N__law_index ["_law_lists_here", "_law_x", "_law_q", "_law_w", "_law_pick"] (defScope s__law_index) := ⟨rfl, rfl, rfl, by decide +kernel, rfl, by decide +kernel, by decide +kernel⟩
abbrev s__law_counts : Stmt := topS 66
abbrev N__law_counts : List Str := ["_law_lists_here", "_law_x", "_law_q", "_law_w", "_law_pick", "_law_index_here", "_law_moved"]
theorem sc__law_counts : FnScope N__law_counts ["_law_lists_here", "_law_x", "_law_q", "_law_w", "_law_pick"] (defScope s__law_counts) := ⟨rfl, rfl, rfl, by decide +kernel, rfl, by decide +kernel, by decide +kernel⟩
abbrev s__law_wrong : Stmt := topS 67
abbrev N__law_wrong : List Str := ["_law_lists_here", "_law_x", "_law_q", "_law_w", "_law_pick", "_law_both"]
theorem sc__law_wrong : FnScope N__law_wrong ["_law_lists_here", "_law_x", "_law_q", "_law_w", "_law_pick"] (defScope s__law_wrong) := ⟨rfl, rfl, rfl, by decide +kernel, rfl, by decide +kernel, by decide +kernel⟩
abbrev s__law_clash : Stmt := topS 68
abbrev N__law_clash : List Str := ["_law_lists_here", "_law_x", "_law_q", "_law_w", "_law_pick", "_law_far", "_law_low", "_law_high", "_law_near", "_law_behind", "_law_at"]
theorem sc__law_clash : FnScope N__law_clash ["_law_lists_here", "_law_x", "_law_q", "_law_w", "_law_pick", "_law_far"] (defScope s__law_clash) := ⟨rfl, rfl, rfl, by decide +kernel, rfl, by decide +kernel, by decide +kernel⟩
abbrev s__law_turned : Stmt := topS 69
abbrev N__law_turned : List Str := ["_law_pick"]
theorem sc__law_turned : FnScope N__law_turned ["_law_pick"] (defScope s__law_turned) := ⟨rfl, rfl, rfl, by decide +kernel, rfl, by decide +kernel, by decide +kernel⟩
abbrev s__law_picks : Stmt := topS 70
abbrev N__law_picks : List Str := ["_law_x", "_law_w", "_law_y"]
theorem sc__law_picks : FnScope N__law_picks ["_law_x", "_law_w"] (defScope s__law_picks) := ⟨rfl, rfl, rfl, by decide +kernel, rfl, by decide +kernel, by decide +kernel⟩
abbrev s__law_mirrored : Stmt := topS 71
abbrev N__law_mirrored : List Str := ["_law_lists_here", "_law_top", "_law_thing", "_law_ranked"]
theorem sc__law_mirrored : FnScope N__law_mirrored ["_law_lists_here"] (defScope s__law_mirrored) := ⟨rfl, rfl, rfl, by decide +kernel, rfl, by decide +kernel, by decide +kernel⟩
abbrev s__law_accepted : Stmt := topS 72
abbrev N__law_accepted : List Str := ["_law_call", "_law_found", "_law_error", "e"]
theorem sc__law_accepted : FnScope N__law_accepted ["_law_call"] (defScope s__law_accepted) := ⟨rfl, rfl, rfl, by decide +kernel, rfl, by decide +kernel, by decide +kernel⟩
abbrev s__law_brings : Stmt := topS 73
abbrev N__law_brings : List Str := ["_law_lists_here", "_law_moves_here", "_law_thing", "_law_who", "_law_here", "_law_at"]
theorem sc__law_brings : FnScope N__law_brings ["_law_lists_here", "_law_moves_here", "_law_thing", "_law_who"] (defScope s__law_brings) := ⟨rfl, rfl, rfl, by decide +kernel, rfl, by decide +kernel, by decide +kernel⟩
abbrev s__law_is_walk : Stmt := topS 74
abbrev N__law_is_walk : List Str := ["_law_lists_here", "_law_x", "_law_q", "_law_w", "_law_path", "_law_pick", "_law_far"]
theorem sc__law_is_walk : FnScope N__law_is_walk ["_law_lists_here", "_law_x", "_law_q", "_law_w", "_law_path"] (defScope s__law_is_walk) := ⟨rfl, rfl, rfl, by decide +kernel, rfl, by decide +kernel, by decide +kernel⟩
abbrev s__law_is_block : Stmt := topS 75
abbrev N__law_is_block : List Str := ["_law_lists_here", "_law_x", "_law_q", "_law_block", "_law_pair", "_law_w", "_law_reason", "_law_is_good"]
theorem sc__law_is_block : FnScope N__law_is_block ["_law_lists_here", "_law_x", "_law_q", "_law_block"] (defScope s__law_is_block) := ⟨rfl, rfl, rfl, by decide +kernel, rfl, by decide +kernel, by decide +kernel⟩
abbrev s__law_right : Stmt := topS 76
abbrev N__law_right : List Str := ["_law_lists_here", "_law_thing", "_law_who", "_law_told", "_law_top"]
theorem sc__law_right : FnScope N__law_right ["_law_lists_here", "_law_thing", "_law_who"] (defScope s__law_right) := ⟨rfl, rfl, rfl, by decide +kernel, rfl, by decide +kernel, by decide +kernel⟩
abbrev s_law : Stmt := topS 77
abbrev N_law : List Str := ["_law_script", "_law_m", "_law_again", "_law_way", "_law_many", "_law_lists_here", "_law_row", "_law_n", "_law_thing", "_law_who", "_law_beside", "_law_far"]
theorem sc_law : FnScope N_law ["_law_script"] (defScope s_law) := ⟨rfl, rfl, rfl, by decide +kernel, rfl, by decide +kernel, by decide +kernel⟩
/-- what the top has left -/
structure Top (K : PySem.W.Frag) (mg : Str → Option Value) (C : Addr) : Prop where
  d_is_integer : Df K mg "is_integer" s_is_integer
  d_is_number_below : Df K mg "is_number_below" s_is_number_below
  d_is_ranking : Df K mg "is_ranking" s_is_ranking
  d_check_rankings : Df K mg "check_rankings" s_check_rankings
  d_check_person : Df K mg "check_person" s_check_person
  d_check_item : Df K mg "check_item" s_check_item
  d_mirrored_rankings : Df K mg "mirrored_rankings" s_mirrored_rankings
  d_rank_tables : Df K mg "rank_tables" s_rank_tables
  d_opposite : Df K mg "opposite" s_opposite
  d_is_choice : Df K mg "is_choice" s_is_choice
  d_check_arrangement : Df K mg "check_arrangement" s_check_arrangement
  d_check_fitting : Df K mg "check_fitting" s_check_fitting
  d_goals_of : Df K mg "goals_of" s_goals_of
  d_inversions_of : Df K mg "inversions_of" s_inversions_of
  d_is_allowed_there : Df K mg "is_allowed_there" s_is_allowed_there
  d_swapped : Df K mg "swapped" s_swapped
  d_history : Df K mg "history" s_history
  d_sequence_to : Df K mg "sequence_to" s_sequence_to
  d_all_choices : Df K mg "all_choices" s_all_choices
  d_implications : Df K mg "implications" s_implications
  d_implied_by : Df K mg "implied_by" s_implied_by
  d_path_to : Df K mg "path_to" s_path_to
  d_solved : Df K mg "solved" s_solved
  d_arrangement_for : Df K mg "arrangement_for" s_arrangement_for
  d_reach_right : Df K mg "reach_right" s_reach_right
  d_check_arguments : Df K mg "check_arguments" s_check_arguments
  d_reach : Df K mg "reach" s_reach
  d_is_walk : Df K mg "is_walk" s_is_walk
  d_is_reason : Df K mg "is_reason" s_is_reason
  d_is_block : Df K mg "is_block" s_is_block
  d_blocks : Df K mg "blocks" s_blocks
  d_brings : Df K mg "brings" s_brings
  d_check_reach : Df K mg "check_reach" s_check_reach
  d__law_mixed : Df K mg "_law_mixed" s__law_mixed
  d__law_folded : Df K mg "_law_folded" s__law_folded
  d__law_draw : Df K mg "_law_draw" s__law_draw
  d__law_begun : Df K mg "_law_begun" s__law_begun
  d__law_mixed_up : Df K mg "_law_mixed_up" s__law_mixed_up
  d__law_walked : Df K mg "_law_walked" s__law_walked
  d__law_lists : Df K mg "_law_lists" s__law_lists
  d__law_likes : Df K mg "_law_likes" s__law_likes
  d__law_may : Df K mg "_law_may" s__law_may
  d__law_after : Df K mg "_law_after" s__law_after
  d__law_moves : Df K mg "_law_moves" s__law_moves
  d__law_left_index : Df K mg "_law_left_index" s__law_left_index
  d__law_stay_index : Df K mg "_law_stay_index" s__law_stay_index
  d__law_index : Df K mg "_law_index" s__law_index
  d__law_counts : Df K mg "_law_counts" s__law_counts
  d__law_wrong : Df K mg "_law_wrong" s__law_wrong
  d__law_clash : Df K mg "_law_clash" s__law_clash
  d__law_turned : Df K mg "_law_turned" s__law_turned
  d__law_picks : Df K mg "_law_picks" s__law_picks
  d__law_mirrored : Df K mg "_law_mirrored" s__law_mirrored
  d__law_accepted : Df K mg "_law_accepted" s__law_accepted
  d__law_brings : Df K mg "_law_brings" s__law_brings
  d__law_is_walk : Df K mg "_law_is_walk" s__law_is_walk
  d__law_is_block : Df K mg "_law_is_block" s__law_is_block
  d__law_right : Df K mg "_law_right" s__law_right
  d_law : Df K mg "law" s_law
  m___init__ : Mf K C "__init__" "Choices.__init__" s_M___init__
  m_likes : Mf K C "likes" "Choices.likes" s_M_likes
  m_left_index : Mf K C "left_index" "Choices.left_index" s_M_left_index
  m_stay_index : Mf K C "stay_index" "Choices.stay_index" s_M_stay_index
  m_last_fits : Mf K C "last_fits" "Choices.last_fits" s_M_last_fits
  m_before : Mf K C "before" "Choices.before" s_M_before
  m_beyond : Mf K C "beyond" "Choices.beyond" s_M_beyond
  m_is_wrong : Mf K C "is_wrong" "Choices.is_wrong" s_M_is_wrong
  m_pass_each_other : Mf K C "pass_each_other" "Choices.pass_each_other" s_M_pass_each_other
  m_clash : Mf K C "clash" "Choices.clash" s_M_clash
  m_implies : Mf K C "implies" "Choices.implies" s_M_implies
  b_len : mg "len" = none
  b_range : mg "range" = none
  b_isinstance : mg "isinstance" = none
  b_int : mg "int" = none
  b_bool : mg "bool" = none
  b_tuple : mg "tuple" = none
  b_all : mg "all" = none
  b_any : mg "any" = none
  b_set : mg "set" = none
  b_enumerate : mg "enumerate" = none
  b_min : mg "min" = none
  b_max : mg "max" = none
  b_sorted : mg "sorted" = none
  b_list : mg "list" = none
  b_zip : mg "zip" = none
  b_str : mg "str" = none
  b_repr : mg "repr" = none
  g_LEFT : ∃ t, mg "LEFT" = some (.str "left" t)
  g_STAY : ∃ t, mg "STAY" = some (.str "stay" t)
  g_MAX_PEOPLE : ∃ t, mg "MAX_PEOPLE" = some (.int 40 t)
  g_Choices : mg "Choices" = some (.ref C)
  cl : Cls K C
  makes : ∃ (f : Addr) (fd : FuncData), Fun K "__init__" "Choices.__init__" s_M___init__ f fd ∧ Mk K C f
  nf_tables : NoAttr K C "tables"
  nf_item : NoAttr K C "item"
  nf_person : NoAttr K C "person"
  nf_last : NoAttr K C "last"
  nf_known : NoAttr K C "known"
end Sk

namespace Sk
open PySem PySem.Spec PyProof.Rows L2

section
variable {K : PySem.W.Frag} {σ : L2.St} {Hc H H' : Hp} {ta tb tc te : TE} {v : V} {P : V → Hp → Prop}
/-- isinstance of a value of a known built-in class -/
theorem v_isi {T1 T2 : String} {b : Bool} (ha : EvP ta σ Hc fun u B => ∀ H, Ex B H → TyX K H u (.type T1)) (hk : kitB T1 T2 = some b) : EvV (tCB (rIsi K) (tCons ta (tCons (tC (.ty T2)) tNil))) σ Hc (.bl b) := fun B H a e Q q =>
  ha B H a e _ fun u B1 H1 g1 p1 => ⟨u, .ty T2, .type T1, .type T2, b, rfl, .ty T2, p1 H1 g1.sub, kit_ty hk, q _ B1 H1 g1 rfl⟩
theorem ty_int {i : Int} : TyX K H (.int i) (.type "int") := .base (.int i)
theorem ty_str {x : Str} : TyX K H (.str x) (.type "str") := .base (.str x)
theorem ty_tup {a : Addr} {xs : List V} (e : H a = some (.tup xs)) : TyX K H (.ref a) (.type "tuple") := .base (.tup e)
end

/-! ### promises -/
def sp_is_integer : Sp := fun vs H Q _ => ∃ (B : Hp) (i : Int), vs = [.int i] ∧ Ex B H ∧ ∀ B1 H1, Go B H B1 H1 → Q (.bl true) H1
def sp_is_number_below : Sp := fun vs H Q _ => ∃ (B : Hp) (i n : Int), vs = [.int i, .int n] ∧ Ex B H ∧ ∀ B1 H1, Go B H B1 H1 → Q (.bl (decide (0 ≤ i) && decide (i < n))) H1

section
variable {P : Program} {w : World} {K : PySem.W.Frag} {mg : Str → Option Value} {base : Heap} {C : Addr} (T : Top K mg C)
include T
theorem cal_is_integer : Cal P w K mg base "is_integer" ["value"] 1 sp_is_integer := by
  refine T.d_is_integer.cal sc_is_integer (fun vs H Q E h => ?_) (fun _ _ _ _ _ _ us hl => match us, hl with | [_], _ => rfl) (fun f cdv A outer s H vs Q E hr h => ?_)
  · obtain ⟨B, i, rfl, _⟩ := h
    rfl
  · obtain ⟨B, i, rfl, ex, q⟩ := h
    refine ⟨_, (pss_one (ps_ret (pe_and (pe_callB call_isi (by rfl) T.b_isinstance (by decide +kernel) (pa_cons (pv 0) (pa_cons (pe_bltn (v := .ty "int") (by rfl) T.b_int (by decide +kernel) rfl) pa_nil))) (pe_one (pe_not (pe_callB call_isi (by rfl) T.b_isinstance (by decide +kernel) (pa_cons (pv 0) (pa_cons (pe_bltn (v := .ty "bool") (by rfl) T.b_bool (by decide +kernel) rfl) pa_nil)))))))), ?_⟩
    refine s_ret (v_and (v_isi (T1 := "int") (b := true) (e_var rfl fun _ _ _ _ => ty_int) (by decide +kernel)) fun _ => v_not (v_isi (T1 := "int") (b := false) (e_var rfl fun _ _ _ _ => ty_int) (by decide +kernel))) ex fun v B1 H1 g p => ?_
    rw [p]
    exact q B1 H1 g
theorem cal_is_number_below : Cal P w K mg base "is_number_below" ["value", "limit"] 2 sp_is_number_below := by
  refine T.d_is_number_below.cal sc_is_number_below (fun vs H Q E h => ?_) (fun _ _ _ _ _ _ us hl => match us, hl with | [_, _], _ => rfl) (fun f cdv A outer s H vs Q E hr h => ?_)
  · obtain ⟨B, i, n, rfl, _⟩ := h
    rfl
  · obtain ⟨B, i, n, rfl, ex, q⟩ := h
    refine ⟨_, (pss_one (ps_ret (pe_and ((cal_is_integer T).pe hr (by decide) rfl (pa_cons (pv 0) pa_nil)) (pe_one (pe_chain op_le op_lt pe_int (pv 0) (pv 1)))))), ?_⟩
    refine s_ret (v_and (a := true) (e_call (av_cons (v_var rfl) av_nil) fun vs B _ e => ?_) fun _ => v_chain v_c (v_var rfl) (fun _ _ => r_I0) (fun _ => v_var rfl) fun _ _ _ => r_I0) ex fun v B1 H1 g p => ?_
    · rw [e]
      exact fun B1 H1 a b Q q E => ⟨B1, i, rfl, b, fun B2 H2 g => q _ B2 H2 g rfl⟩
    · rw [p]
      exact q B1 H1 g
end
end Sk

/-! enumerate over a tuple; zip of a range and a tuple. -/
namespace Sk
open PySem PySem.Spec PyProof.Rows L2

theorem meets_enumT {v : Value} {o : Obj} {H : Heap → Prop} (B : Begins v o H) :
    Meets (Builtin.«enumerate.__new__» ⟨[.type "enumerate", v], []⟩) (fun _ R s => H s.heap ∧
      R (.ok (.ret (.ref (s.heap.push o).objs.size))) { s with heap := (s.heap.push o).push { cls := .type "enumerate", data := .fields #[.none, .bool false, .ref s.heap.objs.size, rawInt 0, .none, .none] } }) :=
  .of_wp fun prog w A R s h => by
    obtain ⟨hp, g, d, tk, os⟩ := s; obtain ⟨h1, h⟩ := h
    have hsub := sub_enumerate
    have q1 : ∀ {A' : Around} {E : Value → Shared → Prop} {Q : Value → Shared → Prop}, Q (.ref hp.objs.size) ⟨hp.push o, g, d, tk, os⟩ → wpAny (model prog w) A' (pyIter v) Q E ⟨hp, g, d, tk, os⟩ :=
      fun q => B.iter prog w _ _ ⟨hp, g, d, tk, os⟩ _ h1 q
    wp_walk using q1
    refine wpAny_stack_any fun st => wpAny_pure ?_
    split
    · rename_i c _ _ _ _ _
      cases (c == Value.type "enumerate")
      · wp_walk using q1
        exact ⟨_, rfl, h⟩
      · wp_walk using q1
        exact ⟨_, rfl, h⟩
    · wp_walk using q1
      exact ⟨_, rfl, h⟩

section
variable {prog : Program} {w : World} {A : Around} {E : Value → Shared → Prop} {s : Shared}
theorem call_enumerate_tup {l : Addr} {items : Array Value} {Q : Value → Shared → Prop} (hL : s.heap.IsTuple l items)
    (h : ∀ h', IsEnum h' (s.heap.objs.size + 1) s.heap.objs.size 0 .none → h'.IsTupleIter s.heap.objs.size l 0 → h'.objs.size = s.heap.objs.size + 2 →
      (∀ b o, s.heap.get? b = some o → h'.get? b = some o) → Q (.ref (s.heap.objs.size + 1)) { s with heap := h' }) :
    wpAny (model prog w) A (call (.type "enumerate") [.ref l]) Q E s := by
  refine callType_new F.called_enumerate (by decide) (F.typeCall_enumerate_1 _) (F.newCall_enumerate_1 _) (fun obj => F.args_object_init_2 obj _) F.entry_enumerate_new
    (meets_enumT (begins_tuple l items)) ⟨hL, ?_⟩
  have hz : (s.heap.push { cls := .type "tuple_iterator", data := .fields #[.ref l, .int 0 0] }).objs.size = s.heap.objs.size + 1 := Heap.size_push ..
  show _ ∧ _
  rw [hz]
  have he : IsEnum ((s.heap.push { cls := .type "tuple_iterator", data := .fields #[.ref l, .int 0 0] }).push
      { cls := .type "enumerate", data := .fields #[.none, .bool false, .ref s.heap.objs.size, rawInt 0, .none, .none] }) (s.heap.objs.size + 1) s.heap.objs.size 0 .none := by
    have := Heap.get?_push_size (s.heap.push { cls := .type "tuple_iterator", data := .fields #[.ref l, .int 0 0] })
      (o := { cls := .type "enumerate", data := .fields #[.none, .bool false, .ref s.heap.objs.size, rawInt 0, .none, .none] }) rfl
    rw [hz] at this; exact this
  refine ⟨⟨_, he, rfl⟩, h _ he ⟨_, Heap.get?_push_of_some _ (Heap.get?_push_size _ rfl), rfl, rfl⟩ (by rw [Heap.size_push, hz]) fun b o x => Heap.get?_push_of_some _ (Heap.get?_push_of_some _ x)⟩
end

section
variable {prog : Program} {w : World} {A : Around} {E : Value → Shared → Prop} {s : Shared}
theorem enum_endT {e it l : Addr} {i : Nat} {k : Int} {items : Array Value} {old : Value} {Q : Option Value → Shared → Prop} (hh : A.handled = none)
    (he : IsEnum s.heap e it k old) (hit : s.heap.IsTupleIter it l i) (hl : s.heap.IsTuple l items) (hx : items[i]? = none)
    (hQ : ∀ h', Heap.ExtBut it s.heap h' → Q none { s with heap := h' }) : wpAny (model prog w) A (pyNext (.ref e)) Q E s := by
  have hT : s.TypeIs (.ref e) "enumerate" := ⟨_, he, rfl⟩
  unfold pyNext
  refine wpAny_bind (wpAny_attempt (wpAny_callSpecial?_slot (name := Str.ofString "__next__") hT F.slot_enumerate_next
    (wpAny_call_entry F.slot_enumerate_next hT F.entry_enumerate_next ?_ (F.args_enumerate_next_1 _))))
  show wpAny _ _ (field (.ref e) 2 >>= _) _ _ _
  refine wpAny_bind (wpAny_field he rfl (x := .ref it) rfl ?_)
  refine wpAny_bind (wpAny_nextOf_tuple_end hh hit hl hx fun h' x he' hx' => ?_)
  obtain ⟨o, ho, hc⟩ := hx'
  refine wpAny_bind (wpAny_isInstance (T := "StopIteration") (b := true) ⟨o, ho, hc⟩ isSubtype_stop ?_)
  exact wpAny_pure (hQ _ he')
end

/-- the tuple at a, each item in a new pair -/
def IteT (K : PySem.W.Frag) (a : Addr) : It :=
  ⟨fun i H => ∃ (xs : List V) (x : V), SqT K H a xs ∧ xs[i]? = some x, fun i H v H' => ∃ T x, v = .ref T ∧ H T = none ∧ H' = upd H T (.tup [.int (i : Nat), x]) ∧ ∀ xs, SqT K H a xs → xs[i]? = some x, fun i H => ∃ xs : List V, SqT K H a xs ∧ xs.length ≤ i⟩
theorem turn_enumT {P : Program} {w : World} {K : PySem.W.Frag} {elts : List Expr} {kk : Nat} {tpos : Pos} (a e it : Addr) (hne2 : e ≠ it) (hea : e ≠ a) (hia : a ≠ it) :
    Turn P w K (.Tuple elts kk tpos) (IteT K a) [e, it] e (fun i h => (∃ old, IsEnum h e it ((i : Nat) : Int) old) ∧ h.IsTupleIter it a i) where
  mem := by simp
  obj := fun i h st b hb => by
    obtain ⟨⟨old, he⟩, ⟨o, ho, hc, hd⟩⟩ := st
    have e' : b = e ∨ b = it := by simpa using hb
    rcases e' with z | z
    · rw [z]; exact ⟨_, he, fun v q => nomatch q⟩
    · rw [z]; exact ⟨o, ho, fun v q => by rw [hd] at q; cases q⟩
  keep := fun i h h' st k => let ⟨⟨old, he⟩, hi⟩ := st; ⟨⟨old, k e (by simp) _ he⟩, hi.at fun o q => k it (by simp) o q⟩
  item := by
    intro X hP hw hK hc i pins s σ H E I hf st hg
    subst hP hw hK
    obtain ⟨⟨old, he⟩, hit⟩ := st
    obtain ⟨xs, x, hq, hx⟩ := hg
    obtain ⟨its, rv, p, hz⟩ := I.tuple hq
    obtain ⟨u, hu, ru⟩ := rv.get hx
    have hel : e < s.heap.objs.size := Heap.lt_size he
    have hil : it < s.heap.objs.size := by obtain ⟨_, q, _⟩ := hit; exact Heap.lt_size q
    have D := Draws.tuple (prog := X.prog) (w := X.w) (A := X.A.in1) (I.ok.hd hc) it a hia its.toArray
    have hlt : i < its.toArray.size := by
      have := (List.getElem?_eq_some_iff.mp hu).1
      rw [List.size_toArray]; exact this
    refine wpAny_pyNext_enum_itemD D he ⟨hit, p⟩ hlt hne2 (by simp [hne2, hea]) fun y h' tk hP ho hst' hT hsz hk => ?_
    have ey : y = u := by
      have hP : its.toArray[i]? = some y := hP
      rw [List.getElem?_toArray, hu] at hP
      exact (Option.some.inj hP).symm
    subst ey
    refine ⟨_, rfl, wpAny_letOwnedTupleGo_enum (s := { s with heap := h', toks := tk + 1 }) ho fun h'' he' sb => ?_⟩
    have hT2 : h''.get? s.heap.objs.size = some { cls := .type "tuple", data := .seq #[.int i tk, y] } := (sb.2 _ (Nat.ne_of_gt hel)).trans hT
    have new : ObjOk X.prog X.w (upd H s.heap.objs.size (.tup [.int (i : Nat), x])) h'' s.heap.objs.size (.tup [.int (i : Nat), x]) :=
      ⟨by show 2 ≤ sizeLine; decide, [.int i tk, y], .cons ⟨_, rfl⟩ (.cons ru .nil), ⟨_, hT2, rfl, _, rfl⟩⟩
    have I1 : Inv X pins σ (upd H s.heap.objs.size (.tup [.int (i : Nat), x])) { s with heap := h'', toks := tk + 1 } :=
      I.turnedNew (ch := [e, it]) (fun b ob hb q => (sb.2 b (fun z => hb (by simp [z]))).trans (hk b ob (fun z => hb (by simp [z])) (fun z => hb (by simp [z])) q)) hf (Nat.le_refl _) new
    refine ⟨.ref s.heap.objs.size, _, I1, rfl, ⟨_, x, rfl, I.hok.fresh (Nat.le_refl _), rfl, fun ys hy => by rw [I.tuple_inj hy hq]; exact hx⟩, ⟨⟨y, ?_⟩, hst'.1.at fun o q => (sb.2 it (Ne.symm hne2)).trans q⟩, fun b hb => ?_⟩
    · have e1 : ((i + 1 : Nat) : Int) = (i : Int) + 1 := by omega
      rw [e1]; exact he'
    · have hb' : b < s.heap.objs.size := by
        have e' : b = e ∨ b = it := by simpa using hb
        rcases e' with z | z
        · rw [z]; exact hel
        · rw [z]; exact hil
      rw [upd_ne (Nat.ne_of_lt hb')]
      exact (hf b hb).1
  done := by
    intro X hP hw hK hc i pins s σ H E I hf st hg
    subst hP hw hK
    obtain ⟨⟨old, he⟩, hit⟩ := st
    obtain ⟨xs, hq, hx⟩ := hg
    obtain ⟨its, rv, p, hz⟩ := I.tuple hq
    obtain ⟨f0, f1, f2, f3, f4, f5⟩ := hf it (by simp)
    have hl := rv.length
    exact enum_endT (I.ok.hd hc) he hit p (by simp; omega) fun h' eb => ⟨rfl, I.turned (t' := s.toks) (fun b o hb q => eb b o hb q) f0 f1 f3 f4 f5⟩
  self := fun A i s Q E st h => let ⟨⟨_, he⟩, _⟩ := st; wpAny_pyIter_enum he h

def iEnumT (K : PySem.W.Frag) (ta : TA) : TI := fun σ H R => ta σ H fun vs H1 => ∃ a xs, vs = [.ref a] ∧ SqT K H1 a xs ∧ R (IteT K a) H1
theorem pi_enumT {X : Cx} {e : Expr} {ta : TA} {p pos tpos : Pos} {elts : List Expr} {kk : Nat} (hg : Gl X "enumerate") (hm : X.mg "enumerate" = none) (ha : PA X [e] ta) (hs : starEach [e] X.env = [(false, eval e X.env)] := by rfl) :
    PI X (.Tuple elts kk tpos) (.Call (.Name "enumerate" p) [e] [] pos) (iEnumT X.K ta) := by
  refine ⟨fun pins s σ H R I h => ?_⟩
  refine Call_ (ld_blt I hg hm boot_enumerate (PyProof.Rows.callWith_type1 (thn (ha.run pos pins s σ H _ I h) fun us s1 ⟨vs, H1, I1, r1, q1⟩ => ?_) hs rfl))
  obtain ⟨a, xs, ex, hq, q⟩ := q1
  subst ex
  cases r1 with
  | cons r rr =>
    cases rr
    cases r
    obtain ⟨its, rv, p', hz⟩ := I1.tuple hq
    have hal : a < s1.heap.objs.size := by obtain ⟨_, z, _⟩ := p'; exact Heap.lt_size z
    refine call_enumerate_tup p' fun h' he hit hsz hk => wpAny_pyIter_enum he ?_
    have I2 : Inv X pins σ H1 { s1 with heap := h' } := I1.kept (t' := s1.toks) hk
    refine ⟨s1.heap.objs.size + 1, [s1.heap.objs.size + 1, s1.heap.objs.size], _, _, H1, rfl, I2, turn_enumT a (s1.heap.objs.size + 1) s1.heap.objs.size (Nat.succ_ne_self _) (Nat.ne_of_gt (Nat.lt_succ_of_lt hal)) (Nat.ne_of_lt hal), ⟨⟨.none, he⟩, hit⟩, fun b hb => ?_, q⟩
    have e' : b = s1.heap.objs.size + 1 ∨ b = s1.heap.objs.size := by simpa using hb
    have hle : s1.heap.objs.size ≤ b := by
      rcases e' with z | z
      · rw [z]; exact Nat.le_add_right _ _
      · rw [z]; exact Nat.le_refl _
    exact I1.fpOk hle (I1.hok.fresh hle)

/-! ### a range drawn -/
section
variable {prog : Program} {w : World} {A : Around} {E : Value → Shared → Prop} {s : Shared}
theorem nextOf_range_item {it : Addr} {x left step : Int} {Q : Value → Shared → Prop} (hit : IsRangeIter s.heap it x left step) (hleft : 0 < left)
    (hQ : ∀ h', IsRangeIter h' it (x + step) (left - 1) step → Heap.SameBut it s.heap h' → Q (.int x s.toks) { s with heap := h', toks := s.toks + 1 }) :
    wpAny (model prog w) A (Builtin.SmallTypes.nextOf (.ref it)) Q E s := by
  have hT : s.TypeIs (.ref it) "range_iterator" := ⟨_, hit, rfl⟩
  unfold Builtin.SmallTypes.nextOf
  refine wpAny_bind (wpAny_callSpecial?_slot (name := Str.ofString "__next__") hT F.slot_range_iterator_next
    (call_meets F.slot_range_iterator_next hT F.entry_range_iterator_next (F.args_range_iterator_next_1 _) (AutoRange.range_iterator___next___range_iterator_1 it x left step (by omega)) ⟨hit, ?_⟩))
  exact wpAny_pure (hQ _ (Heap.get?_update_self _ (Heap.get?_update_self _ hit rfl) rfl) ((Heap.SameBut.update ..).trans (Heap.SameBut.update ..)))
theorem nextOf_range_end {it : Addr} {x left step : Int} {Q : Value → Shared → Prop} (hh : A.handled = none) (hit : IsRangeIter s.heap it x left step) (hleft : left ≤ 0)
    (hE : ∀ h' e, Heap.ExtBut it s.heap h' → (∃ o, h'.get? e = some o ∧ o.cls = .type "StopIteration") → E (.ref e) { s with heap := h' }) : wpAny (model prog w) A (Builtin.SmallTypes.nextOf (.ref it)) Q E s := by
  have hT : s.TypeIs (.ref it) "range_iterator" := ⟨_, hit, rfl⟩
  unfold Builtin.SmallTypes.nextOf
  refine wpAny_bind (wpAny_callSpecial?_slot (name := Str.ofString "__next__") hT F.slot_range_iterator_next
    (wpAny_call_entry F.slot_range_iterator_next hT F.entry_range_iterator_next ?_ (F.args_range_iterator_next_1 _)))
  show wpAny _ _ (field (.ref it) 0 >>= _) _ _ s
  refine wpAny_bind (wpAny_field hit rfl (x := rawInt x) rfl ?_)
  show wpAny _ _ (field (.ref it) 1 >>= _) _ _ s
  refine wpAny_bind (wpAny_field hit rfl (x := rawInt left) rfl ?_)
  show wpAny _ _ (field (.ref it) 2 >>= _) _ _ s
  refine wpAny_bind (wpAny_field hit rfl (x := rawInt step) rfl ?_)
  show wpAny _ _ (if left ≤ 0 then _ else _) _ _ s
  rw [if_pos hleft]
  refine wpAny_bind (wpAny_rule ?_)
  refine wpAny_bind ?_
  show wpAny _ _ (newExc (.type "StopIteration") [] >>= _) _ _ _
  refine wpAny_bind ?_
  simp only [newExc, newTuple]
  refine wpAny_bind (wpAny_newObj_type ?_ (by size_fits))
  refine wpAny_bind (m := firstArgMember _ _) (wpAny_of_eq (a := Value.none) (by first | rfl | (simp only [firstArgMember]; rfl)) ?_)
  refine wpAny_newObj_type ?_ (by size_fits)
  simp only [raiseNew]
  refine wpAny_bind (wpAny_handled ?_)
  first | rw [show A.in1.handled = none from hh] | rw [hh]
  refine wpAny_bind (wpAny_pure (wpAny_throw ?_))
  exact hE _ _ (((Heap.ExtBut.refl it s.heap).push _).push _) ⟨_, Heap.get?_push_size _ rfl, rfl⟩
end
end Sk

namespace Sk
open PySem PySem.Spec PyProof.Rows L2

theorem Draws.rangeUp {prog : Program} {w : World} {A : Around} (hh : A.handled = none) (it : Addr) (lo : Int) (n : Nat) :
    Draws prog w A it [it] n (fun i v => ∃ t, v = .int (lo + (i : Nat)) t) (fun i h => i ≤ n ∧ IsRangeIter h it (lo + (i : Nat)) ((n : Int) - (i : Nat)) 1) where
  live := fun _ _ st => ⟨_, st.2⟩
  frame := fun _ _ _ st hk => ⟨st.1, hk it (by simp) _ st.2⟩
  item := fun i s Q E hi st hQ => by
    refine nextOf_range_item st.2 (by omega) fun h' hit' hs' => hQ _ h' _ ⟨_, rfl⟩ ⟨hi, ?_⟩ hs'
    have e1 : lo + ((i + 1 : Nat) : Int) = lo + (i : Nat) + 1 := by omega
    have e2 : (n : Int) - ((i + 1 : Nat) : Int) = (n : Int) - (i : Nat) - 1 := by omega
    rw [e1, e2]; exact hit'
  done := fun s Q E st hE => nextOf_range_end hh st.2 (by omega) hE

/-- lo, lo + 1, .. beside the tuple at b, n of both -/
def ItzRT (K : PySem.W.Frag) (lo : Int) (n : Nat) (b : Addr) : It :=
  ⟨fun i H => i < n ∧ ∃ ys : List V, SqT K H b ys ∧ ys.length = n, fun i H v H' => ∃ T y, v = .ref T ∧ H T = none ∧ H' = upd H T (.tup [.int (lo + (i : Nat)), y]) ∧ ∀ ys, SqT K H b ys → ys[i]? = some y, fun i H => i = n ∧ ∃ ys : List V, SqT K H b ys ∧ ys.length = n⟩
theorem turn_zipRT {P : Program} {w : World} {K : PySem.W.Frag} {elts : List Expr} {kk : Nat} {tpos : Pos} {lo : Int} {n : Nat} {b z TI TO i1 i2 : Addr} (S : ZipSep2 z TI TO i1 i2 [i1] [i2, b]) (hb : b ≠ i2) :
    Turn P w K (.Tuple elts kk tpos) (ItzRT K lo n b) [z, TI, TO, i1, i2] z (fun i h => IsZip h z TI TO .none ∧ IsTupOf2 h TI (.ref i1) (.ref i2) ∧ (∃ x y, IsTupOf2 h TO x y) ∧ (i ≤ n ∧ IsRangeIter h i1 (lo + (i : Nat)) ((n : Int) - (i : Nat)) 1) ∧ h.IsTupleIter i2 b i) where
  mem := by simp
  obj := fun i h st c hc => by
    obtain ⟨hz, hTI, ⟨x, y, hTO⟩, ⟨_, e1⟩, ⟨o2, e2, _, d2⟩⟩ := st
    have e' : c = z ∨ c = TI ∨ c = TO ∨ c = i1 ∨ c = i2 := by simpa using hc
    rcases e' with q | q | q | q | q
    · rw [q]; exact ⟨_, hz, fun v q => nomatch q⟩
    · rw [q]; exact ⟨_, hTI, fun v q => nomatch q⟩
    · rw [q]; exact ⟨_, hTO, fun v q => nomatch q⟩
    · rw [q]; exact ⟨_, e1, fun v q => nomatch q⟩
    · rw [q]; exact ⟨o2, e2, fun v q => by rw [d2] at q; cases q⟩
  keep := fun i h h' st k => by
    obtain ⟨hz, hTI, ⟨x, y, hTO⟩, ⟨h0, h1⟩, h2⟩ := st
    exact ⟨k z (by simp) _ hz, k TI (by simp) _ hTI, ⟨x, y, k TO (by simp) _ hTO⟩, ⟨h0, k i1 (by simp) _ h1⟩, h2.at fun o q => k i2 (by simp) o q⟩
  item := by
    intro X hP hw hK hc i pins s σ H E I hf st hg
    subst hP hw hK
    obtain ⟨hz, hTI, ⟨x0, y0, hTO⟩, h1, h2⟩ := st
    obtain ⟨hin, ys, hqy, hyl⟩ := hg
    obtain ⟨its2, rv2, p2, _⟩ := I.tuple hqy
    have hly := rv2.length
    have hy : ys[i]? = some (ys[i]'(by omega)) := List.getElem?_eq_getElem _
    obtain ⟨u2, hu2, ru2⟩ := rv2.get hy
    have hzl : z < s.heap.objs.size := Heap.lt_size hz
    have hh := I.ok.hd hc
    refine wpAny_pyNext_zipD2_item S (Draws.rangeUp (A := X.A.in1) hh i1 lo n) (Draws.tuple (A := X.A.in1) hh i2 b hb its2.toArray) hz hTI hTO h1 ⟨h2, p2⟩ hin (by rw [List.size_toArray]; omega)
      fun x1 x2 h' tk hx1 hx2 z' TO' h1' h2' hT hsz hk => ?_
    obtain ⟨t1, rfl⟩ := hx1
    have ey : x2 = u2 := by
      have hP : its2.toArray[i]? = some x2 := hx2
      rw [List.getElem?_toArray, hu2] at hP
      exact (Option.some.inj hP).symm
    subst ey
    refine ⟨_, rfl, wpAny_letOwnedTupleGo_zip (s := { s with heap := h', toks := tk }) z' fun h'' z'' sb => ?_⟩
    have hT2 : h''.get? s.heap.objs.size = some { cls := .type "tuple", data := .seq #[.int (lo + (i : Nat)) t1, x2] } := (sb.2 _ (Nat.ne_of_gt hzl)).trans hT
    have new : ObjOk X.prog X.w (upd H s.heap.objs.size (.tup [.int (lo + (i : Nat)), ys[i]'(by omega)])) h'' s.heap.objs.size (.tup [.int (lo + (i : Nat)), ys[i]'(by omega)]) :=
      ⟨by show 2 ≤ sizeLine; decide, [.int (lo + (i : Nat)) t1, x2], .cons ⟨_, rfl⟩ (.cons ru2 .nil), ⟨_, hT2, rfl, _, rfl⟩⟩
    have I1 : Inv X pins σ (upd H s.heap.objs.size (.tup [.int (lo + (i : Nat)), ys[i]'(by omega)])) { s with heap := h'', toks := tk } :=
      I.turnedNew (ch := [z, TI, TO, i1, i2]) (fun c o hb q => (sb.2 c (fun q' => hb (by simp [q']))).trans (hk c o (fun q' => hb (by simp [q'])) (fun q' => hb (by simp [q'])) (fun q' => hb (by simp [q'])) (fun q' => hb (by simp [q'])) q)) hf (Nat.le_refl _) new
    have n1z : i1 ≠ z := fun e => S.zf1 (by rw [e]; simp)
    have n2z : i2 ≠ z := fun e => S.zf2 (by rw [e]; simp)
    refine ⟨.ref s.heap.objs.size, _, I1, rfl, ⟨_, ys[i]'(by omega), rfl, I.hok.fresh (Nat.le_refl _), rfl, fun l hl => by rw [I.tuple_inj hl hqy]; exact hy⟩, ⟨z'', ?_, ⟨.int (lo + (i : Nat)) t1, x2, ?_⟩, ⟨h1'.1, ?_⟩, ?_⟩, fun c hcm => ?_⟩
    · exact (sb.2 _ S.TIz).trans (hk _ _ S.TIz S.TITO S.TIi1 S.TIi2 hTI)
    · exact (sb.2 _ S.TOz).trans TO'
    · exact (sb.2 _ n1z).trans h1'.2
    · exact h2'.1.at fun o q => (sb.2 _ n2z).trans q
    · have hlt : c < s.heap.objs.size := by
        have e' : c = z ∨ c = TI ∨ c = TO ∨ c = i1 ∨ c = i2 := by simpa using hcm
        rcases e' with q | q | q | q | q
        · rw [q]; exact hzl
        · rw [q]; exact Heap.lt_size hTI
        · rw [q]; exact Heap.lt_size hTO
        · rw [q]; exact Heap.lt_size h1.2
        · rw [q]; obtain ⟨_, e2, _⟩ := h2; exact Heap.lt_size e2
      rw [upd_ne (Nat.ne_of_lt hlt)]
      exact (hf c hcm).1
  done := by
    intro X hP hw hK hc i pins s σ H E I hf st hg
    subst hP hw hK
    obtain ⟨hz, hTI, ⟨x0, y0, hTO⟩, h1, h2⟩ := st
    obtain ⟨ein, ys, hqy, hyl⟩ := hg
    obtain ⟨its2, rv2, p2, _⟩ := I.tuple hqy
    have l2 := rv2.length
    have hh := I.ok.hd hc
    exact wpAny_pyNext_zipD2_end S (Draws.rangeUp (A := X.A.in1) hh i1 lo n) (Draws.tuple (A := X.A.in1) hh i2 b hb its2.toArray) hz hTI hTO h1 ⟨h2, p2⟩ (by omega) (by rw [List.size_toArray]; omega) (.inl ein) fun h' tk hk =>
      ⟨rfl, I.turnedL (t' := tk) (ch := [z, TI, TO, i1, i2]) (fun c o hb q => hk c o (fun q' => hb (by simp [q'])) (fun q' => hb (by simp [q'])) (fun q' => hb (by simp [q'])) (fun q' => hb (by simp [q'])) q) hf⟩
  self := fun A i s Q E st h => wpAny_pyIter_zip st.1 h

theorem begins_range (r : Addr) (a b : Int) (n : Nat) (t u v : Tok) (hs : Builtin.Range.small a b 1 = true) (hn : Builtin.Range.rangeSize a b 1 = n) : Begins (.ref r) { cls := .type "range_iterator", data := .fields #[rawInt a, rawInt n, rawInt 1] } fun h => IsRange h r a b 1 t u v where
  iter := fun prog w A E s Q hr h => wpAny_pyIter_range hr hs (by rw [hn]; exact h)
  keeps := fun h h' x hk => hk r _ x
  free := rfl

def iZipRT (K : PySem.W.Frag) (ta : TA) (tb : TE) : TI := fun σ H R => ta σ H fun vs H1 => ∃ lo hi : Int, vs = [.int lo, .int hi] ∧ RgOk lo hi ∧ tb σ H1 fun y H2 => ∃ b ys, y = .ref b ∧ SqT K H2 b ys ∧ ys.length = (hi - lo).toNat ∧ R (ItzRT K lo (hi - lo).toNat b) H2
theorem pi_zipRT {X : Cx} {a b e2 : Expr} {ta : TA} {tb : TE} {p pos tpos p2 pos2 : Pos} {elts : List Expr} {kk : Nat} (hg : Gl X "zip") (hm : X.mg "zip" = none) (hg2 : Gl X "range") (hm2 : X.mg "range" = none) (ha : PA X [a, b] ta) (h2 : PE X e2 tb)
    (na : starEach [.Call (.Name "range" p2) [a, b] [] pos2, e2] X.env = (false, eval (.Call (.Name "range" p2) [a, b] [] pos2) X.env) :: starEach [e2] X.env := by rfl) (nb : starEach [e2] X.env = (false, eval e2 X.env) :: starEach [] X.env := by rfl) (hpl : (backTo pos (starEach [e2] X.env)).any (·.1) = false := by rfl)
    (hs : starEach [a, b] X.env = [(false, eval a X.env), (false, eval b X.env)] := by rfl) (hs2 : starEach [b] X.env = [(false, eval b X.env)] := by rfl) :
    PI X (.Tuple elts kk tpos) (.Call (.Name "zip" p) [.Call (.Name "range" p2) [a, b] [] pos2, e2] [] pos) (iZipRT X.K ta tb) := by
  refine ⟨fun pins s σ H R I h => ?_⟩
  refine Call_ (ld_blt I hg hm PyProof.Rows.boot_zip (PyProof.Rows.callWith_type1 (args_cons ?_ na) na hpl))
  refine Call_ (ld_blt I hg2 hm2 boot_range (PyProof.Rows.callWith_type1 (thn (ha.run pos2 pins s σ H _ I h) fun us s1 ⟨vs, H1, I1, r1, q1⟩ => ?_) (by rw [hs, hs2]) (by rw [hs2]; rfl)))
  obtain ⟨lo, hi, e, ok, q⟩ := q1
  subst e
  cases r1 with
  | cons r rr =>
    cases rr with
    | cons r' rr =>
      cases rr
      obtain ⟨t, rfl⟩ := r
      obtain ⟨t', rfl⟩ := r'
      refine call_range_2 ?_
      obtain ⟨b1, b2, b3, b4, b5⟩ := ok
      have I2 : Inv X (pins ++ [(s1.heap.objs.size, { cls := .type "range", data := .fields #[.int lo t, .int hi t', .int 1 s1.toks] })]) σ H1 { s1 with heap := s1.heap.push { cls := .type "range", data := .fields #[.int lo t, .int hi t', .int 1 s1.toks] }, toks := s1.toks + 1 } := by
        have I2 : Inv X pins σ H1 { s1 with heap := s1.heap.push { cls := .type "range", data := .fields #[.int lo t, .int hi t', .int 1 s1.toks] }, toks := s1.toks + 1 } := I1.kept fun b o e => Heap.get?_push_of_some _ e
        refine I2.pins_of fun p hp => ?_
        rcases List.mem_append.mp hp with z | z
        · exact I2.pin p (List.mem_append_right _ z)
        · have e := List.mem_singleton.mp z
          subst e
          exact ⟨Heap.get?_push_size _ rfl, I1.hok.fresh (Nat.le_refl _), Nat.ne_of_gt I1.lt, I1.nofs (Nat.le_refl _), fun v z => nomatch z⟩
      refine one_arg h2 I2 q (fun u s2 y H2 I3 r2 q => ?_) nb
      obtain ⟨b, ys, ey, hq, hyl, q⟩ := q
      subst ey
      cases r2
      obtain ⟨its2, rv2, p2, _⟩ := I3.tuple hq
      obtain ⟨o2, ho2, _⟩ := id p2
      have hr : IsRange s2.heap s1.heap.objs.size lo hi 1 t t' s1.toks := (I3.pin _ (List.mem_append_right _ (List.mem_append_right _ (List.mem_singleton.mpr rfl)))).1
      have I4 : Inv X pins σ H2 s2 := I3.unpinned
      have hbl : b < s2.heap.objs.size := Heap.lt_size ho2
      refine zip_begins2 (begins_range s1.heap.objs.size lo hi (hi - lo).toNat t t' s1.toks (small_one b1 b2 b3 b4) (rangeSize_nat lo hi)) (begins_tuple b its2.toArray) hr p2 fun h' hz hTI hTO h1 h2' hsz hk => wpAny_pyIter_zip hz ?_
      have I5 : Inv X pins σ H2 { s2 with heap := h' } := I4.kept (t' := s2.toks) hk
      refine ⟨s2.heap.objs.size + 4, [s2.heap.objs.size + 4, s2.heap.objs.size + 2, s2.heap.objs.size + 3, s2.heap.objs.size, s2.heap.objs.size + 1], _, _, H2, rfl, I5, turn_zipRT (n := (hi - lo).toNat) (lo := lo) ?_ (Nat.ne_of_lt (Nat.lt_succ_of_lt hbl)),
        ⟨hz, hTI, ⟨_, _, hTO⟩, ⟨Nat.zero_le _, ?_⟩, ⟨_, h2', rfl, rfl⟩⟩, fun c hcm => ?_, q⟩
      · have f : ∀ k : Nat, b ≠ s2.heap.objs.size + k := fun k => Nat.ne_of_lt (Nat.lt_of_lt_of_le hbl (Nat.le_add_right _ _))
        have g : ∀ j k : Nat, j ≠ k → s2.heap.objs.size + j ≠ s2.heap.objs.size + k := fun j k h e => h (Nat.add_left_cancel e)
        have g0 : ∀ k : Nat, k ≠ 0 → s2.heap.objs.size + k ≠ s2.heap.objs.size := fun k h e => h (by have := Nat.add_left_cancel (show s2.heap.objs.size + k = s2.heap.objs.size + 0 from e); exact this)
        exact ⟨g _ _ (by decide), g _ _ (by decide), g _ _ (by decide), g0 _ (by decide), by simp, by simp, by simp, g _ _ (by decide), by simp, fun z => by
          rcases List.mem_cons.mp z with z | z
          · exact g _ _ (by decide) z
          · exact f 4 (List.mem_singleton.mp z).symm, fun z => by
          rcases List.mem_cons.mp z with z | z
          · exact g _ _ (by decide) z
          · exact f 3 (List.mem_singleton.mp z).symm, fun z => by
          rcases List.mem_cons.mp z with z | z
          · exact g0 1 (by decide) z.symm
          · exact f 0 (List.mem_singleton.mp z).symm, fun z => g0 1 (by decide) (List.mem_singleton.mp z)⟩
      · have e1 : lo + ((0 : Nat) : Int) = lo := by simp
        have e2 : (((hi - lo).toNat : Nat) : Int) - ((0 : Nat) : Int) = ((hi - lo).toNat : Nat) := by simp
        rw [e1, e2]; exact h1
      · have e' : c = s2.heap.objs.size + 4 ∨ c = s2.heap.objs.size + 2 ∨ c = s2.heap.objs.size + 3 ∨ c = s2.heap.objs.size ∨ c = s2.heap.objs.size + 1 := by simpa using hcm
        have hle : s2.heap.objs.size ≤ c := by
          rcases e' with z | z | z | z | z
          · rw [z]; exact Nat.le_add_right _ _
          · rw [z]; exact Nat.le_add_right _ _
          · rw [z]; exact Nat.le_add_right _ _
          · rw [z]; exact Nat.le_refl _
          · rw [z]; exact Nat.le_add_right _ _
        exact I4.fpOk hle (I4.hok.fresh hle)
end Sk

/-! a tuple backwards; o.f as a target among several; len(set(t)); t.index(n). -/
namespace Sk
open PySem PySem.Spec PyProof.Rows L2

section
variable {prog : Program} {w : World} {A : Around} {E : Value → Shared → Prop} {s : Shared}
theorem sliceApplied_rev {sl : Addr} {t : Tok} {n : Nat} {Q : Int × Int × Nat → Shared → Prop} (hs : s.heap.IsSliceOf sl .none .none (.int (-1) t))
    (h : Q ((n : Int) - 1, -1, n) s) : wpAny (model prog w) A (Builtin.Slice.sliceApplied (.ref sl) (pure (n : Int))) Q E s := by
  obtain ⟨os, hos, hcs, hds⟩ := id hs
  unfold Builtin.Slice.sliceApplied Builtin.Slice.sliceFields
  refine wpAny_bind (wpAny_bind (wpAny_field hos hds (x := .none) rfl (wpAny_bind (wpAny_field hos hds (x := .none) rfl (wpAny_bind (wpAny_field hos hds (x := .int (-1) t) rfl (wpAny_pure ?_)))))))
  refine wpAny_bind (HT.slicePart_ (.int (-1) t) ?_)
  show wpAny _ _ (if ((-1 : Int) == 0) = true then _ else _) _ _ s
  rw [if_neg (by decide)]
  refine wpAny_bind (HT.slicePart_ .none (wpAny_bind (HT.slicePart_ .none (wpAny_bind (wpAny_pure ?_)))))
  show wpAny _ _ (match Builtin.Slice.sliceAdjust none none (-1) (n : Int) with | (lo, hi) => pure (lo, (-1 : Int), Builtin.Slice.slicePlaces lo hi (-1))) _ _ s
  have e : Builtin.Slice.sliceAdjust none none (-1) (n : Int) = ((n : Int) - 1, -1) := by
    unfold Builtin.Slice.sliceAdjust
    simp
  rw [e]
  have e2 : Builtin.Slice.slicePlaces ((n : Int) - 1) (-1) (-1) = n := by
    unfold Builtin.Slice.slicePlaces
    simp
    omega
  show wpAny _ _ (pure ((n : Int) - 1, (-1 : Int), Builtin.Slice.slicePlaces ((n : Int) - 1) (-1) (-1))) _ _ s
  rw [e2]
  exact wpAny_pure h
theorem pick_rev (xs : Array Value) : ((List.range xs.size).filterMap fun (m : Nat) => xs[((xs.size : Int) - 1 + (m : Int) * (-1)).toNat]?).toArray = xs.toList.reverse.toArray := by
  congr 1
  have e : (List.range xs.size).map (fun (m : Nat) => xs[((xs.size : Int) - 1 + (m : Int) * (-1)).toNat]?) = xs.toList.reverse.map some := by
    refine List.ext_getElem? fun i => ?_
    rw [List.getElem?_map, List.getElem?_map]
    by_cases hi : i < xs.size
    · rw [List.getElem?_range hi, List.getElem?_reverse (by rw [Array.length_toList]; exact hi), Array.length_toList]
      show some (xs[((xs.size : Int) - 1 + (i : Int) * (-1)).toNat]?) = _
      have e1 : ((xs.size : Int) - 1 + (i : Int) * (-1)).toNat = xs.size - 1 - i := by omega
      rw [e1, Array.getElem?_toList]
      rw [Array.getElem?_eq_getElem (by omega)]
      rfl
    · rw [List.getElem?_eq_none (by rw [List.length_range]; omega), List.getElem?_eq_none (by rw [List.length_reverse, Array.length_toList]; omega)]
      rfl
  have e3 : ((List.range xs.size).map (fun (m : Nat) => xs[((xs.size : Int) - 1 + (m : Int) * (-1)).toNat]?)).filterMap id = (xs.toList.reverse.map some).filterMap id := by rw [e]
  rw [List.filterMap_map, List.filterMap_map] at e3
  have e4 : (id ∘ some : Value → Option Value) = some := rfl
  rw [e4, List.filterMap_some] at e3
  exact e3
theorem getItem_tuple_rev {t sl : Addr} {items : Array Value} {tk : Tok} {Q : Value → Shared → Prop} (ht : IsTup s.heap t items) (hs : s.heap.IsSliceOf sl .none .none (.int (-1) tk))
    (h : Q (.ref s.heap.objs.size) { s with heap := s.heap.push { cls := .type "tuple", data := .seq items.toList.reverse.toArray } })
    (hsz : items.size ≤ sizeLine) : wpAny (model prog w) A (getItem (.ref t) (.ref sl)) Q E s := by
  have htake : sizeOk (.seq items.toList.reverse.toArray) := by
    show items.toList.reverse.toArray.size ≤ sizeLine
    rw [List.size_toArray, List.length_reverse, Array.length_toList]
    exact hsz
  obtain ⟨os, hos, hcs, hds⟩ := id hs
  have hTs : s.TypeIs (.ref sl) "slice" := ⟨os, hos, hcs⟩
  unfold getItem
  try with_reducible refine wpAny_holding ?_
  first | refine wpAny_bind (wpAny_pure ?_) | skip
  refine wpAny_bind (wpAny_sequenceKey ht.typeIs (by decide) ?_)
  refine wpAny_bind (wpAny_callSpecial?_slot (name := Str.ofString "__getitem__") ht.typeIs PyProof.Rows.slot_tuple_getitem
    (wpAny_call_entry PyProof.Rows.slot_tuple_getitem ht.typeIs entry_tuple_getitem ?_ (args_tuple_getitem _ _)))
  show wpAny _ _ (Builtin.Tuple.tupleItemsOf (.ref t) >>= _) _ _ s
  refine wpAny_bind (tupleItemsOf_ ht ?_)
  refine wpAny_bind (wpAny_typeOf hTs ?_)
  rw [if_pos (by decide)]
  refine wpAny_bind (sliceApplied_rev hs ?_)
  show wpAny _ _ (if ((((items.size : Int) - 1) == 0 && (-1 : Int) == 1 && items.size == items.size)) = true then _ else _) _ _ s
  rw [if_neg (by rw [show ((-1 : Int) == 1) = false by decide, Bool.and_false, Bool.false_and]; decide), pick_rev]
  first
    | exact wpAny_bind (m := Builtin.Tuple.tupleExact _) (wpAny_newObj_type (wpAny_pure ⟨_, rfl, wpAny_pure h⟩) htake)
    | exact wpAny_bind (m := Builtin.Tuple.tupleExact _) (wpAny_newObj_type (wpAny_bind (wpAny_pure (wpAny_pure ⟨_, rfl, wpAny_pure h⟩))) htake)
    | exact wpAny_bind (wpAny_bind (m := Builtin.Tuple.tupleExact _) (wpAny_newObj_type (wpAny_pure (wpAny_pure ⟨_, rfl, wpAny_pure h⟩)) htake))
    | exact wpAny_bind (wpAny_bind (m := Builtin.Tuple.tupleExact _) (wpAny_newObj_type (wpAny_pure ⟨_, rfl, wpAny_pure h⟩) htake))
end

section
variable {X : Cx}
def tRevT (K : PySem.W.Frag) (te : TE) : TE := fun σ H Q => te σ H fun x H1 => ∃ a xs, x = .ref a ∧ SqT K H1 a xs ∧ ∀ p, H1 p = none → Q (.ref p) (upd H1 p (.tup xs.reverse))
theorem pe_revT {e : Expr} {te : TE} {k : Nat} {p1 p2 p3 pos : Pos} (he : PE X e te) : PE X (.Subscript e (.Slice none none (some (.UnaryOp .USub (.Constant (.int 1) k p1) p2)) p3) pos) (tRevT X.K te) := by
  refine ⟨fun pins s σ H Q I h => ?_⟩
  refine Subscript_ (thn (he.run pins s σ H _ I h) fun v s1 ⟨x, H1, I1, r1, q1⟩ => ?_)
  obtain ⟨a, xs, ex, hx, q⟩ := q1
  subst ex
  cases r1
  have hst : PO X (some (.UnaryOp .USub (.Constant (.int 1) k p1) p2)) (tPart (tUn (rU fun i => .int (-i)) (tC (.int 1)))) := po_some (pe_un un_neg pe_int)
  refine wpAny_Slice (thn (po_none.run pins s1 σ H1 (fun o H2 => o = none ∧ H2 = H1) I1 ⟨rfl, rfl⟩) fun vl s2 ⟨l, H2, I2, pl, el, e2⟩ => ?_)
  subst el e2
  refine thn (po_none.run pins s2 σ H2 (fun o H3 => o = none ∧ H3 = H2) I2 ⟨rfl, rfl⟩) fun vu s3 ⟨u, H3, I3, pu, eu, e3⟩ => ?_
  subst eu e3
  refine thn (hst.run pins s3 σ H3 (fun o H4 => o = some (-1) ∧ H4 = H3) I3 ⟨1, rfl, -1, rfl, rfl, rfl⟩) fun vs s4 ⟨o, H4, I4, ps, eo, e4⟩ => ?_
  subst eo e4
  cases pl
  cases pu
  cases ps with
  | int i t =>
  have I5 : Inv X pins σ H4 { s4 with heap := s4.heap.push { cls := .type "slice", data := .fields #[.none, .none, .int (-1) t] } } := I4.kept (t' := s4.toks) fun b ob q => Heap.get?_push_of_some _ q
  obtain ⟨its, r, ht, hz⟩ := I5.tuple hx
  have hlen := r.length
  show wpAny (model X.prog X.w) X.A (subscriptTail e (.Slice none none (some (.UnaryOp .USub (.Constant (.int 1) k p1) p2)) p3) (.ref a) (.ref s4.heap.objs.size)) (EP X pins σ Q) X.xe { s4 with heap := s4.heap.push { cls := .type "slice", data := .fields #[.none, .none, .int (-1) t] } }
  refine tail_any (ops := [.ref a, .ref s4.heap.objs.size]) ht.typeIs (PyProof.Rows.slot_tuple_getitem.lookup) ?_ (by with_unfolding_all rfl)
  refine getItem_tuple_rev ht (Heap.IsSliceOf.new _ .none .none (.int (-1) t)) ?_ (by rw [List.size_toArray]; omega)
  refine ⟨.ref _, _, I5.laid (t' := s4.toks) (o := .tup xs.reverse) (fun b ob q => Heap.get?_push_of_some _ q) (Nat.le_refl _) ?_, rfl, q _ (I5.hok.fresh (Nat.le_refl _))⟩
  exact ⟨by rw [List.length_reverse]; exact hz, _, r.reverse, ⟨_, Heap.get?_push_size _ rfl, rfl, _, rfl⟩⟩

/-- o.f as one of several targets -/
def gFld (K : PySem.W.Frag) (to : TE) (f : Str) : TG := fun v σ H Q => to σ H fun x H1 => ∃ a C dx fs, x = .ref a ∧ H1 a = some (.ins C dx fs) ∧ Cls K C ∧ NoAttr K C f ∧ fs.length < 1000 ∧ Q σ (upd H1 a (.ins C dx (putF f v fs)))
theorem pg_fld {o : Expr} {to : TE} {f : Str} {pos : Pos} (ho : PE X o to) : PG X (.Attribute o f pos) (gFld X.K to f) := by
  refine ⟨fun pins s σ H v u Q I r h => ?_⟩
  rw [show assign (.Attribute o f pos) X.env u = (do
    let ov ← holding [u] (eval o X.env)
    standAt pos.atName
    holding [u, ov] (setAttr ov f u)
    release [u, ov] []) from by unfold assign; rfl]
  refine wpAny_bind (wpAny_holding (thn (ho.run pins s σ H _ I h) fun ov s1 ⟨x, H1, I1, r1, a, C, dx, fs, ex, ea, c, n, l, q⟩ => ?_))
  subst ex
  obtain rfl : ov = Value.ref a := r1
  refine wpAny_bind (wpAny_standAt (wpAny_bind (wpAny_holding (setattr_ok I1 ea c n l r fun s3 I3 => ?_))))
  exact wpAny_release ⟨σ, _, I3, q⟩

/-- len(set(t)), t a tuple of different ints -/
def tLenSetT (K : PySem.W.Frag) (ta : TE) : TE := fun σ H Q => ta σ H fun x H1 => ∃ (l : Addr) (ns : List Int), x = .ref l ∧ SqT K H1 l (ns.map V.int) ∧ ns.Nodup ∧ ns.length ≤ 4000 ∧ Q (.int (ns.length : Nat)) H1
theorem mem_len {ns ms : List Int} (h1 : ns.Nodup) (h2 : ms.Nodup) (h : ∀ j, j ∈ ns ↔ j ∈ ms) : ns.length = ms.length :=
  Nat.le_antisymm (Sw.nodup_len h1 fun a ha => (h a).mp ha) (Sw.nodup_len h2 fun a ha => (h a).mpr ha)
theorem pe_lenSetT {a : Expr} {ta : TE} {p p2 q pos : Pos} (hg : Gl X "len") (hm : X.mg "len" = none) (hg2 : Gl X "set") (hm2 : X.mg "set" = none) (ha : PE X a ta) (hc : X.calm = true := by rfl)
    (na : starEach [a] X.env = (false, eval a X.env) :: starEach [] X.env := by rfl) : PE X (.Call (.Name "len" p) [.Call (.Name "set" p2) [a] [] q] [] pos) (tLenSetT X.K ta) := by
  refine ⟨fun pins s σ H Q I h => ?_⟩
  refine Call_ (ld_blt I hg hm boot_len ?_)
  refine PyProof.Rows.callWith_builtin1 (PyProof.Rows.args_cons ?_ rfl) rfl rfl
  refine Call_ (ld_blt I hg2 hm2 boot_set ?_)
  refine PyProof.Rows.callWith_type1 (PyProof.Rows.args_cons (thn (ha.run pins s σ H _ I h) fun v s1 ⟨x, H1, I1, r1, q1⟩ => PyProof.Rows.args_nil ?_) na) na rfl
  obtain ⟨l, ns, rfl, hq, hnd, hl, q1⟩ := q1
  cases r1
  obtain ⟨its, r, pl, hz⟩ := I1.tuple hq
  have hlen : its.toArray.size = ns.length := by rw [List.size_toArray, ← r.length, List.length_map]
  refine call_set_tupI ns (I1.ok.hd hc) pl (by simpa using RZ.intsAre_vals r) (by unfold scanBound; omega) fun h' tk c hS hcn hk => ?_
  refine PyProof.Rows.args_nil ?_
  obtain ⟨o, es, ep, t, ho, hex, hdt, g, nd, hm2, hb, hf, hn, hr, hl2⟩ := hS
  have I2 : Inv X pins σ H1 { s1 with heap := h', toks := tk } := I1.kept fun b o e => hk b o e
  have hsz : es.size = ns.length := by
    rw [← Array.length_toList, ← List.length_map (f := keyOf)]
    exact mem_len nd hnd fun j => by rw [← hm2 j, decide_eq_true_eq]
  exact call_len_set ho hex hdt hf (by omega) ⟨.int ns.length, H1, I2.tok _, ⟨_, by rw [hsz]⟩, q1⟩
/-- t.index(n), t a tuple of ints, n its j-th and none ahead of it -/
theorem mt_tup_indexI : MtR X "tuple.index" (fun x xs H Q => ∃ p, ∃ ys : List Int, ∃ z j, x = .ref p ∧ xs = [.int z] ∧ SqT X.K H p (ys.map V.int) ∧ ys[j]? = some z ∧ (∀ m, m < j → ys[m]? ≠ some z) ∧ Q (.int (j : Nat)) H) := by
  intro pins s σ H x xs v us Q I rx rs h
  obtain ⟨p, ys, z, j, rfl, rfl, hq, hy, hno, q⟩ := h
  cases rx
  obtain ⟨u, rfl, t, rfl⟩ := vals1 rs
  obtain ⟨its, r, pl, hz⟩ := I.tuple hq
  obtain ⟨⟨cls, dd, dt, sl⟩, ho, hc, n, hd⟩ := pl
  simp only at hc hd
  subst hc
  subst hd
  have hl : its.toArray.size = ys.length := by rw [List.size_toArray, ← r.length, List.length_map]
  have hj : j < its.toArray.size := by rw [hl]; exact (List.getElem?_eq_some_iff.mp hy).1
  have at' : ∀ (m : Nat) (hm : m < its.toArray.size), ∃ y t', ys[m]? = some y ∧ its.toArray[m] = Value.int y t' := fun m hm => by
    have hm' : m < ys.length := by rw [← hl]; exact hm
    obtain ⟨w, hw, t', hw'⟩ := r.get (i := m) (x := .int ys[m]) (by simp [hm'])
    refine ⟨ys[m], t', List.getElem?_eq_getElem hm', ?_⟩
    have e := (List.getElem?_eq_some_iff.mp hw).2
    rw [← hw', ← e]
    simp
  have fl : (ys.map V.int).all flatV = true := by
    rw [List.all_map]
    exact List.all_eq_true.mpr fun _ _ => rfl
  refine call_meets PySem.F.slot_tuple_index ⟨_, ho, rfl⟩ PySem.F.entry_tuple_index (PySem.F.args_tuple_index_2 _ _) (TI.tuple_indexAt p its.toArray n dd sl (.int z t) (eqU (.int z)) j hj ?_ ?_)
    ⟨ho, fun w hw => mem_eqAt (x := .int z) ⟨t, rfl⟩ rfl r fl w (by simpa using hw), ⟨.int (j : Nat), H, I.tok _, ⟨_, rfl⟩, q⟩⟩
  · obtain ⟨y, t', h1, h2⟩ := at' j hj
    rw [hy] at h1
    cases h1
    rw [h2]
    show (z == z) = true
    exact beq_self_eq_true z
  · intro m hm hmj
    obtain ⟨y, t', h1, h2⟩ := at' m hm
    rw [h2]
    show (y == z) = false
    exact beq_eq_false_iff_ne.mpr fun e => hno m hmj (e ▸ h1)
end
end Sk

/-! dict comprehensions of which the keys are tuples (after the library's rule for ints and texts); a dict display with one tuple key. -/
namespace Sk
open PySem PySem.Spec PyProof.Rows L2

theorem dT_set {X : Cx} {pins : List (Addr × Obj)} {σ : L2.St} {H : Hp} {s : Shared} {E : Value → Shared → Prop} {D b : Addr} {kvs : List (List Key × V)} {k : List Key} {v : V} {u r : Value} {Q : Unit → Shared → Prop} (hu : X.A.units + 1 < cLine) (I : Inv X pins σ H s)
    (e : H D = some (.dT kvs)) (eb : H b = some (.tup (k.map kV))) (hz : kvs.length < sizeLine) (ry : RelV (.ref b) u) (rv : RelV v r) (h : ∀ s', Inv X pins σ (upd H D (.dT (putK kvs k v))) s' → Q () s') : wpAny (model X.prog X.w) X.A (dictSet D u r) Q E s := by
  cases (show u = Value.ref b from ry)
  obtain ⟨z, hd, xs, rel, dd⟩ := dt_of I.hok e
  have hz1 : xs.length ≤ sizeLine := by rw [← Paired.length rel]; exact z
  have hl : (putK kvs k v).length ≤ sizeLine := by have := length_putK kvs k v; omega
  refine wpAny_dictSet_heap (hsz := hz1) (show (tupleKind (mixKind X.prog X.w)).room X.A from Nat.lt_of_le_of_lt (Nat.le_add_right _ 1) hu) (key_of I.hok eb) dd fun h' dd' hs => h _ ?_
  obtain ⟨q, es, ep, hq, h2, h3, h4, _, h5⟩ := dd'
  refine d_write I (by rw [e]; exact True.intro) hs ⟨q, hq⟩ ⟨hl, hd, _, (rel.put k eb rv).keeps fun c ys ec => ?_, q, es, ep, hq, h2, h3, h4, h5⟩
  rw [upd_ne (ne_of ec e (fun z => nomatch z))]
  exact ec
section
variable {X : Cx}
/-- {k: v for target in iter if ..}, keys tuples of ints and texts: D the new dict -/
def tDcT (wi : TI) (g : TG) (tt : TT) (tk tv : TE) (vs : List Nat) : TE := fun σ H Q => wi σ H fun J H1 => ∀ D, H1 D = none → ∃ W : Nat → Nat → Hp → Prop, (∃ m, W 0 m (upd H1 D (.dT []))) ∧ ∀ i m H, W i m H →
  (J.stop i H ∧ Q (.ref D) H) ∨ (J.go i H ∧ ∃ Nx : Hp → Prop, (∀ H', Nx H' → ∃ m', m' < m ∧ W (i + 1) m' H') ∧ ∀ x H', J.yld i H x H' → g x (wipe σ vs) H' fun σ2 H2 => wipe σ2 vs = wipe σ vs ∧ tt σ2 H2 fun b H3 =>
    if b = true then tk σ2 H3 fun y H4 => tv σ2 H4 fun z H5 => ∃ kvs k b, y = .ref b ∧ H5 b = some (.tup (k.map kV)) ∧ H5 D = some (.dT kvs) ∧ kvs.length < sizeLine ∧ Nx (upd H5 D (.dT (putK kvs k z))) else Nx H3)
theorem dcT_core {pins : List (Addr × Obj)} {s : Shared} {σ : L2.St} {H : Hp} {Q : VK} {kx vx tg iter : Expr} {ifs : List Expr} {scope : Scope} {own : List (Str × Nat)} {pos pos' : Pos} {wi : TI} {g : TG} {tt : TT} {tk tv : TE} {use : Option (Value → Sem Unit)} {Qf : Value → Shared → Prop}
    (hu : X.A.units + 1 < cLine) (hc : X.calm = true) (hN : X.N.Nodup) (I : Inv X pins σ H s) (hi : PI X tg iter wi) (ok : BlkOk X.N X.env.scope scope own)
    (hg : ∀ (s : Shared) (H : Hp) (C : Addr) (cl : List (Str × Addr)) (fp : List Addr), PG (X.blk s H scope (compEnvC scope cl C X.env) fp) tg g) (ht : ∀ (s : Shared) (H : Hp) (C : Addr) (cl : List (Str × Addr)) (fp : List Addr), PTs (X.blk s H scope (compEnvC scope cl C X.env) fp) ifs tt)
    (hk : ∀ (s : Shared) (H : Hp) (C : Addr) (cl : List (Str × Addr)) (fp : List Addr), PE (X.blk s H scope (compEnvC scope cl C X.env) fp) kx tk)
    (he : ∀ (s : Shared) (H : Hp) (C : Addr) (cl : List (Str × Addr)) (fp : List Addr), PE (X.blk s H scope (compEnvC scope cl C X.env) fp) vx tv) (hs : ∀ x, foldedSetIterable iter X.env x = pure x)
    (h : tDcT wi g tt tk tv (own.map (·.2)) σ H Q)
    (hRR : ∀ D C s' m H', Inv X pins σ H' s' → Q (.ref D) H' → s'.heap.Ns C m → FpOk X pins H' C → compPost (model X.prog X.w) X.A X.xe use Qf (.ref D) C (.ok .next) s') :
    wpAny (model X.prog X.w) X.A (comprehension (.DictComp kx vx [⟨tg, iter, ifs, 0⟩] scope pos) scope X.env pos' newDict false (eval iter X.env) use) Qf X.xe s := by
  have hfree : ∀ y ∈ scope.names, y.2 = .free → ∃ c, X.env.cells.lookup y.1 = some c := fun y hy e => by
    rcases ok.free y hy e with k | k
    · exact I.ok.has _ (.inl k)
    · exact I.ok.has _ (.inr k)
  refine wpAny_comprehension_free (use := use) rfl hs (closure_ok hfree) ok.kind (fun y hy e => by rw [ok.uniq y hy, e])
    (thn (hi.run pins s σ H _ I h) fun xv s1 hx => thn hx fun itv s2 h2 => ?_)
  obtain ⟨it, fp, tn, J, H2, e, I2, T, st2, f2, q⟩ := h2
  subst e
  refine wpAny_newObj_type (newEnv_comp ?_)
  generalize hD : s2.heap.objs.size = D
  have hDn : H2 D = none := I2.hok.fresh (Nat.le_of_eq hD)
  obtain ⟨W, ⟨m0, w0⟩, turn⟩ := q D hDn
  -- the new list
  generalize hs3 : ({ s2 with heap := s2.heap.push { cls := .type "dict", data := .dict #[] } } : Shared) = s3
  have I3 : Inv X pins σ (upd H2 D (.dT [])) s3 := by
    rw [← hs3]
    refine I2.laid (t' := s2.toks) (fun b o e => Heap.get?_push_of_some _ e) (Nat.le_of_eq hD) ?_
    rw [← hD]
    exact dt_empty s2.heap I2.big
  have h3 : s3.heap = s2.heap.push { cls := .type "dict", data := .dict #[] } := by rw [← hs3]
  have sz : ∀ b ∈ fp, b < s2.heap.objs.size := fun b hb => by
    obtain ⟨o, e, _⟩ := T.obj _ _ st2 b hb
    exact Heap.lt_size e
  have f3 : ∀ b ∈ fp, FpOk X pins (upd H2 D (.dT [])) b ∧ b < s3.heap.objs.size := fun b hb => by
    have hlt := sz b hb
    refine ⟨⟨?_, (f2 b hb).2⟩, by rw [h3, Heap.size_push]; exact Nat.lt_succ_of_lt hlt⟩
    rw [upd_ne (by rw [← hD]; exact Nat.ne_of_lt hlt)]
    exact (f2 b hb).1
  have st3 : tn 0 s3.heap := T.keep _ _ _ st2 fun b _ o e => by rw [h3]; exact Heap.get?_push_of_some _ e
  have I4 := block_start I3 ok hN f3
  have pg := hg s3 (upd H2 D (.dT [])) s3.heap.objs.size (cellsFrom (s3.heap.objs.size + 1) scope.names (cloFrom X.env.cells scope.names [])) fp
  have pt := ht s3 (upd H2 D (.dT [])) s3.heap.objs.size (cellsFrom (s3.heap.objs.size + 1) scope.names (cloFrom X.env.cells scope.names [])) fp
  have pk := hk s3 (upd H2 D (.dT [])) s3.heap.objs.size (cellsFrom (s3.heap.objs.size + 1) scope.names (cloFrom X.env.cells scope.names [])) fp
  have pe := he s3 (upd H2 D (.dT [])) s3.heap.objs.size (cellsFrom (s3.heap.objs.size + 1) scope.names (cloFrom X.env.cells scope.names [])) fp
  show codeAny _ _ (.compStart (.DictComp kx vx [⟨tg, iter, ifs, 0⟩] scope pos) 0 (.ref it) (.ref D) (compEnvC scope (cellsFrom (s3.heap.objs.size + 1) scope.names (cloFrom X.env.cells scope.names [])) s3.heap.objs.size X.env)) (compPost (model X.prog X.w) X.A X.xe use Qf (.ref D) s3.heap.objs.size) { s3 with heap := pushCells (s3.heap.push { cls := .type "dict", data := .dict #[] }) scope.names }
  have nfp : ∀ b ∈ fp, (upd H2 D (.dT [])) b = none := fun b hb => (f3 b hb).1.1
  generalize hce : compEnvC scope (cellsFrom (s3.heap.objs.size + 1) scope.names (cloFrom X.env.cells scope.names [])) s3.heap.objs.size X.env = ce at I4 pg pt pk pe ⊢
  have cL : ce.locals = s3.heap.objs.size := by subst hce; rfl
  generalize hH3 : upd H2 D (.dT []) = H3 at I3 I4 pg pt pk pe w0 nfp f3
  generalize hs4 : ({ s3 with heap := pushCells (s3.heap.push { cls := .type "dict", data := .dict #[] }) scope.names } : Shared) = s4 at I4 ⊢
  have st4 : tn 0 s4.heap := T.keep _ _ _ st3 fun b _ o e => by rw [← hs4]; exact pushCells_keeps _ _ _ _ (Heap.get?_push_of_some _ e)
  have stat : ∀ {σ' : L2.St} {H' : Hp} {s' : Shared}, Inv (X.blk s3 H3 scope ce fp) [] σ' H' s' → (∀ b ∈ fp, H' b = none) → ∀ b ∈ fp, FpOk (X.blk s3 H3 scope ce fp) [] H' b := fun {σ' H' s'} I' hn b hb =>
    ⟨hn b hb, (I'.ok.exf b hb).1, I'.ok.exfs b hb, .inl hb, fun x c e => (I'.ok.exf b hb).2 x c e, fun p hp => absurd (show p ∈ ([] : List (Addr × Obj)) ++ [] from hp) (by simp)⟩
  have loop : codeAny (model X.prog X.w) X.A (.compLoop (.DictComp kx vx [⟨tg, iter, ifs, 0⟩] scope pos) 0 (.ref it) (.ref D) ce) (compPost (model X.prog X.w) X.A X.xe use Qf (.ref D) s3.heap.objs.size) s4 := by
    refine compLoop_anyD (fun n s' => ∃ i H', Inv (X.blk s3 H3 scope ce fp) [] (wipe σ (own.map (·.2))) H' s' ∧ tn i s'.heap ∧ (∀ b ∈ fp, H' b = none) ∧ W i n H') ?_ m0 ⟨0, H3, I4, st4, nfp, w0⟩
    rintro n s5 ⟨i, H5, I5, st5, n5, w5⟩
    rcases turn i n H5 w5 with ⟨stop, qq⟩ | ⟨go, Nx, hNx, step⟩
    · have td := T.done (X.blk s3 H3 scope ce fp) rfl rfl rfl hc i [] s5 _ H5 (fun _ _ => False) I5 (stat I5 n5) st5 stop
      refine thnF td fun r s6 ⟨hr, I6⟩ => ?_
      subst hr
      -- back in the def's context
      have I7 : Inv X pins σ H5 s6 := I3.call' (ch := fp) I6.os I6.base I6.hok I6.bare fun b hb => ⟨(f3 b hb).1.2.2.2.1, (f3 b hb).1.2.1, (f3 b hb).1.2.2.2.2.1, (f3 b hb).1.2.2.2.2.2⟩
      have nC : H5 s3.heap.objs.size = none := by
        have z : H5 ce.locals = none := I6.free
        rw [cL] at z
        exact z
      obtain ⟨m, hn, _⟩ := I6.loc
      have hn : s6.heap.Ns ce.locals m := hn
      rw [cL] at hn
      exact hRR D s3.heap.objs.size s6 m H5 I7 qq hn (I3.fpOk (Nat.le_refl _) nC)
    · have ti := T.item (X.blk s3 H3 scope ce fp) rfl rfl rfl hc i [] s5 _ H5 (fun _ _ => False) I5 (stat I5 n5) st5 go
      refine thnF ti fun r s6 ⟨u, hr, h6⟩ => ?_
      subst hr
      refine thnF h6 fun _ s7 ⟨x, H7, I7, r7, y7, st7, n7⟩ => ?_
      have I7' := I7.pinned (stat I7 n7) (T.obj _ _ st7)
      refine thnF (pg.run _ s7 _ H7 x u _ I7' r7 (step x H7 y7)) fun _ s8 ⟨σ8, H8, I8, hw8, q8⟩ => ?_
      refine thnF (pt.run _ s8 σ8 H8 _ I8 q8) fun b s9 ⟨H9, I9, q9⟩ => ?_
      -- the turn's end
      have fin : ∀ {s' : Shared} {H' : Hp}, Inv (X.blk s3 H3 scope ce fp) ([] ++ pinsAt fp s7.heap) σ8 H' s' → Nx H' → ∃ m, m < n ∧ ∃ i H', Inv (X.blk s3 H3 scope ce fp) [] (wipe σ (own.map (·.2))) H' s' ∧ tn i s'.heap ∧ (∀ b ∈ fp, H' b = none) ∧ W i m H' := fun {s' H'} I' nx => by
        obtain ⟨m', hm, w'⟩ := hNx H' nx
        have pin' : ∀ b ∈ fp, ∀ o, s7.heap.get? b = some o → s'.heap.get? b = some o ∧ H' b = none := fun b hb o e =>
          let z := I'.pin (b, o) (List.mem_append_right _ (List.mem_append_right _ (mem_pinsAt hb e)))
          ⟨z.1, z.2.1⟩
        have hl : (wipe σ (own.map (·.2))).length = σ8.length := by rw [← hw8, wipe_length]
        refine ⟨m', hm, i + 1, H', (I'.unpinned (pins := [])).weak hl (fun j v e => ?_), T.keep _ _ _ st7 fun b hb o e => (pin' b hb o e).1, fun b hb => ?_, w'⟩
        · rw [← hw8] at e
          exact (wipe_some e).1
        · obtain ⟨o, e, _⟩ := T.obj _ _ st7 b hb
          exact (pin' b hb o e).2
      cases b with
      | false =>
        simp only [Bool.false_eq_true, if_false] at q9 ⊢
        exact fin I9 q9
      | true =>
        simp only [if_true] at q9 ⊢
        refine thnF (pk.run _ s9 σ8 H9 _ I9 q9) fun z s10 ⟨yk, H10, I10, r10, q10⟩ => ?_
        refine thnF (pe.run _ s10 σ8 H10 _ I10 q10) fun z2 s11 ⟨yv, H11, I11, r11, kvs, k, b, ek, hb11, hD11, hz11, nx⟩ => ?_
        subst ek
        exact dT_set (X := X.blk s3 H3 scope ce fp) hu I11 hD11 hb11 hz11 r10 r11 fun s12 I12 => fin I12 nx
  exact codeAny_compStart_dict loop (T.self X.A 0 _ _ _ st4 loop)
/-- as a value -/
theorem pe_dcT {kx vx tg iter : Expr} {ifs : List Expr} {scope : Scope} {own : List (Str × Nat)} {pos : Pos} {wi : TI} {g : TG} {tt : TT} {tk tv : TE} (hu : X.A.units + 1 < cLine) (hc : X.calm = true) (hN : X.N.Nodup) (hi : PI X tg iter wi) (ok : BlkOk X.N X.env.scope scope own)
    (hg : ∀ (s : Shared) (H : Hp) (C : Addr) (cl : List (Str × Addr)) (fp : List Addr), PG (X.blk s H scope (compEnvC scope cl C X.env) fp) tg g) (ht : ∀ (s : Shared) (H : Hp) (C : Addr) (cl : List (Str × Addr)) (fp : List Addr), PTs (X.blk s H scope (compEnvC scope cl C X.env) fp) ifs tt)
    (hk : ∀ (s : Shared) (H : Hp) (C : Addr) (cl : List (Str × Addr)) (fp : List Addr), PE (X.blk s H scope (compEnvC scope cl C X.env) fp) kx tk)
    (he : ∀ (s : Shared) (H : Hp) (C : Addr) (cl : List (Str × Addr)) (fp : List Addr), PE (X.blk s H scope (compEnvC scope cl C X.env) fp) vx tv) (hs : ∀ x, foldedSetIterable iter X.env x = pure x := by intro _; rfl) :
    PE X (.DictComp kx vx [⟨tg, iter, ifs, 0⟩] scope pos) (tDcT wi g tt tk tv (own.map (·.2))) := by
  refine ⟨fun pins s σ H Q I h => ?_⟩
  rw [arm_eval_DictComp]
  refine dcT_core hu hc hN I hi ok hg ht hk he hs h fun D C s' m H' I' q hn f => ⟨m, hn, fun h'' sb => ?_⟩
  obtain ⟨f0, f1, f2, f3, f4, f5⟩ := f
  exact ⟨.ref D, H', I'.turned (t' := s'.toks) (fun b o hb e => (sb.2 b hb).trans e) f0 f1 f3 f4 f5, rfl, q⟩

/-- name = {..} on one line, the name a local -/
theorem ps_setDcT {i : Nat} {y : Str} {py : Pos} {kx vx tg iter : Expr} {ifs : List Expr} {scope : Scope} {own : List (Str × Nat)} {pos spos : Pos} {wi : TI} {g : TG} {tt : TT} {tk tv : TE} (hu : X.A.units + 1 < cLine) (hc : X.calm = true) (hN : X.N.Nodup) (hy : X.N[i]? = some y) (hyl : X.env.scope.names.lookup y = some .local)
    (hsw : swapsWith (.DictComp kx vx [⟨tg, iter, ifs, 0⟩] scope pos) (some (.Name y py)) spos.line X.env = pure true) (hi : PI X tg iter wi) (ok : BlkOk X.N X.env.scope scope own)
    (hg : ∀ (s : Shared) (H : Hp) (C : Addr) (cl : List (Str × Addr)) (fp : List Addr), PG (X.blk s H scope (compEnvC scope cl C X.env) fp) tg g) (ht : ∀ (s : Shared) (H : Hp) (C : Addr) (cl : List (Str × Addr)) (fp : List Addr), PTs (X.blk s H scope (compEnvC scope cl C X.env) fp) ifs tt)
    (hk : ∀ (s : Shared) (H : Hp) (C : Addr) (cl : List (Str × Addr)) (fp : List Addr), PE (X.blk s H scope (compEnvC scope cl C X.env) fp) kx tk)
    (he : ∀ (s : Shared) (H : Hp) (C : Addr) (cl : List (Str × Addr)) (fp : List Addr), PE (X.blk s H scope (compEnvC scope cl C X.env) fp) vx tv) (hs : ∀ x, foldedSetIterable iter X.env x = pure x := by intro _; rfl) :
    PS X (.Assign [.Name y py] (.DictComp kx vx [⟨tg, iter, ifs, 0⟩] scope pos) spos) (tAsg (tDcT wi g tt tk tv (own.map (·.2))) (gName i)) := by
  refine ⟨fun pins s σ H D I h => ?_⟩
  rw [exec_Assign_Name_used _ _ _ _ hsw]
  refine wpAny_bind (wpAny_standAt (wpAny_bind ?_))
  show wpAny _ X.A (do let _ ← comprehension (.DictComp kx vx [⟨tg, iter, ifs, 0⟩] scope pos) scope X.env (firstIterPos [⟨tg, iter, ifs, 0⟩] pos) newDict false (eval iter X.env) (some (assign (.Name y py) X.env))) _ _ s
  have h : tDcT wi g tt tk tv (own.map (·.2)) σ H (fun x H1 => gName i x σ H1 D.nx) := h
  refine wpAny_bind (thn (dcT_core (Qf := fun _ s' => SP X pins D .next s') hu hc hN I hi ok hg ht hk he hs h fun L C s' m H' I' q hn f => ?_) fun _ s' hq => wpAny_pure (wpAny_pure hq))
  show wpAny _ _ (assign (.Name y py) X.env (.ref L)) _ _ _
  refine wpAny_assign_Name (store_ok2 (v := V.ref L) I' hN hy (.inl hyl) rfl (fun s2 I2 ⟨a, sb, ha⟩ => ?_) (.inr hyl))
  obtain ⟨f0, f1, f2, f3, f4, f5⟩ := f
  have haC : C ≠ a := by
    rcases ha with z | z
    · rw [z]; exact f1
    · exact fun e => f4 y a z e.symm
  refine ⟨m, hn.sameBut sb haC, fun h3 sb3 => ?_⟩
  exact ⟨_, H', I2.turned (t' := s2.toks) (fun b o hb e => (sb3.2 b hb).trans e) f0 f1 f3 f4 f5, q⟩
theorem swD_true {kx vx : Expr} {gs : List Comprehension} {scope : Scope} {pos py : Pos} {y : Str} {l : Nat} {env : Env} (hk : env.scope.kind = .function) (hy : env.scope.names.lookup y = some .local) (hl : (py.line == pos.line) = true)
    (ha : (scope.names.any fun (n, k) => n == y && (k == .local || k == .cell)) = false) : swapsWith (.DictComp kx vx gs scope pos) (some (.Name y py)) l env = pure true := by
  have ky : env.kindOf y = some .local := hy
  have hb : env.blockKind = .function := by unfold Env.blockKind; rw [hk]; rfl
  unfold swapsWith
  simp only [hb, ky, ha, Expr.pos, hl]
  rfl
end
end Sk

namespace Sk
open PySem PySem.Spec PyProof.Rows L2
section
variable {X : Cx}
/-- {k: v}, k a tuple of ints and texts; the new dict stands empty while k and v are made -/
def tDisp1T (tk tv : TE) : TE := fun σ H Q => ∀ p, H p = none → tk σ (upd H p (.dT [])) fun y H1 => tv σ H1 fun z H2 => ∃ k b, y = .ref b ∧ H2 b = some (.tup (k.map kV)) ∧ H2 p = some (.dT []) ∧ Q (.ref p) (upd H2 p (.dT [(k, z)]))
theorem pe_disp1T {ke ve : Expr} {tk tv : TE} {pos : Pos} (hu : X.A.units + 1 < cLine) (hk : PE X ke tk) (hv : PE X ve tv) : PE X (.Dict [some ke] [ve] pos) (tDisp1T tk tv) := by
  refine ⟨fun pins s σ H Q I q => ?_⟩
  have hn := I.hok.fresh (Nat.le_refl s.heap.objs.size)
  have I1 := I.laid (a := s.heap.objs.size) (o := .dT []) (h' := s.heap.push { cls := .type "dict", data := .dict #[] }) (t' := s.toks) (fun _ _ q => Heap.get?_push_of_some _ q) (Nat.le_refl _) (dt_empty s.heap I.big)
  have hsh := zip_pairTrees [some ke] [ve] X.env pos rfl rfl
  have hln := pairTrees_length [some ke] [ve] X.env pos rfl rfl
  have hne : pairTrees [some ke] [ve] X.env pos ≠ [] := fun z => by rw [z] at hln; cases hln
  rw [arm_eval_Dict, hsh, dictDisplay_pairs _ hne (by rw [hln]; show 1 < 17; decide)]
  refine wpAny_bind (wpAny_standAt (wpAny_bind (wpAny_subDictH (knd := tupleKind (mixKind X.prog X.w)) (Q := fun d s' => wpAny (model X.prog X.w) X.A (pure (Value.ref d)) (EP X pins σ Q) X.xe s') (show X.A.units < cLine from Nat.lt_of_le_of_lt (Nat.le_add_right _ 1) hu) (by rw [hln]; show 1 ≤ 15; decide) ?_)))
  refine pairTrees_cons_walk (thn (hk.run pins _ σ _ _ I1 (q _ hn)) fun u s1 ⟨y, H1, I1, ry, q1⟩ => thn (hv.run pins s1 σ H1 _ I1 q1) fun w2 s2 ⟨z, H2, I2, rz, k, b, ey, eb, ep, q2⟩ => pairTrees_nil_walk ?_)
  subst ey
  cases (show u = Value.ref b from ry)
  obtain ⟨z0, hd, xs, rel, dd⟩ := dt_of I2.hok ep
  cases rel
  refine ⟨[(k, b, w2)], ⟨rfl, rfl, key_of I2.hok eb, True.intro⟩, dd, fun h' tk dd' hs => ?_⟩
  refine wpAny_pure ⟨.ref s.heap.objs.size, _, ?_, rfl, q2⟩
  obtain ⟨q, es, ep', hq, h2, h3, h4, _, h5⟩ := dd'
  refine d_write I2 (by rw [ep]; exact True.intro) hs ⟨q, hq⟩ ⟨by show 1 ≤ sizeLine; decide, hd, [(k, b, w2)], .cons ⟨rfl, ?_, rz⟩ .nil, q, es, ep', hq, h2, h3, h4, h5⟩
  show upd H2 s.heap.objs.size _ b = some (.tup (k.map kV))
  rw [upd_ne (ne_of eb ep (fun z => nomatch z))]
  exact eb
end
end Sk

/-! sorted of two tuples (an int, a text) with different ints. -/
namespace Sk
open PySem PySem.Spec PyProof.Rows L2 Srt SrtO

/-- a tuple of an int and a text -/
def IsIS (h : Heap) (v : Value) (x : Int) (z : Str) : Prop := ∃ a o t u n, v = .ref a ∧ h.get? a = some o ∧ o.cls = .type "tuple" ∧ o.data = .seq #[.int x t, .str z u] n
theorem IsIS.keeps {h h' : Heap} {v : Value} {x : Int} {z : Str} (p : IsIS h v x z) (k : ∀ b o, h.get? b = some o → o.cls = .type "tuple" → h'.get? b = some o) : IsIS h' v x z := by
  obtain ⟨a, o, t, u, n, e, ho, hc, hd⟩ := p
  exact ⟨a, o, t, u, n, e, k _ _ ho hc, hc, hd⟩
theorem swo_rank (k : Value → Int) : Swo fun v u => decide (k v < k u) := by
  refine ⟨fun x y h => ?_, fun x y z h1 h2 => ?_⟩
  · have a := of_decide_eq_true h
    exact decide_eq_false (by omega)
  · have a := of_decide_eq_false h1
    have b := of_decide_eq_false h2
    exact decide_eq_false (by omega)
section
variable {prog : Program} {w : World} {A : Around} {E : Value → Shared → Prop} {s : Shared}
theorem is_cmp {vs : List Value} {k : Value → Int} {z : Value → Str} (hp : ∀ v ∈ vs, IsIS s.heap v (k v) (z v)) (hz : ∀ v ∈ vs, ∀ u ∈ vs, k v = k u → z v = z u) : SrtO.Cmp prog w A s (tuples' true) (fun p => p.1 ∈ vs) (lt2 fun v u => decide (k v < k u)) := by
  intro p q hm hm'
  have h1 := hp _ hm
  have h2 := hp _ hm'
  have h3 := hz _ hm _ hm'
  show wpAny (model prog w) A (keyLt' (tuples' true) p.1 q.1) (fun r s' => s' = s ∧ r = decide (k p.1 < k q.1)) (fun _ _ => False) s
  generalize k p.1 = x at h1 h3 ⊢
  generalize z p.1 = y at h1 h3 ⊢
  generalize k q.1 = x' at h2 h3 ⊢
  generalize z q.1 = y' at h2 h3 ⊢
  obtain ⟨a, o, t, u, n, e, ho, hc, hd⟩ := h1
  obtain ⟨a', o', t', u', n', e', ho', hc', hd'⟩ := h2
  rw [e, e']
  refine PySem.W.kat_lt ho hd ho' hd' ?_
  show PySem.W.KatLex prog w A true (decide (2 < 2)) _ [(.int x t, .int x' t'), (.str y u, .str y' u')] 0 s
  refine PySem.W.kat_cons (SeqAt.EqAt.int_int x t x' t' prog w _ _ ?_)
  refine PySem.W.kat_go (fun e1 => ?_) (fun e1 => ?_)
  · have ex : x = x' := by simpa using e1
    refine PySem.W.kat_yes (PySem.W.kat_cons (SeqAt.EqAt.str_str y u y' u' prog w _ _ ?_))
    refine PySem.W.kat_go (fun e2 => ?_) (fun e2 => ?_)
    · exact PySem.W.kat_yes (PySem.W.kat_nil ⟨rfl, (decide_eq_false (by omega : ¬ x < x')).symm⟩)
    · rw [h3 ex] at e2
      simp at e2
  · exact PySem.W.kat_no (oneLt_int ⟨rfl, rfl⟩)
theorem is_firsts {h : Heap} : ∀ {vs : List Value}, (∀ v ∈ vs, ∃ x z, IsIS h v x z) → ∃ fs : List Value, PySem.W.KatTups h vs fs ∧ fs.length = vs.length ∧ ∀ f ∈ fs, ∃ x t, f = Value.int x t
  | [], _ => ⟨[], PySem.W.KatTups.nil, rfl, fun _ hm => by simp at hm⟩
  | v :: vs, hp => by
    obtain ⟨fs, h1, h2, h3⟩ := is_firsts (vs := vs) fun v' hm => hp v' (List.mem_cons_of_mem _ hm)
    obtain ⟨x, z, a, o, t, u, n, e, ho, hc, hd⟩ := hp v (List.mem_cons_self ..)
    subst e
    refine ⟨.int x t :: fs, PySem.W.KatTups.cons ho hc hd rfl h1, by rw [List.length_cons, List.length_cons, h2], fun f hm => ?_⟩
    rcases List.mem_cons.mp hm with rfl | hm
    · exact ⟨x, t, rfl⟩
    · exact h3 f hm
theorem is_sortable {a : Addr} {vs : List Value} {k : Value → Int} {z : Value → Str} (h0 : 0 < vs.length) (hp : ∀ v ∈ vs, IsIS s.heap v (k v) (z v)) (hz : ∀ v ∈ vs, ∀ u ∈ vs, k v = k u → z v = z u) (ha : ∀ o, s.heap.get? a = some o → o.cls ≠ .type "tuple") :
    SortableO prog w A s a vs fun v u => decide (k v < k u) := by
  intro h' keep
  have hp' : ∀ v ∈ vs, IsIS h' v (k v) (z v) := fun v hm => (hp v hm).keeps fun b o e c => keep b o (fun z => by subst z; exact ha o e c) e
  obtain ⟨fs, h1, h2, h3⟩ := is_firsts fun v hm => ⟨_, _, hp' v hm⟩
  refine ⟨tuples' true, fun Q E hq => ?_, is_cmp hp' hz⟩
  refine PySem.W.kat_kind (T := .type "int") h1 (by omega) (fun f hm => ?_) (by rfl) ?_
  · obtain ⟨x, t, rfl⟩ := h3 f hm
    exact PySem.W.Looks.now
  · have e : (Value.type "int" != Value.type "tuple") = true := by decide +kernel
    rw [e]
    exact hq
end

/-- sorted([t1, t2]) -/
def rSortIS (K : PySem.W.Frag) : List V → Hp → VK → Prop := fun vs H Q => ∃ (a t1 t2 : Addr) (i1 i2 : Int) (z1 z2 : Str), vs = [V.ref a] ∧ SqL K H a [.ref t1, .ref t2] ∧ H t1 = some (.tup [.int i1, .str z1]) ∧ H t2 = some (.tup [.int i2, .str z2]) ∧ i1 ≠ i2 ∧
  ∀ p, H p = none → Q (.ref p) (upd H p (.lst (if i1 < i2 then [.ref t1, .ref t2] else [.ref t2, .ref t1])))
section
variable {X : Cx}
theorem cr_sortIS : CallR X (.builtin "sorted") (rSortIS X.K) := by
  intro pins s σ H vs us Q I r h
  obtain ⟨a, t1, t2, i1, i2, z1, z2, rfl, hs, ht1, ht2, hne, q⟩ := h
  obtain ⟨its, rv, hl, hz⟩ := I.list hs
  obtain ⟨u, rfl, ru⟩ := vals1 r
  obtain rfl : u = Value.ref a := ru
  obtain ⟨w1, w2, rfl, r1, r2⟩ := vals2 rv
  obtain rfl : w1 = Value.ref t1 := r1
  obtain rfl : w2 = Value.ref t2 := r2
  have ne : t1 ≠ t2 := fun e => by
    subst e
    rw [ht1] at ht2
    cases ht2
    exact hne rfl
  have is1 : ∀ {t : Addr} {i : Int} {z : Str}, H t = some (.tup [.int i, .str z]) → IsIS s.heap (.ref t) i z := fun {t i z} ht => by
    obtain ⟨_, its2, r2, o, ho, hc, n, hd⟩ := I.hok _ _ ht
    obtain ⟨u1, u2, rfl, ri, rj⟩ := vals2 r2
    obtain ⟨k1, rfl⟩ := ri
    obtain ⟨k2, rfl⟩ := rj
    exact ⟨t, o, k1, k2, n, rfl, ho, hc, hd⟩
  let k : Value → Int := fun v => match v with
    | .ref b => if b = t1 then i1 else i2
    | _ => 0
  let z : Value → Str := fun v => match v with
    | .ref b => if b = t1 then z1 else z2
    | _ => z1
  have k1 : k (.ref t1) = i1 := if_pos rfl
  have k2 : k (.ref t2) = i2 := if_neg ne.symm
  have y1 : z (.ref t1) = z1 := if_pos rfl
  have y2 : z (.ref t2) = z2 := if_neg ne.symm
  have hm : ∀ v, v ∈ [Value.ref t1, Value.ref t2] → v = .ref t1 ∨ v = .ref t2 := fun v hv => by
    rcases List.mem_cons.mp hv with e | e
    · exact .inl e
    · exact .inr (List.mem_singleton.mp e)
  have hp : ∀ v ∈ [Value.ref t1, Value.ref t2], IsIS s.heap v (k v) (z v) := fun v hv => by
    rcases hm v hv with e | e
    · rw [e, k1, y1]; exact is1 ht1
    · rw [e, k2, y2]; exact is1 ht2
  have hzz : ∀ v ∈ [Value.ref t1, Value.ref t2], ∀ u ∈ [Value.ref t1, Value.ref t2], k v = k u → z v = z u := fun v hv u hu e => by
    rcases hm v hv with e1 | e1 <;> rcases hm u hu with e2 | e2 <;> rw [e1, e2] at e ⊢
    · rw [k1, k2] at e; exact absurd e hne
    · rw [k1, k2] at e; exact absurd e.symm hne
  refine sorted_ord (swo_rank k) hl.isList (by show 2 ≤ sizeLine; decide) (fun h2 h₁ b hb kk => ?_) fun out hs2 hb => ?_
  · refine is_sortable (s := { s with heap := h₁ }) (by omega) (fun v hm => (hp v hm).keeps fun b o e _ => (kk b o e).2) hzz fun o e => ?_
    have e' : some o = some (seqObj "list" [Value.ref t1, Value.ref t2].toArray 0) := e.symm.trans hb
    cases e'
    intro c
    exact absurd (Value.type.inj c) (by decide)
  · have ho : out = (if i1 < i2 then [.ref t1, .ref t2] else [.ref t2, .ref t1]) := by
      have pm := hb.perm
      have hlen := pm.length_eq
      match out, hlen with
      | [c, d], _ =>
        have m1 := hm c (pm.mem_iff.mp List.mem_cons_self)
        have m2 := hm d (pm.mem_iff.mp (List.mem_cons_of_mem _ List.mem_cons_self))
        have nd : ([c, d] : List Value).Nodup := pm.nodup_iff.mpr (by
          refine List.nodup_cons.mpr ⟨fun z => ?_, by simp⟩
          have z := List.mem_singleton.mp z
          cases z
          exact ne rfl)
        have cd : c ≠ d := fun e => (List.nodup_cons.mp nd).1 (by rw [e]; exact List.mem_singleton.mpr rfl)
        have srt : decide (k d < k c) = false := (List.pairwise_cons.mp hs2).1 d (List.mem_singleton.mpr rfl)
        have srt := of_decide_eq_false srt
        rcases m1 with e1 | e1 <;> rcases m2 with e2 | e2
        · exact absurd (e1.trans e2.symm) cd
        · rw [e1, e2] at srt ⊢
          rw [k1, k2] at srt
          rw [if_pos (by omega)]
        · rw [e1, e2] at srt ⊢
          rw [k1, k2] at srt
          rw [if_neg (by omega)]
        · exact absurd (e1.trans e2.symm) cd
    subst ho
    obtain ⟨n, hn⟩ := sortedAll_at s.heap [Value.ref t1, Value.ref t2] (if i1 < i2 then [Value.ref t1, Value.ref t2] else [Value.ref t2, Value.ref t1]).toArray
    refine ⟨.ref _, upd H _ (.lst (if i1 < i2 then [.ref t1, .ref t2] else [.ref t2, .ref t1])), I.laid (t' := s.toks) (fun b o e => sortedAll_old e) (Nat.le_succ _) ⟨?_, _, n, ?_, hn⟩, rfl, q _ (I.hok.fresh (Nat.le_succ _))⟩
    · split <;> (show 2 ≤ sizeLine; decide)
    · split
      · exact .cons rfl (.cons rfl .nil)
      · exact .cons rfl (.cons rfl .nil)
end
end Sk

/-! min and max of two tuples (an int, a text) with different ints. -/
namespace Sk
open PySem PySem.Spec PyProof.Rows L2
abbrev Stands (h h' : Heap) : Prop := ∀ b o, h.get? b = some o → h'.get? b = some o

section
variable {prog : Program} {w : World} {A : Around} {R : Result → Shared → Prop} {I S : Addr} {its : Array Value} {fp wr : List Addr} {n : Nat} {P : Nat → Value → Prop} {St : Nat → Heap → Prop}
theorem min_end (W : Walks prog w A.in1 I fp wr n P St) (hSw : S ∉ wr) {s : Shared} {vb : Value} {c : Nat} (hst : St n s.heap)
    (hS : s.heap.get? S = some { cls := .type "list", dict := none, data := .seq #[vb, vb] c, slots := #[] })
    (hR : ∀ h' tk, (∀ b o, b ∉ wr → b ≠ S → s.heap.get? b = some o → h'.get? b = some o) → R (.ok (.ret vb)) { s with heap := h', toks := tk }) :
    codeAny (model prog w) A (.builtin "min.loop" ⟨[.ref I, .none, .ref S], []⟩) R s := by
  refine codeAny_builtin F.entry_min_loop ?_
  rw [Around.under_plainId F.plain_min_loop _]
  refine wpAny_bind (wpAny_seqItems hS rfl (wpAny_bind (wpAny_tryCatch (W.done s _ _ hst fun h' tk hk' => ?_))))
  refine wpAny_bind (wpAny_updateSeq (hk' S _ hSw hS) rfl (wpAny_bind (wpAny_letGo (wpAny_pure (hR _ tk fun b o hbw hbS e => ?_)))))
  exact (Heap.get?_update_other _ _ (Ne.symm hbS)).trans (hk' b o hbw e)
theorem min_mid (W : Walks prog w A.in1 I fp wr n P St) (hSf : S ∉ fp) {s : Shared} {va vb : Value} {c i : Nat} {k : Bool} (hin : i + 1 = n) (hst : St i s.heap) (hP : ∀ v, P i v → v = vb)
    (hS : s.heap.get? S = some { cls := .type "list", dict := none, data := .seq #[va, va] c, slots := #[] })
    (hc : ∀ (s' : Shared) (Q' E' : Value → Shared → Prop), (∀ b o, b ∉ wr → b ≠ S → s.heap.get? b = some o → s'.heap.get? b = some o) → Q' (.bool k) s' → wpAny (model prog w) A.in1 (richCompare .Lt vb va) Q' E' s')
    (hR : ∀ h' tk, (∀ b o, b ∉ wr → b ≠ S → s.heap.get? b = some o → h'.get? b = some o) → R (.ok (.ret (if k then vb else va))) { s with heap := h', toks := tk }) :
    codeAny (model prog w) A (.builtin "min.loop" ⟨[.ref I, .none, .ref S], []⟩) R s := by
  have hSw : S ∉ wr := fun h => hSf (W.sub _ h)
  have nm : (toString "min" ++ toString ".loop" : String) = "min.loop" := by decide
  refine codeAny_builtin F.entry_min_loop ?_
  rw [Around.under_plainId F.plain_min_loop _]
  refine wpAny_bind (wpAny_seqItems hS rfl (wpAny_bind (wpAny_tryCatch (W.item i s _ _ (by omega) hst fun v h' tk hPv hst' hk' => ?_))))
  obtain rfl := hP v hPv
  have hS' := hk' S _ hSw hS
  show wpAny _ A.in1 (tryCatch (holding [v, v] (richCompare .Lt v va >>= _)) _ >>= _) _ _ _
  refine wpAny_bind (wpAny_tryCatch (wpAny_holding (wpAny_bind (hc _ _ _ (fun b o hbw _ e => hk' b o hbw e) ?_))))
  refine wpAny_bind (wpAny_holding (wpAny_truthy_bool (wpAny_bind (wpAny_letGo (wpAny_pure ?_)))))
  cases k with
  | true =>
    show wpAny _ A.in1 (updateSeq S (fun _ => #[v, v]) >>= _) _ _ _
    refine wpAny_bind ?_
    refine wpAny_updateSeq hS' rfl (wpAny_bind (wpAny_letGo ?_))
    rw [nm]
    refine wpAny_pure ⟨plainId_quiet F.plain_min_loop _, min_end W hSw (W.frame _ _ _ (hin ▸ hst') fun b hbf o e => ?_) (Heap.get?_update_self _ hS' rfl) fun h'' tk'' hk'' => ?_⟩
    · exact (Heap.get?_update_other _ _ (fun z : S = b => hSf (z ▸ hbf))).trans e
    · exact hR h'' tk'' fun b o hbw hbS e => hk'' b o hbw hbS ((Heap.get?_update_other _ _ (Ne.symm hbS)).trans (hk' b o hbw e))
  | false =>
    show wpAny _ A.in1 (letGo [v, v] >>= _) _ _ _
    refine wpAny_bind (wpAny_letGo ?_)
    rw [nm]
    exact wpAny_pure ⟨plainId_quiet F.plain_min_loop _, min_end W hSw (hin ▸ hst') hS' fun h'' tk'' hk'' => hR h'' tk'' fun b o hbw hbS e => hk'' b o hbw hbS (hk' b o hbw e)⟩
theorem min_one (W : Walks prog w A.in1 I fp wr n P St) (hSf : S ∉ fp) {s : Shared} {va vb : Value} {c : Nat} {k : Bool} (hn : 2 = n) (hst : St 0 s.heap) (hPa : ∀ v, P 0 v → v = va) (hPb : ∀ v, P 1 v → v = vb)
    (hS : s.heap.get? S = some { cls := .type "list", dict := none, data := .seq #[] c, slots := #[] })
    (hc : ∀ (s' : Shared) (Q' E' : Value → Shared → Prop), (∀ b o, b ∉ wr → b ≠ S → s.heap.get? b = some o → s'.heap.get? b = some o) → Q' (.bool k) s' → wpAny (model prog w) A.in1 (richCompare .Lt vb va) Q' E' s')
    (hR : ∀ h' tk, (∀ b o, b ∉ wr → b ≠ S → s.heap.get? b = some o → h'.get? b = some o) → R (.ok (.ret (if k then vb else va))) { s with heap := h', toks := tk }) :
    codeAny (model prog w) A (.builtin "min.loop" ⟨[.ref I, .none, .ref S], []⟩) R s := by
  have hSw : S ∉ wr := fun h => hSf (W.sub _ h)
  have nm : (toString "min" ++ toString ".loop" : String) = "min.loop" := by decide
  refine codeAny_builtin F.entry_min_loop ?_
  rw [Around.under_plainId F.plain_min_loop _]
  refine wpAny_bind (wpAny_seqItems hS rfl (wpAny_bind (wpAny_tryCatch (W.item 0 s _ _ (by omega) hst fun v h' tk hPv hst' hk' => ?_))))
  obtain rfl := hPa v hPv
  have hS' := hk' S _ hSw hS
  show wpAny _ A.in1 (updateSeq S (fun _ => #[v, v]) >>= _) _ _ _
  refine wpAny_bind ?_
  refine wpAny_updateSeq hS' rfl ?_
  rw [nm]
  refine wpAny_pure ⟨plainId_quiet F.plain_min_loop _, min_mid W hSf hn (W.frame _ _ _ hst' fun b hbf o e => ?_) hPb (Heap.get?_update_self _ hS' rfl) (fun s' Q' E' hk'' q => hc s' Q' E' (fun b o hbw hbS e => hk'' b o hbw hbS ((Heap.get?_update_other _ _ (Ne.symm hbS)).trans (hk' b o hbw e))) q) fun h'' tk'' hk'' => ?_⟩
  · exact (Heap.get?_update_other _ _ (fun z : S = b => hSf (z ▸ hbf))).trans e
  · exact hR h'' tk'' fun b o hbw hbS e => hk'' b o hbw hbS ((Heap.get?_update_other _ _ (Ne.symm hbS)).trans (hk' b o hbw e))
end
section
variable {prog : Program} {w : World} {A : Around} {E : Value → Shared → Prop}
/-- min of two values, where the compare needs the heap -/
theorem min2_at {a b : Value} {k : Bool} {s : Shared} {Q : Value → Shared → Prop} (hh : A.handled = none)
    (hc : ∀ (s' : Shared) (Q' E' : Value → Shared → Prop), Stands s.heap s'.heap → Q' (.bool k) s' → wpAny (model prog w) A.in1 (richCompare .Lt b a) Q' E' s')
    (h : ∀ h' tk, Stands s.heap h' → Q (if k then b else a) { s with heap := h', toks := tk }) : wpAny (model prog w) A (call (.builtin "min") [a, b]) Q E s := by
  have nm : (toString "min" ++ toString ".loop" : String) = "min.loop" := by decide
  refine call_function_tree F.kind_min F.plain_min F.entry_min (F.args_min2 _ _) ?_
  refine wpAny_bind (wpAny_of_eq (show Builtin.Builtins.bindParams "min" ["key", "default"] 0 ⟨[], []⟩ = pure [none, none] from rfl) ?_)
  show wpAny _ A.in1 (newTuple [a, b] >>= _) _ _ s
  refine wpAny_bind (wpAny_newObj_type (wpAny_bind ?_))
  have hT : (s.heap.push { cls := .type "tuple", data := .seq #[a, b] }).IsTuple s.heap.objs.size #[a, b] := ⟨_, Heap.get?_push_size _ rfl, rfl, 0, rfl⟩
  have hsz : (s.heap.push { cls := .type "tuple", data := .seq #[a, b] }).objs.size = s.heap.objs.size + 1 := Heap.size_push ..
  refine wpAny_pyIter_tuple hT (wpAny_bind (wpAny_newObj_type ?_))
  rw [nm]
  refine wpAny_pure ⟨plainId_quiet F.plain_min_loop _, ?_⟩
  have W := Walks.tuple (prog := prog) (w := w) (A := A.in1) hh ((s.heap.push { cls := .type "tuple", data := .seq #[a, b] }).objs.size) s.heap.objs.size (by rw [hsz]; exact Nat.ne_of_lt (Nat.lt_succ_self _)) #[a, b]
  have old : ∀ {c o}, s.heap.get? c = some o → c < s.heap.objs.size := fun e => Heap.lt_size e
  refine min_one (va := a) (vb := b) (k := k) W (fun z => ?_) rfl ⟨⟨_, Heap.get?_push_of_some _ (Heap.get?_push_size _ rfl), rfl, rfl⟩, (hT.push _).push _⟩ (fun v e => (Option.some.inj e).symm) (fun v e => (Option.some.inj e).symm) (Heap.get?_push_size _ rfl) (fun s' Q' E' hk q => hc s' Q' E' (fun c o e => hk c o (fun z => ?_) (fun z => ?_) (Heap.get?_push_of_some _ (Heap.get?_push_of_some _ (Heap.get?_push_of_some _ e)))) q) fun h' tk hk => h h' tk fun c o e => hk c o (fun z => ?_) (fun z => ?_) (Heap.get?_push_of_some _ (Heap.get?_push_of_some _ (Heap.get?_push_of_some _ e)))
  all_goals have h1 : ∀ o, ((s.heap.push { cls := .type "tuple", data := .seq #[a, b] }).push o).objs.size = s.heap.objs.size + 2 := fun o => by rw [Heap.size_push, hsz]
  · rw [h1] at z
    rcases List.mem_cons.mp z with z | z
    · rw [hsz] at z
      exact absurd (show s.heap.objs.size + 2 = s.heap.objs.size + 1 from z) (by omega)
    · exact absurd (show s.heap.objs.size + 2 = s.heap.objs.size from List.mem_singleton.mp z) (by omega)
  · have e1 := old e
    have e2 : c = s.heap.objs.size + 1 := (List.mem_singleton.mp z).trans hsz
    rw [e2] at e1
    exact absurd e1 (Nat.not_lt.mpr (Nat.le_succ _))
  · have e1 := old e
    rw [z, h1] at e1
    exact absurd e1 (Nat.not_lt.mpr (Nat.le_add_right _ _))
  · have e1 := old e
    have e2 : c = s.heap.objs.size + 1 := (List.mem_singleton.mp z).trans hsz
    rw [e2] at e1
    exact absurd e1 (Nat.not_lt.mpr (Nat.le_succ _))
  · have e1 := old e
    rw [z, h1] at e1
    exact absurd e1 (Nat.not_lt.mpr (Nat.le_add_right _ _))
end

section
variable {prog : Program} {w : World} {A : Around} {R : Result → Shared → Prop} {I S : Addr} {its : Array Value} {fp wr : List Addr} {n : Nat} {P : Nat → Value → Prop} {St : Nat → Heap → Prop}
theorem max_end (W : Walks prog w A.in1 I fp wr n P St) (hSw : S ∉ wr) {s : Shared} {vb : Value} {c : Nat} (hst : St n s.heap)
    (hS : s.heap.get? S = some { cls := .type "list", dict := none, data := .seq #[vb, vb] c, slots := #[] })
    (hR : ∀ h' tk, (∀ b o, b ∉ wr → b ≠ S → s.heap.get? b = some o → h'.get? b = some o) → R (.ok (.ret vb)) { s with heap := h', toks := tk }) :
    codeAny (model prog w) A (.builtin "max.loop" ⟨[.ref I, .none, .ref S], []⟩) R s := by
  refine codeAny_builtin F.entry_max_loop ?_
  rw [Around.under_plainId F.plain_max_loop _]
  refine wpAny_bind (wpAny_seqItems hS rfl (wpAny_bind (wpAny_tryCatch (W.done s _ _ hst fun h' tk hk' => ?_))))
  refine wpAny_bind (wpAny_updateSeq (hk' S _ hSw hS) rfl (wpAny_bind (wpAny_letGo (wpAny_pure (hR _ tk fun b o hbw hbS e => ?_)))))
  exact (Heap.get?_update_other _ _ (Ne.symm hbS)).trans (hk' b o hbw e)
theorem max_mid (W : Walks prog w A.in1 I fp wr n P St) (hSf : S ∉ fp) {s : Shared} {va vb : Value} {c i : Nat} {k : Bool} (hin : i + 1 = n) (hst : St i s.heap) (hP : ∀ v, P i v → v = vb)
    (hS : s.heap.get? S = some { cls := .type "list", dict := none, data := .seq #[va, va] c, slots := #[] })
    (hc : ∀ (s' : Shared) (Q' E' : Value → Shared → Prop), (∀ b o, b ∉ wr → b ≠ S → s.heap.get? b = some o → s'.heap.get? b = some o) → Q' (.bool k) s' → wpAny (model prog w) A.in1 (richCompare .Gt vb va) Q' E' s')
    (hR : ∀ h' tk, (∀ b o, b ∉ wr → b ≠ S → s.heap.get? b = some o → h'.get? b = some o) → R (.ok (.ret (if k then vb else va))) { s with heap := h', toks := tk }) :
    codeAny (model prog w) A (.builtin "max.loop" ⟨[.ref I, .none, .ref S], []⟩) R s := by
  have hSw : S ∉ wr := fun h => hSf (W.sub _ h)
  have nm : (toString "max" ++ toString ".loop" : String) = "max.loop" := by decide
  refine codeAny_builtin F.entry_max_loop ?_
  rw [Around.under_plainId F.plain_max_loop _]
  refine wpAny_bind (wpAny_seqItems hS rfl (wpAny_bind (wpAny_tryCatch (W.item i s _ _ (by omega) hst fun v h' tk hPv hst' hk' => ?_))))
  obtain rfl := hP v hPv
  have hS' := hk' S _ hSw hS
  show wpAny _ A.in1 (tryCatch (holding [v, v] (richCompare .Gt v va >>= _)) _ >>= _) _ _ _
  refine wpAny_bind (wpAny_tryCatch (wpAny_holding (wpAny_bind (hc _ _ _ (fun b o hbw _ e => hk' b o hbw e) ?_))))
  refine wpAny_bind (wpAny_holding (wpAny_truthy_bool (wpAny_bind (wpAny_letGo (wpAny_pure ?_)))))
  cases k with
  | true =>
    show wpAny _ A.in1 (updateSeq S (fun _ => #[v, v]) >>= _) _ _ _
    refine wpAny_bind ?_
    refine wpAny_updateSeq hS' rfl (wpAny_bind (wpAny_letGo ?_))
    rw [nm]
    refine wpAny_pure ⟨plainId_quiet F.plain_max_loop _, max_end W hSw (W.frame _ _ _ (hin ▸ hst') fun b hbf o e => ?_) (Heap.get?_update_self _ hS' rfl) fun h'' tk'' hk'' => ?_⟩
    · exact (Heap.get?_update_other _ _ (fun z : S = b => hSf (z ▸ hbf))).trans e
    · exact hR h'' tk'' fun b o hbw hbS e => hk'' b o hbw hbS ((Heap.get?_update_other _ _ (Ne.symm hbS)).trans (hk' b o hbw e))
  | false =>
    show wpAny _ A.in1 (letGo [v, v] >>= _) _ _ _
    refine wpAny_bind (wpAny_letGo ?_)
    rw [nm]
    exact wpAny_pure ⟨plainId_quiet F.plain_max_loop _, max_end W hSw (hin ▸ hst') hS' fun h'' tk'' hk'' => hR h'' tk'' fun b o hbw hbS e => hk'' b o hbw hbS (hk' b o hbw e)⟩
theorem max_one (W : Walks prog w A.in1 I fp wr n P St) (hSf : S ∉ fp) {s : Shared} {va vb : Value} {c : Nat} {k : Bool} (hn : 2 = n) (hst : St 0 s.heap) (hPa : ∀ v, P 0 v → v = va) (hPb : ∀ v, P 1 v → v = vb)
    (hS : s.heap.get? S = some { cls := .type "list", dict := none, data := .seq #[] c, slots := #[] })
    (hc : ∀ (s' : Shared) (Q' E' : Value → Shared → Prop), (∀ b o, b ∉ wr → b ≠ S → s.heap.get? b = some o → s'.heap.get? b = some o) → Q' (.bool k) s' → wpAny (model prog w) A.in1 (richCompare .Gt vb va) Q' E' s')
    (hR : ∀ h' tk, (∀ b o, b ∉ wr → b ≠ S → s.heap.get? b = some o → h'.get? b = some o) → R (.ok (.ret (if k then vb else va))) { s with heap := h', toks := tk }) :
    codeAny (model prog w) A (.builtin "max.loop" ⟨[.ref I, .none, .ref S], []⟩) R s := by
  have hSw : S ∉ wr := fun h => hSf (W.sub _ h)
  have nm : (toString "max" ++ toString ".loop" : String) = "max.loop" := by decide
  refine codeAny_builtin F.entry_max_loop ?_
  rw [Around.under_plainId F.plain_max_loop _]
  refine wpAny_bind (wpAny_seqItems hS rfl (wpAny_bind (wpAny_tryCatch (W.item 0 s _ _ (by omega) hst fun v h' tk hPv hst' hk' => ?_))))
  obtain rfl := hPa v hPv
  have hS' := hk' S _ hSw hS
  show wpAny _ A.in1 (updateSeq S (fun _ => #[v, v]) >>= _) _ _ _
  refine wpAny_bind ?_
  refine wpAny_updateSeq hS' rfl ?_
  rw [nm]
  refine wpAny_pure ⟨plainId_quiet F.plain_max_loop _, max_mid W hSf hn (W.frame _ _ _ hst' fun b hbf o e => ?_) hPb (Heap.get?_update_self _ hS' rfl) (fun s' Q' E' hk'' q => hc s' Q' E' (fun b o hbw hbS e => hk'' b o hbw hbS ((Heap.get?_update_other _ _ (Ne.symm hbS)).trans (hk' b o hbw e))) q) fun h'' tk'' hk'' => ?_⟩
  · exact (Heap.get?_update_other _ _ (fun z : S = b => hSf (z ▸ hbf))).trans e
  · exact hR h'' tk'' fun b o hbw hbS e => hk'' b o hbw hbS ((Heap.get?_update_other _ _ (Ne.symm hbS)).trans (hk' b o hbw e))
end
section
variable {prog : Program} {w : World} {A : Around} {E : Value → Shared → Prop}
/-- max of two values, where the compare needs the heap -/
theorem max2_at {a b : Value} {k : Bool} {s : Shared} {Q : Value → Shared → Prop} (hh : A.handled = none)
    (hc : ∀ (s' : Shared) (Q' E' : Value → Shared → Prop), Stands s.heap s'.heap → Q' (.bool k) s' → wpAny (model prog w) A.in1 (richCompare .Gt b a) Q' E' s')
    (h : ∀ h' tk, Stands s.heap h' → Q (if k then b else a) { s with heap := h', toks := tk }) : wpAny (model prog w) A (call (.builtin "max") [a, b]) Q E s := by
  have nm : (toString "max" ++ toString ".loop" : String) = "max.loop" := by decide
  refine call_function_tree F.kind_max F.plain_max F.entry_max (F.args_max2 _ _) ?_
  refine wpAny_bind (wpAny_of_eq (show Builtin.Builtins.bindParams "max" ["key", "default"] 0 ⟨[], []⟩ = pure [none, none] from rfl) ?_)
  show wpAny _ A.in1 (newTuple [a, b] >>= _) _ _ s
  refine wpAny_bind (wpAny_newObj_type (wpAny_bind ?_))
  have hT : (s.heap.push { cls := .type "tuple", data := .seq #[a, b] }).IsTuple s.heap.objs.size #[a, b] := ⟨_, Heap.get?_push_size _ rfl, rfl, 0, rfl⟩
  have hsz : (s.heap.push { cls := .type "tuple", data := .seq #[a, b] }).objs.size = s.heap.objs.size + 1 := Heap.size_push ..
  refine wpAny_pyIter_tuple hT (wpAny_bind (wpAny_newObj_type ?_))
  rw [nm]
  refine wpAny_pure ⟨plainId_quiet F.plain_max_loop _, ?_⟩
  have W := Walks.tuple (prog := prog) (w := w) (A := A.in1) hh ((s.heap.push { cls := .type "tuple", data := .seq #[a, b] }).objs.size) s.heap.objs.size (by rw [hsz]; exact Nat.ne_of_lt (Nat.lt_succ_self _)) #[a, b]
  have old : ∀ {c o}, s.heap.get? c = some o → c < s.heap.objs.size := fun e => Heap.lt_size e
  refine max_one (va := a) (vb := b) (k := k) W (fun z => ?_) rfl ⟨⟨_, Heap.get?_push_of_some _ (Heap.get?_push_size _ rfl), rfl, rfl⟩, (hT.push _).push _⟩ (fun v e => (Option.some.inj e).symm) (fun v e => (Option.some.inj e).symm) (Heap.get?_push_size _ rfl) (fun s' Q' E' hk q => hc s' Q' E' (fun c o e => hk c o (fun z => ?_) (fun z => ?_) (Heap.get?_push_of_some _ (Heap.get?_push_of_some _ (Heap.get?_push_of_some _ e)))) q) fun h' tk hk => h h' tk fun c o e => hk c o (fun z => ?_) (fun z => ?_) (Heap.get?_push_of_some _ (Heap.get?_push_of_some _ (Heap.get?_push_of_some _ e)))
  all_goals have h1 : ∀ o, ((s.heap.push { cls := .type "tuple", data := .seq #[a, b] }).push o).objs.size = s.heap.objs.size + 2 := fun o => by rw [Heap.size_push, hsz]
  · rw [h1] at z
    rcases List.mem_cons.mp z with z | z
    · rw [hsz] at z
      exact absurd (show s.heap.objs.size + 2 = s.heap.objs.size + 1 from z) (by omega)
    · exact absurd (show s.heap.objs.size + 2 = s.heap.objs.size from List.mem_singleton.mp z) (by omega)
  · have e1 := old e
    have e2 : c = s.heap.objs.size + 1 := (List.mem_singleton.mp z).trans hsz
    rw [e2] at e1
    exact absurd e1 (Nat.not_lt.mpr (Nat.le_succ _))
  · have e1 := old e
    rw [z, h1] at e1
    exact absurd e1 (Nat.not_lt.mpr (Nat.le_add_right _ _))
  · have e1 := old e
    have e2 : c = s.heap.objs.size + 1 := (List.mem_singleton.mp z).trans hsz
    rw [e2] at e1
    exact absurd e1 (Nat.not_lt.mpr (Nat.le_succ _))
  · have e1 := old e
    rw [z, h1] at e1
    exact absurd e1 (Nat.not_lt.mpr (Nat.le_add_right _ _))
end

section
variable {A : Around} {s : Shared} {x y : Int} {z z' : Str} {u v : Value}

theorem is_lt (h1 : IsIS s.heap u x z) (h2 : IsIS s.heap v y z') (hne : x ≠ y) (hu : A.units < cLine) : Ob.RcOp .Lt A s u v (decide (x < y)) := by
  obtain ⟨a, o, t, t1, n, rfl, ho, hc, hd⟩ := h1
  obtain ⟨a', o', t', t2, n', rfl, ho', hc', hd'⟩ := h2
  have key := Ob.RcOp.tuples_lt (A := A) (s := s) (items := #[.int x t, .str z t1]) (items2 := #[.int y t', .str z' t2]) (e := fun j => if j = 0 then (x == y) else (z == z')) (r := fun j => if j = 0 then decide (x < y) else decide (z.cps.toList < z'.cps.toList)) ⟨o, ho, hc, n, hd⟩ ⟨o', ho', hc', n', hd'⟩ hu (fun j => match j with
    | 0 => fun _ _ => SeqAt.EqAt.int_int x t y t'
    | 1 => fun _ _ => SeqAt.EqAt.str_str z t1 z' t2
    | j + 2 => fun h _ => absurd h (by simp)) (fun j => match j with
    | 0 => fun _ _ _ => .lt_int x y t t'
    | 1 => fun _ _ _ prog w E Q q => lt_str (prog := prog) (w := w) q
    | j + 2 => fun h _ => absurd h (by simp))
  have e0 : (x == y) = false := by simpa using hne
  have e : Ob.lexAt (fun j => if j = 0 then (x == y) else (z == z')) (fun j => if j = 0 then decide (x < y) else decide (z.cps.toList < z'.cps.toList)) (decide (2 < 2)) 0 2 = decide (x < y) := by
    rw [Ob.lexAt_succ, if_neg (by rw [if_pos rfl, e0]; decide), if_pos rfl]
  intro prog w E Q q
  exact key prog w E Q (by rw [← e] at q; exact q)

theorem is_gt (h1 : IsIS s.heap u x z) (h2 : IsIS s.heap v y z') (hne : x ≠ y) (hu : A.units < cLine) : Ob.RcOp .Gt A s u v (decide (y < x)) := by
  obtain ⟨a, o, t, t1, n, rfl, ho, hc, hd⟩ := h1
  obtain ⟨a', o', t', t2, n', rfl, ho', hc', hd'⟩ := h2
  have key := Ob.RcOp.tuples_gt (A := A) (s := s) (items := #[.int x t, .str z t1]) (items2 := #[.int y t', .str z' t2]) (e := fun j => if j = 0 then (x == y) else (z == z')) (r := fun j => if j = 0 then decide (y < x) else decide (z'.cps.toList < z.cps.toList)) ⟨o, ho, hc, n, hd⟩ ⟨o', ho', hc', n', hd'⟩ hu (fun j => match j with
    | 0 => fun _ _ => SeqAt.EqAt.int_int x t y t'
    | 1 => fun _ _ => SeqAt.EqAt.str_str z t1 z' t2
    | j + 2 => fun h _ => absurd h (by simp)) (fun j => match j with
    | 0 => fun _ _ _ => .gt_int x y t t'
    | 1 => fun _ _ _ prog w E Q q => PySem.P.gt_str (prog := prog) (w := w) q
    | j + 2 => fun h _ => absurd h (by simp))
  have e0 : (x == y) = false := by simpa using hne
  have e : Ob.lexAt (fun j => if j = 0 then (x == y) else (z == z')) (fun j => if j = 0 then decide (y < x) else decide (z'.cps.toList < z.cps.toList)) (decide (2 > 2)) 0 2 = decide (y < x) := by
    rw [Ob.lexAt_succ, if_neg (by rw [if_pos rfl, e0]; decide), if_pos rfl]
  intro prog w E Q q
  exact key prog w E Q (by rw [← e] at q; exact q)
end
section
variable {X : Cx}
/-- min(t1, t2), max(t1, t2) -/
def rMinIS : List V → Hp → VK → Prop := fun vs H Q => ∃ (t1 t2 : Addr) (i1 i2 : Int) (z1 z2 : Str), vs = [V.ref t1, V.ref t2] ∧ H t1 = some (.tup [.int i1, .str z1]) ∧ H t2 = some (.tup [.int i2, .str z2]) ∧ i1 ≠ i2 ∧ Q (.ref (if i2 < i1 then t2 else t1)) H
def rMaxIS : List V → Hp → VK → Prop := fun vs H Q => ∃ (t1 t2 : Addr) (i1 i2 : Int) (z1 z2 : Str), vs = [V.ref t1, V.ref t2] ∧ H t1 = some (.tup [.int i1, .str z1]) ∧ H t2 = some (.tup [.int i2, .str z2]) ∧ i1 ≠ i2 ∧ Q (.ref (if i1 < i2 then t2 else t1)) H
theorem isIS_of {pins : List (Addr × Obj)} {σ : L2.St} {H : Hp} {s : Shared} (I : L2.Inv X pins σ H s) {t : Addr} {i : Int} {z : Str} (ht : H t = some (.tup [.int i, .str z])) : IsIS s.heap (.ref t) i z := by
  obtain ⟨_, its2, r2, o, ho, hc, n, hd⟩ := I.hok _ _ ht
  obtain ⟨u1, u2, rfl, ri, rj⟩ := vals2 r2
  obtain ⟨k1, rfl⟩ := ri
  obtain ⟨k2, rfl⟩ := rj
  exact ⟨t, o, k1, k2, n, rfl, ho, hc, hd⟩
theorem cr_minIS (hc : X.calm = true) (hu : X.A.units + 1 < cLine) : CallR X (.builtin "min") rMinIS := by
  intro pins s σ H vs us Q I r h
  obtain ⟨t1, t2, i1, i2, z1, z2, rfl, ht1, ht2, hne, q⟩ := h
  obtain ⟨u1, u2, rfl, r1, r2⟩ := vals2 r
  obtain rfl : u1 = Value.ref t1 := r1
  obtain rfl : u2 = Value.ref t2 := r2
  have j1 := isIS_of I ht1
  have j2 := isIS_of I ht2
  refine min2_at (k := decide (i2 < i1)) (I.ok.hd hc) (fun s' Q' E' k q' => is_lt (j2.keeps fun b o e _ => k b o e) (j1.keeps fun b o e _ => k b o e) (Ne.symm hne) ?_ _ _ _ _ q') fun h' tk k => ⟨_, H, I.kept k, ?_, q⟩
  · show X.A.units + 1 < cLine
    exact hu
  · by_cases hl : i2 < i1
    · rw [if_pos hl, if_pos (decide_eq_true hl)]; rfl
    · rw [if_neg hl, if_neg (by simpa using hl)]; rfl
theorem cr_maxIS (hc : X.calm = true) (hu : X.A.units + 1 < cLine) : CallR X (.builtin "max") rMaxIS := by
  intro pins s σ H vs us Q I r h
  obtain ⟨t1, t2, i1, i2, z1, z2, rfl, ht1, ht2, hne, q⟩ := h
  obtain ⟨u1, u2, rfl, r1, r2⟩ := vals2 r
  obtain rfl : u1 = Value.ref t1 := r1
  obtain rfl : u2 = Value.ref t2 := r2
  have j1 := isIS_of I ht1
  have j2 := isIS_of I ht2
  refine max2_at (k := decide (i1 < i2)) (I.ok.hd hc) (fun s' Q' E' k q' => is_gt (j2.keeps fun b o e _ => k b o e) (j1.keeps fun b o e _ => k b o e) (Ne.symm hne) ?_ _ _ _ _ q') fun h' tk k => ⟨_, H, I.kept k, ?_, q⟩
  · show X.A.units + 1 < cLine
    exact hu
  · by_cases hl : i1 < i2
    · rw [if_pos hl, if_pos (decide_eq_true hl)]; rfl
    · rw [if_neg hl, if_neg (by simpa using hl)]; rfl
end
end Sk

/-! Further rules: targets, for, dicts, fields, methods, slices. -/
namespace Sk
open PySem PySem.Spec PyProof.Rows L2

section
variable {K : PySem.W.Frag} {σ : L2.St} {Hc H H' : Hp} {ta tb tc te tx tl td ty : TE} {t u tt : TT} {x y z v w : V} {P P' Pa Pb : V → Hp → Prop} {a b : Bool} {wi : TI} {g : TG} {n : Nat} {Y : Nat → V → Hp → Prop} {D : Ends} {tz tu tw : TS}

/-! ### targets -/
theorem g_pair {i j : Nat} {p : Addr} {S : L2.St → Hp → Prop} (hp : SqT K Hc p [v, w]) (h : ∀ B, Ex Hc B → S ((σ.set i (some v)).set j (some w)) B) : EvG (gTup K 2 (gCons (gName i) (gCons (gName j) gNil))) (.ref p) σ Hc S :=
  fun B H a b Q q => ⟨p, [v, w], rfl, (a.trans b).t hp, rfl, v, [w], rfl, w, [], rfl, rfl, q _ B H (.refl b) (h B a)⟩

/-! ### walks -/
/-- each item of the tuple in a new pair with its number -/
theorem i_enum {xs : List V} (hl : EvP tl σ Hc fun u B => ∃ p, u = .ref p ∧ SqT K B p xs) : EvI (iEnumT K (tCons tl tNil)) σ Hc xs.length fun i v B => ∃ T x, v = .ref T ∧ xs[i]? = some x ∧ SqT K B T [.int (i : Nat), x] := fun B H a b R q =>
  hl B H a b _ fun v B1 H1 g1 ⟨p, e, hs⟩ => ⟨p, xs, by rw [e], g1.sub.t hs, q _ B1 H1 g1
    ⟨fun i H hi h => ⟨xs, xs[i], h.t hs, List.getElem?_eq_getElem hi⟩, fun H h => ⟨xs, h.t hs, Nat.le_refl _⟩, fun i B2 H x H' hi h1 h2 y => by
      obtain ⟨T, x', e1, hn, e2, h3⟩ := y
      subst e1 e2
      exact ⟨_, (GoF.refl h2).laid hn, T, x', rfl, h3 xs ((h1.trans h2).t hs), st_of upd_same⟩⟩⟩
/-- range beside a tuple of its length -/
theorem i_zipR {ta' : TA} {lo : Int} {m : Nat} {ys : List V} (ha : EvAV ta' σ Hc [.int lo, .int (lo + m)]) (h0 : 0 ≤ lo ∧ lo + m ≤ 100000) (hl : EvP tl σ Hc fun u B => ∃ p, u = .ref p ∧ SqT K B p ys) (hm : ys.length = m) :
    EvI (iZipRT K ta' tl) σ Hc m fun i v B => ∃ T y, v = .ref T ∧ ys[i]? = some y ∧ SqT K B T [.int (lo + (i : Nat)), y] := fun B H a b R q =>
  ha B H a b _ fun vs B1 H1 g1 e => by
    have e0 : ((lo + m) - lo).toNat = m := by omega
    refine ⟨lo, lo + m, e, RgOk.of_le (by omega) (by omega) (by omega) (by omega), ?_⟩
    rw [e0]
    refine (hl.mono (a.trans g1.up)) B1 H1 (Ex.refl _) g1.sub _ fun v B2 H2 g2 ⟨p, e2, hs⟩ => ⟨p, ys, e2, g2.sub.t hs, hm, q _ B2 H2 (g1.trans g2)
      ⟨fun i H hi h => ⟨hi, ys, h.t hs, hm⟩, fun H h => ⟨rfl, ys, h.t hs, hm⟩, fun i B3 H x H' hi h1 h2 y => ?_⟩⟩
    obtain ⟨T, x', e1, hn, e2, h3⟩ := y
    subst e1 e2
    exact ⟨_, (GoF.refl h2).laid hn, T, x', rfl, h3 ys ((h1.trans h2).t hs), st_of upd_same⟩
theorem EvI.mono {H' : Hp} (h : EvI wi σ Hc n Y) (e : Ex Hc H') : EvI wi σ H' n Y := fun B H1 a b R q => h B H1 (e.trans a) b R q
theorem EvI.is {m : Nat} (h : EvI wi σ Hc n Y) (e : n = m) : EvI wi σ Hc m Y := by rw [← e]; exact h
theorem EvI.wk {Y' : Nat → V → Hp → Prop} (h : EvI wi σ Hc n Y) (w : ∀ i x B, i < n → Ex Hc B → Y i x B → Y' i x B) : EvI wi σ Hc n Y' := fun B H a b R q => h B H a b R fun J B2 H2 g2 wk => q J B2 H2 g2
  ⟨wk.goes, wk.stops, fun i B1 H x H' hi h1 h2 y => let ⟨B3, g3, hy⟩ := wk.yields i B1 H x H' hi h1 h2 y; ⟨B3, g3, w i x B3 hi ((a.trans g2.up).trans (h1.trans g3.up)) hy⟩⟩

/-! ### for, while -/
/-- what a body is to reach -/
def Nxt (W : L2.St → Hp → Hp → Prop) (B0 : Hp) : L2.St → Hp → Prop := fun σ H => ∃ B, Ex B0 B ∧ Ex B H ∧ W σ B H
theorem s_for {tb : TS} (W : Nat → L2.St → Hp → Hp → Prop) (hi : EvI wi σ Hc n Y) (e : Ex Hc H) (h0 : ∀ B H1, Go Hc H B H1 → W 0 σ B H1)
    (step : ∀ i σ1 B1 H1 x B2 H2, i < n → Ex Hc B1 → Ex B1 H1 → W i σ1 B1 H1 → Go B1 H1 B2 H2 → Y i x B2 → g x σ1 H2 (tb { D with nx := Nxt (W (i + 1)) B1, ct := Nxt (W (i + 1)) B1, bk := D.nx }))
    (done : ∀ σ1 B1 H1, Ex Hc B1 → Ex B1 H1 → W n σ1 B1 H1 → D.nx σ1 H1) : tFor wi g tb D σ H := hi Hc H (Ex.refl _) e _ fun J B0 H0 g0 w => by
  refine ⟨fun i m σ1 H1 => m = n - i ∧ i ≤ n ∧ ∃ B1, Ex B0 B1 ∧ Ex B1 H1 ∧ W i σ1 B1 H1, ⟨n, by simp, Nat.zero_le _, B0, Ex.refl _, g0.sub, h0 B0 H0 g0⟩, ?_⟩
  rintro i m σ1 H1 ⟨rfl, hin, B1, e1, e2, hW⟩
  by_cases hlt : i < n
  · refine .inr ⟨w.goes i H1 hlt (e1.trans e2), Nxt (W (i + 1)) B1, fun σ2 H2 ⟨B2, e3, e4, hW2⟩ => ⟨n - (i + 1), by omega, rfl, hlt, B2, e1.trans e3, e4, hW2⟩, fun x H2 y => ?_⟩
    obtain ⟨B2, g2, hY⟩ := w.yields i B1 H1 x H2 hlt e1 e2 y
    exact step i σ1 B1 H1 x B2 H2 hlt (g0.up.trans e1) e2 hW g2 hY
  · have ei : i = n := by omega
    subst ei
    exact .inl ⟨w.stops H1 (e1.trans e2), done σ1 B1 H1 (g0.up.trans e1) e2 hW⟩
/-- what was shown over the whole heap, seen over a smaller base -/
theorem GoF.hid {B B2 H2 : Hp} (g : Go H H B2 H2) (e : Ex B H) : Go B H B H2 := ⟨Ex.refl _, e.trans g.ex, g.keep, fun _ h _ => h, g.there⟩
/-- what is new stays shown -/
def addB (B H B2 : Hp) : Hp := fun b => match B b with
  | some o => some o
  | none => if H b = none then B2 b else none
theorem GoF.part {B B2 H2 : Hp} (g : Go H H B2 H2) (e : Ex B H) : Go B H (addB B H B2) H2 := by
  refine ⟨fun b o h => by simp only [addB, h], fun b o h => ?_, g.keep, fun b h1 h2 => by simp only [addB, h1]; rw [if_neg h2], g.there⟩
  unfold addB at h
  cases hb : B b with
  | some o' => rw [hb] at h; rw [← Option.some.inj h]; exact g.ex _ _ (e _ _ hb)
  | none =>
    rw [hb] at h
    by_cases hn : H b = none
    · simp only [hn, if_true] at h; exact g.sub _ _ h
    · simp only [hn, if_false] at h; cases h
theorem addB_new {B B2 : Hp} {b : Addr} {o : HO} (hB : Ex B H) (h : H b = none) (h2 : B2 b = some o) : addB B H B2 b = some o := by
  simp only [addB, hB.none h, h, if_true]; exact h2
theorem s_while {tb : TS} {B0 : Hp} (W : Nat → L2.St → Hp → Hp → Prop) {m0 : Nat} (e : Ex B0 H) (h0 : W m0 σ B0 H)
    (step : ∀ m σ1 B1 H1, Ex B0 B1 → Ex B1 H1 → W m σ1 B1 H1 → ∃ b, EvT t σ1 H1 b ∧ (b = false → ∀ H2, Go B1 H1 B1 H2 → D.nx σ1 H2) ∧
      (b = true → ∀ H2, Go B1 H1 B1 H2 → tb { D with nx := fun σ2 H3 => ∃ m', m' < m ∧ Nxt (W m') B1 σ2 H3, ct := fun σ2 H3 => ∃ m', m' < m ∧ Nxt (W m') B1 σ2 H3, bk := D.nx } σ1 H2)) : tWhile t tb D σ H := by
  refine ⟨fun m σ1 H1 => ∃ B1, Ex B0 B1 ∧ Ex B1 H1 ∧ W m σ1 B1 H1, ⟨m0, B0, Ex.refl _, e, h0⟩, ?_⟩
  rintro m σ1 H1 ⟨B1, e1, e2, hW⟩
  obtain ⟨b, hb, hf, ht⟩ := step m σ1 B1 H1 e1 e2 hW
  refine hb H1 H1 (Ex.refl _) (Ex.refl _) _ fun B2 H2 g => ?_
  have g' := g.hid e2
  cases b with
  | false => exact hf rfl H2 g'
  | true => exact ⟨_, fun σ2 H3 ⟨m', hm, B3, e3, e4, hW3⟩ => ⟨m', hm, B3, e1.trans e3, e4, hW3⟩, ht rfl H2 g'⟩

/-! ### fields, methods, dicts, slices -/
theorem e_fld {c C dx : Addr} {fs : List (Str × V)} {f : Str} (ha : EvV ta σ Hc (.ref c)) (hI : Hc c = some (.ins C dx fs)) (hC : Cls K C) (hn : NoAttr K C f) (hl : fs.lookup f = some v) (p : ∀ B, Ex Hc B → P v B) : EvP (tFld K ta f) σ Hc P := fun B H a b Q q =>
  ha B H a b _ fun x B1 H1 g1 e => ⟨c, C, dx, fs, v, e, g1.sub _ _ (g1.up _ _ (a _ _ hI)), hC, hn, hl, q v B1 H1 g1 (p B1 (a.trans g1.up))⟩
theorem v_fld {c C dx : Addr} {fs : List (Str × V)} {f : Str} (ha : EvV ta σ Hc (.ref c)) (hI : Hc c = some (.ins C dx fs)) (hC : Cls K C) (hn : NoAttr K C f) (hl : fs.lookup f = some v) : EvV (tFld K ta f) σ Hc v := e_fld ha hI hC hn hl fun _ _ => rfl
theorem e_meth {c C dx : Addr} {fs : List (Str × V)} {m : Str} {sp : Sp} {dvs : List V} {E : XK} {tr : TA} {PA : List V → Hp → Prop} (ha : EvV ta σ Hc (.ref c)) (hI : Hc c = some (.ins C dx fs)) (hl : fs.lookup m = none) (h : EvA tr σ Hc PA) (hs : ∀ vs B, Ex Hc B → PA vs B → SpP sp (.ref c :: (vs ++ dvs)) B P) : EvP (tMeth C m sp dvs E ta tr) σ Hc P := fun B H a b Q q =>
  ha B H a b _ fun x B1 H1 g1 e => ⟨c, dx, fs, e, g1.sub _ _ (g1.up _ _ (a _ _ hI)), hl, h B1 H1 (a.trans g1.up) g1.sub _ fun vs B2 H2 g2 p2 => by
    rw [e]
    exact hs vs B2 ((a.trans g1.up).trans g2.up) p2 B2 H2 (Ex.refl _) g2.sub Q (fun v B3 H3 g3 p3 => q v B3 H3 ((g1.trans g2).trans g3) p3) E⟩
/-- a dict read at a key -/
theorem e_dget {p : Addr} {kvs : List (Key × V)} {k : Key} (hd : EvP td σ Hc fun u B => u = .ref p ∧ Rd B p (.dK kvs)) (hy : EvV ty σ Hc (kV k)) (hv : valV kvs k = some v) (pv : ∀ B, Ex Hc B → P v B) : EvP (tDGet td ty) σ Hc P := fun B H a b Q q =>
  hd B H a b _ fun x B1 H1 g1 ⟨e, hk⟩ => hy B1 H1 (a.trans g1.up) g1.sub _ fun y B2 H2 g2 e2 => ⟨p, v, e, .inl ⟨kvs, k, (g2.up.trans g2.sub).rd hk, e2, hv.symm⟩, q v B2 H2 (g1.trans g2) (pv B2 ((a.trans g1.up).trans g2.up))⟩
theorem e_dgetT {p : Addr} {kvs : List (List Key × V)} {k : List Key} (hd : EvP td σ Hc fun u B => u = .ref p ∧ Rd B p (.dT kvs)) (hy : EvP ty σ Hc fun u B => ∃ b, u = .ref b ∧ B b = some (.tup (k.map kV))) (hv : valV kvs k = some v) (pv : ∀ B, Ex Hc B → P v B) : EvP (tDGet td ty) σ Hc P := fun B H a b Q q =>
  hd B H a b _ fun x B1 H1 g1 ⟨e, hk⟩ => hy B1 H1 (a.trans g1.up) g1.sub _ fun y B2 H2 g2 ⟨b', e2, hb⟩ => ⟨p, v, e, .inr ⟨kvs, k, b', (g2.up.trans g2.sub).rd hk, e2, g2.sub _ _ hb, hv.symm⟩, q v B2 H2 (g1.trans g2) (pv B2 ((a.trans g1.up).trans g2.up))⟩
theorem v_dinT {p : Addr} {kvs : List (List Key × V)} {k : List Key} (hy : EvP ty σ Hc fun u B => ∃ b, u = .ref b ∧ B b = some (.tup (k.map kV))) (hd : EvV td σ Hc (.ref p)) (hp : Rd Hc p (.dT kvs)) : EvV (tDIn ty td) σ Hc (.bl (valV kvs k).isSome) := fun B H a b Q q =>
  hy B H a b _ fun y B1 H1 g1 ⟨b', e2, hb⟩ => hd B1 H1 (a.trans g1.up) g1.sub _ fun x B2 H2 g2 e => ⟨p, _, e, .inr ⟨kvs, k, b', ((a.trans g1.up).trans (g2.up.trans g2.sub)).rd hp, e2, (g2.up.trans g2.sub) _ _ hb, rfl⟩, q _ B2 H2 (g1.trans g2) rfl⟩
theorem v_dninT {p : Addr} {kvs : List (List Key × V)} {k : List Key} (hy : EvP ty σ Hc fun u B => ∃ b, u = .ref b ∧ B b = some (.tup (k.map kV))) (hd : EvV td σ Hc (.ref p)) (hp : Rd Hc p (.dT kvs)) : EvV (tDNotIn ty td) σ Hc (.bl (!(valV kvs k).isSome)) := fun B H a b Q q =>
  hy B H a b _ fun y B1 H1 g1 ⟨b', e2, hb⟩ => hd B1 H1 (a.trans g1.up) g1.sub _ fun x B2 H2 g2 e => ⟨p, _, e, .inr ⟨kvs, k, b', ((a.trans g1.up).trans (g2.up.trans g2.sub)).rd hp, e2, (g2.up.trans g2.sub) _ _ hb, rfl⟩, q _ B2 H2 (g1.trans g2) rfl⟩
theorem v_din {p : Addr} {kvs : List (Key × V)} {k : Key} (hy : EvV ty σ Hc (kV k)) (hd : EvV td σ Hc (.ref p)) (hp : Rd Hc p (.dK kvs)) : EvV (tDIn ty td) σ Hc (.bl (valV kvs k).isSome) := fun B H a b Q q =>
  hy B H a b _ fun y B1 H1 g1 e2 => hd B1 H1 (a.trans g1.up) g1.sub _ fun x B2 H2 g2 e => ⟨p, _, e, .inl ⟨kvs, k, ((a.trans g1.up).trans (g2.up.trans g2.sub)).rd hp, e2, rfl⟩, q _ B2 H2 (g1.trans g2) rfl⟩
/-- all(list of truth values) -/
theorem v_all {bs : List Bool} (h : EvP ta σ Hc fun u B => ∃ p, u = .ref p ∧ SqL K B p (bs.map V.bl)) : EvV (tCB (rAll K) (tCons ta tNil)) σ Hc (.bl (bs.all id)) := fun B H a b Q q =>
  h B H a b _ fun v B1 H1 g1 ⟨p, e, hs⟩ => ⟨p, bs, by rw [e], g1.sub.l hs, q _ B1 H1 g1 rfl⟩
theorem v_any {bs : List Bool} (h : EvP ta σ Hc fun u B => ∃ p, u = .ref p ∧ SqL K B p (bs.map V.bl)) : EvV (tCB (rAny K) (tCons ta tNil)) σ Hc (.bl (bs.any id)) := fun B H a b Q q =>
  h B H a b _ fun v B1 H1 g1 ⟨p, e, hs⟩ => ⟨p, bs, by rw [e], g1.sub.l hs, q _ B1 H1 g1 rfl⟩
end
end Sk

/-! Data, and rules for built-in calls and slices. -/
namespace Sk
open PySem PySem.Spec PyProof.Rows L2

/-! ### data -/
abbrev vN (k : Nat) : V := .int (k : Nat)
/-- a tuple of numbers -/
def IsRow (H : Hp) (v : V) (r : List Nat) : Prop := ∃ a, v = .ref a ∧ H a = some (.tup (r.map vN))
/-- a tuple that stands, or stands known to the object, without a dict of its own -/
def TR (H : Hp) (a : Addr) (xs : List V) : Prop := H a = some (.tup xs) ∨ ∃ o : Obj, o.dict = none ∧ H a = some (.frz o (.tup xs))
theorem TR.up {H H' : Hp} {a : Addr} {xs : List V} (h : TR H a xs) (e : Ex H H') : TR H' a xs := by
  rcases h with h | ⟨o, h1, h2⟩
  · exact .inl (e _ _ h)
  · exact .inr ⟨o, h1, e _ _ h2⟩
theorem TR.st {K : PySem.W.Frag} {H : Hp} {a : Addr} {xs : List V} (h : TR H a xs) : SqT K H a xs := by
  rcases h with h | ⟨o, _, h⟩
  · exact .inl (.inl h)
  · exact .inl (.inr ⟨o, h⟩)
theorem TR.ty {K : PySem.W.Frag} {H : Hp} {a : Addr} {xs : List V} (h : TR H a xs) : TyX K H (.ref a) (.type "tuple") := by
  rcases h with h | ⟨o, _, h⟩
  · exact .base (.tup h)
  · exact .fTuple h
/-- a ranking -/
def IsRw (H : Hp) (v : V) (r : List Nat) : Prop := ∃ a, v = .ref a ∧ TR H a (r.map vN)
theorem IsRw.up {H H' : Hp} {v : V} {r : List Nat} (h : IsRw H v r) (e : Ex H H') : IsRw H' v r := let ⟨a, h1, h2⟩ := h; ⟨a, h1, h2.up e⟩
def IsRk (H : Hp) (v : V) (R : List (List Nat)) : Prop := ∃ a vs, v = .ref a ∧ H a = some (.tup vs) ∧ Seq2 (IsRw H) vs R
def IsTd (H : Hp) (v : V) (r : List Nat) : Prop := ∃ d kvs, v = .ref d ∧ H d = some (.dK kvs) ∧ ∀ (i j : Nat), r[i]? = some j → valV kvs (.inl (j : Int)) = some (vN i)
def IsTab (H : Hp) (v : V) (R : List (List Nat)) : Prop := ∃ a vs, v = .ref a ∧ H a = some (.lst vs) ∧ Seq2 (IsTd H) vs R
theorem IsRow.up {H H' : Hp} {v : V} {r : List Nat} (h : IsRow H v r) (e : Ex H H') : IsRow H' v r := let ⟨a, h1, h2⟩ := h; ⟨a, h1, e _ _ h2⟩
theorem IsRk.up {H H' : Hp} {v : V} {R : List (List Nat)} (h : IsRk H v R) (e : Ex H H') : IsRk H' v R := let ⟨a, vs, h1, h2, h3⟩ := h; ⟨a, vs, h1, e _ _ h2, h3.imp fun _ _ h => h.up e⟩
theorem IsTd.up {H H' : Hp} {v : V} {r : List Nat} (h : IsTd H v r) (e : Ex H H') : IsTd H' v r := let ⟨a, vs, h1, h2, h3⟩ := h; ⟨a, vs, h1, e _ _ h2, h3⟩
theorem IsTab.up {H H' : Hp} {v : V} {R : List (List Nat)} (h : IsTab H v R) (e : Ex H H') : IsTab H' v R := let ⟨a, vs, h1, h2, h3⟩ := h; ⟨a, vs, h1, e _ _ h2, h3.imp fun _ _ h => h.up e⟩
structure Rkg (n : Nat) (R : List (List Nat)) : Prop where
  pos : 1 ≤ n
  le : n ≤ 40
  len : R.length = n
  row : ∀ r ∈ R, r.length = n ∧ r.Nodup ∧ ∀ k ∈ r, k < n
def rkOf (R : List (List Nat)) (p y : Nat) : Nat := (R.getD p []).idxOf y
theorem Rkg.get {n : Nat} {R : List (List Nat)} (h : Rkg n R) {p y : Nat} (hp : p < n) (hy : y < n) : ∃ r, R[p]? = some r ∧ r[rkOf R p y]? = some y ∧ rkOf R p y < n ∧ r.length = n := by
  have hl : p < R.length := by rw [h.len]; exact hp
  have e : R[p]? = some R[p] := List.getElem?_eq_getElem hl
  obtain ⟨h1, h2, h3⟩ := h.row _ (List.getElem_mem hl)
  have hm : y ∈ R[p] := Sw.nodup_all h2 (m := List.range n) (fun a ha => List.mem_range.mpr (h3 a ha)) (by rw [List.length_range, h1]; exact Nat.le_refl _) y (List.mem_range.mpr hy)
  have er : R.getD p [] = R[p] := by rw [List.getD_eq_getElem?_getD, e]; rfl
  have hi := List.idxOf_lt_length_of_mem hm
  refine ⟨_, e, ?_, ?_, h1⟩
  · unfold rkOf
    rw [er, List.getElem?_eq_getElem hi, List.getElem_idxOf]
  · unfold rkOf
    rw [er]; omega
theorem Rkg.inj {n : Nat} {R : List (List Nat)} (h : Rkg n R) (p y z : Nat) (hp : p < n) (hy : y < n) (hz : z < n) (e : rkOf R p y = rkOf R p z) : y = z := by
  obtain ⟨r, h1, h2, _⟩ := h.get hp hy
  obtain ⟨r', h3, h4, _⟩ := h.get hp hz
  rw [h1] at h3
  cases h3
  rw [e, h4] at h2
  exact (Option.some.inj h2).symm

section
variable {K : PySem.W.Frag} {σ : L2.St} {Hc H H' : Hp} {ta tb tc te tx tl td ty : TE} {t u tt : TT} {x y z v w : V} {P P' Pa Pb : V → Hp → Prop} {a b : Bool} {wi : TI} {g : TG} {n : Nat} {Y : Nat → V → Hp → Prop} {D : Ends} {tz tu tw : TS} {xs ys : List V}
/-- a standing tuple with these items -/
abbrev EvTup (te : TE) (σ : L2.St) (Hc : Hp) (xs : List V) : Prop := EvP te σ Hc fun u B => ∃ p, u = .ref p ∧ B p = some (.tup xs)
abbrev EvLst (te : TE) (σ : L2.St) (Hc : Hp) (xs : List V) : Prop := EvP te σ Hc fun u B => ∃ p, u = .ref p ∧ B p = some (.lst xs)
theorem EvP.st (h : EvTup te σ Hc xs) : EvP te σ Hc fun u B => ∃ p, u = .ref p ∧ SqT K B p xs := h.wk fun v B e ⟨p, h1, h2⟩ => ⟨p, h1, st_of h2⟩
theorem EvP.sl (h : EvLst te σ Hc xs) : EvP te σ Hc fun u B => ∃ p, u = .ref p ∧ SqL K B p xs := h.wk fun v B e ⟨p, h1, h2⟩ => ⟨p, h1, sl_of h2⟩
theorem t_var {i : Nat} {p : Addr} (h : σ[i]? = some (some (.ref p))) (hp : Hc p = some (.tup xs)) : EvTup (tVar i) σ Hc xs := e_var h fun B e => ⟨p, rfl, e _ _ hp⟩
theorem l_var {i : Nat} {p : Addr} (h : σ[i]? = some (some (.ref p))) (hp : Hc p = some (.lst xs)) : EvLst (tVar i) σ Hc xs := e_var h fun B e => ⟨p, rfl, e _ _ hp⟩
theorem EvTup.ofV {p : Addr} (h : EvV te σ Hc (.ref p)) (hp : Hc p = some (.tup xs)) : EvTup te σ Hc xs := h.ofV fun B e => ⟨p, rfl, e _ _ hp⟩
theorem EvLst.ofV {p : Addr} (h : EvV te σ Hc (.ref p)) (hp : Hc p = some (.lst xs)) : EvLst te σ Hc xs := h.ofV fun B e => ⟨p, rfl, e _ _ hp⟩
theorem v_lenT (h : EvTup ta σ Hc xs) (e : xs.length = n) : EvV (tCB (fun xs H Q => ∃ p ys, xs = [.ref p] ∧ (SqL K H p ys ∨ SqT K H p ys) ∧ Q (.int ys.length) H) (tCons ta tNil)) σ Hc (vN n) := v_len (h.wk fun v B _ ⟨p, h1, h2⟩ => ⟨p, xs, h1, .inr (st_of h2), e⟩)
theorem v_lenL (h : EvLst ta σ Hc xs) (e : xs.length = n) : EvV (tCB (fun xs H Q => ∃ p ys, xs = [.ref p] ∧ (SqL K H p ys ∨ SqT K H p ys) ∧ Q (.int ys.length) H) (tCons ta tNil)) σ Hc (vN n) := v_len (h.wk fun v B _ ⟨p, h1, h2⟩ => ⟨p, xs, h1, .inl (sl_of h2), e⟩)
/-- an item of a tuple, of a list -/
theorem v_ixT {i : Int} (ha : EvTup ta σ Hc xs) (hb : EvV tb σ Hc (.int i)) (h : atI xs i = some v) : EvV (tOp (rIxT K) ta tb) σ Hc v := e_op ha (fun _ _ e _ => hb.mono e) fun x y B1 B2 e1 e2 ⟨p, ep, hp⟩ p2 B H e b Q q => ⟨p, xs, i, v, ep, p2, st_of ((e2.trans (e.trans b)) _ _ hp), h, q v B H (.refl b) rfl⟩
theorem v_ixL {i : Int} (ha : EvLst ta σ Hc xs) (hb : EvV tb σ Hc (.int i)) (h : atI xs i = some v) : EvV (tOp (rIxL K) ta tb) σ Hc v := e_op ha (fun _ _ e _ => hb.mono e) fun x y B1 B2 e1 e2 ⟨p, ep, hp⟩ p2 B H e b Q q => ⟨p, xs, i, v, ep, p2, sl_of ((e2.trans (e.trans b)) _ _ hp), h, q v B H (.refl b) rfl⟩
theorem atI_nat {α : Type} {xs : List α} {i : Nat} {v : α} (h : xs[i]? = some v) : atI xs (i : Int) = some v := by
  have hi := (List.getElem?_eq_some_iff.mp h).1
  unfold atI ixN
  rw [if_pos (by omega), if_pos (by omega)]
  exact h
theorem atI_last {α : Type} {xs : List α} {v : α} (h : xs[xs.length - 1]? = some v) : atI xs (-1) = some v := by
  have hi := (List.getElem?_eq_some_iff.mp h).1
  unfold atI ixN
  rw [if_neg (by omega), if_pos (by omega)]
  have e : ((-1 : Int) + (xs.length : Nat)).toNat = xs.length - 1 := by omega
  rw [e]; exact h
/-- tuple of a list -/
theorem e_tupOf (h : EvLst ta σ Hc xs) : EvTup (tCB (fun xs H Q => ∃ p ys, xs = [.ref p] ∧ ((SqL K H p ys ∧ ∀ l, H l = none → Q (.ref l) (upd H l (.tup ys))) ∨ (SqT K H p ys ∧ Q (.ref p) H))) (tCons ta tNil)) σ Hc xs := fun B H a b Q q =>
  h B H a b _ fun v B1 H1 g1 ⟨p, e, hp⟩ => ⟨p, xs, by rw [e], .inl ⟨sl_of (g1.sub _ _ hp), fun l hl => q _ _ _ (g1.laid hl) ⟨l, rfl, upd_same⟩⟩⟩
theorem e_listOf (h : EvTup ta σ Hc xs) : EvLst (tCB (fun xs H Q => ∃ p ys, xs = [.ref p] ∧ (SqL K H p ys ∨ SqT K H p ys) ∧ ∀ l, H l = none → Q (.ref l) (upd H l (.lst ys))) (tCons ta tNil)) σ Hc xs := fun B H a b Q q =>
  h B H a b _ fun v B1 H1 g1 ⟨p, e, hp⟩ => ⟨p, xs, by rw [e], .inr (st_of (g1.sub _ _ hp)), fun l hl => q _ _ _ (g1.laid hl) ⟨l, rfl, upd_same⟩⟩
theorem e_listOfL (h : EvLst ta σ Hc xs) : EvLst (tCB (fun xs H Q => ∃ p ys, xs = [.ref p] ∧ (SqL K H p ys ∨ SqT K H p ys) ∧ ∀ l, H l = none → Q (.ref l) (upd H l (.lst ys))) (tCons ta tNil)) σ Hc xs := fun B H a b Q q =>
  h B H a b _ fun v B1 H1 g1 ⟨p, e, hp⟩ => ⟨p, xs, by rw [e], .inl (sl_of (g1.sub _ _ hp)), fun l hl => q _ _ _ (g1.laid hl) ⟨l, rfl, upd_same⟩⟩
theorem v_min2 {i j : Int} {f : Int → Int → Int} (ha : EvV ta σ Hc (.int i)) (hb : EvV tb σ Hc (.int j)) : EvV (tCB (fun xs H Q => ∃ i j, xs = [.int i, .int j] ∧ Q (.int (f i j)) H) (tCons ta (tCons tb tNil))) σ Hc (.int (f i j)) := fun B H a b Q q =>
  ha B H a b _ fun x B1 H1 g1 e1 => hb B1 H1 (a.trans g1.up) g1.sub _ fun y B2 H2 g2 e2 => ⟨i, j, by rw [e1, e2], q _ B2 H2 (g1.trans g2) rfl⟩
theorem v_int1 {k : Bool} (ha : EvV ta σ Hc (.bl k)) : EvV (tCB (fun xs H Q => (∃ i, xs = [.int i] ∧ Q (.int i) H) ∨ ∃ k, xs = [.bl k] ∧ Q (.int (if k then 1 else 0)) H) (tCons ta tNil)) σ Hc (.int (if k then 1 else 0)) := fun B H a b Q q =>
  ha B H a b _ fun x B1 H1 g1 e1 => .inr ⟨k, by rw [e1], q _ B1 H1 g1 rfl⟩
theorem v_isN (ha : EvV ta σ Hc v) : EvV (tOp (fun x y H Q => y = .non ∧ Q (.bl (decide (x = .non))) H) ta (tC .non)) σ Hc (.bl (decide (v = .non))) := fun B H a b Q q => ha B H a b _ fun x B1 H1 g1 e1 => ⟨rfl, by rw [e1]; exact q _ B1 H1 g1 rfl⟩
theorem v_notN (ha : EvV ta σ Hc v) : EvV (tOp (fun x y H Q => y = .non ∧ Q (.bl (!decide (x = .non))) H) ta (tC .non)) σ Hc (.bl (!decide (v = .non))) := fun B H a b Q q => ha B H a b _ fun x B1 H1 g1 e1 => ⟨rfl, by rw [e1]; exact q _ B1 H1 g1 rfl⟩
theorem v_in {k : Bool} (ha : EvV ta σ Hc v) (hb : EvP tb σ Hc fun u B => ∃ p, u = .ref p ∧ (SqL K B p xs ∨ SqT K B p xs)) (hv : flatV v = true) (hx : xs.all flatV = true) : EvV (tOp (rIn K k) ta tb) σ Hc (.bl (if k then !inV v xs else inV v xs)) :=
  e_op ha (fun _ _ e _ => hb.mono e) fun x y B1 B2 e1 e2 p1 ⟨p, ep, hp⟩ B H e b Q q => ⟨p, xs, ep, hp.imp (e.trans b).l (e.trans b).t, by rw [p1]; exact hv, hx, by rw [p1]; exact q _ B H (.refl b) rfl⟩
theorem v_eqD {d e : PyData} (ha : EvP ta σ Hc fun u B => Dp K B u d ∧ ∀ B', Ex B B' → Dp K B' u d) (hb : EvP tb σ Hc fun u B => ∀ B', Ex B B' → Dp K B' u e) (h1 : SeqAt.shaped d = true) (h2 : SeqAt.shaped e = true) : EvV (tOp (rEqD K) ta tb) σ Hc (.bl (PyData.eqv d e)) :=
  e_op ha (fun _ _ e _ => hb.mono e) fun x y B1 B2 e1 e2 p1 p2 B H e' b Q q => ⟨d, e, p1.2 H (e2.trans (e'.trans b)), p2 H (e'.trans b), h1, h2, q _ B H (.refl b) rfl⟩
theorem v_neD {d e : PyData} (ha : EvP ta σ Hc fun u B => Dp K B u d ∧ ∀ B', Ex B B' → Dp K B' u d) (hb : EvP tb σ Hc fun u B => ∀ B', Ex B B' → Dp K B' u e) (h1 : SeqAt.shaped d = true) (h2 : SeqAt.shaped e = true) : EvV (tOp (rNeD K) ta tb) σ Hc (.bl (!PyData.eqv d e)) :=
  e_op ha (fun _ _ e _ => hb.mono e) fun x y B1 B2 e1 e2 p1 p2 B H e' b Q q => ⟨d, e, p1.2 H (e2.trans (e'.trans b)), p2 H (e'.trans b), h1, h2, q _ B H (.refl b) rfl⟩
theorem s_var {i : Nat} {p : Addr} (h : σ[i]? = some (some (.ref p))) (hp : TR Hc p xs) : EvP (tVar i) σ Hc fun u B => ∃ p, u = .ref p ∧ SqT K B p xs := e_var h fun B e => ⟨p, rfl, (hp.up e).st⟩
theorem v_lenS (h : EvP ta σ Hc fun u B => ∃ p, u = .ref p ∧ SqT K B p xs) (e : xs.length = n) : EvV (tCB (fun xs H Q => ∃ p ys, xs = [.ref p] ∧ (SqL K H p ys ∨ SqT K H p ys) ∧ Q (.int ys.length) H) (tCons ta tNil)) σ Hc (vN n) := v_len (h.wk fun v B _ ⟨p, h1, h2⟩ => ⟨p, xs, h1, .inr h2, e⟩)
theorem v_lenSetS {ns : List Int} (h : EvP ta σ Hc fun u B => ∃ p, u = .ref p ∧ SqT K B p (ns.map V.int)) (hd : ns.Nodup) (hl : ns.length ≤ 4000) : EvV (tLenSetT K ta) σ Hc (vN ns.length) := fun B H a b Q q =>
  h B H a b _ fun v B1 H1 g1 ⟨p, e, hp⟩ => ⟨p, ns, e, g1.sub.t hp, hd, hl, q _ B1 H1 g1 rfl⟩
theorem v_ixS {i : Int} (ha : EvP ta σ Hc fun u B => ∃ p, u = .ref p ∧ SqT K B p xs) (hb : EvV tb σ Hc (.int i)) (h : atI xs i = some v) : EvV (tOp (rIxT K) ta tb) σ Hc v := e_op ha (fun _ _ e _ => hb.mono e) fun x y B1 B2 e1 e2 ⟨p, ep, hp⟩ p2 B H e b Q q => ⟨p, xs, i, v, ep, p2, (e2.trans (e.trans b)).t hp, h, q v B H (.refl b) rfl⟩
theorem v_lenSet {ns : List Int} (h : EvTup ta σ Hc (ns.map V.int)) (hd : ns.Nodup) (hl : ns.length ≤ 4000) : EvV (tLenSetT K ta) σ Hc (vN ns.length) := fun B H a b Q q =>
  h B H a b _ fun v B1 H1 g1 ⟨p, e, hp⟩ => ⟨p, ns, e, st_of (g1.sub _ _ hp), hd, hl, q _ B1 H1 g1 rfl⟩
theorem e_revT (h : EvTup ta σ Hc xs) : EvTup (tRevT K ta) σ Hc xs.reverse := fun B H a b Q q =>
  h B H a b _ fun v B1 H1 g1 ⟨p, e, hp⟩ => ⟨p, xs, e, st_of (g1.sub _ _ hp), fun l hl => q _ _ _ (g1.laid hl) ⟨l, rfl, upd_same⟩⟩
theorem e_revL (h : EvLst ta σ Hc xs) : EvLst (tRevL K ta) σ Hc xs.reverse := fun B H a b Q q =>
  h B H a b _ fun v B1 H1 g1 ⟨p, e, hp⟩ => ⟨p, xs, e, sl_of (g1.sub _ _ hp), fun l hl => q _ _ _ (g1.laid hl) ⟨l, rfl, upd_same⟩⟩
theorem e_tupRg1 (ha : EvV ta σ Hc (vN n)) (hn : n ≤ 100000) : EvTup (tTupRg (tRg1 ta)) σ Hc ((List.range n).map vN) := fun B H a b Q q =>
  ha B H a b _ fun x B1 H1 g1 e1 => ⟨n, e1, RgOk.of_le (by omega) (by omega) (by omega) (by omega), fun l hl => q _ _ _ (g1.laid hl) ⟨l, rfl, by
    rw [upd_same]
    unfold rgV
    rw [show ((n : Int) - 0).toNat = n by omega]
    congr 2
    refine List.map_congr_left fun i _ => ?_
    rw [Int.zero_add]⟩⟩
theorem e_lstRg1 (ha : EvV ta σ Hc (vN n)) (hn : n ≤ 100000) : EvLst (tLstRg (tRg1 ta)) σ Hc ((List.range n).map vN) := fun B H a b Q q =>
  ha B H a b _ fun x B1 H1 g1 e1 => ⟨n, e1, RgOk.of_le (by omega) (by omega) (by omega) (by omega), fun l hl => q _ _ _ (g1.laid hl) ⟨l, rfl, by
    rw [upd_same]
    unfold rgV
    rw [show ((n : Int) - 0).toNat = n by omega]
    congr 2
    refine List.map_congr_left fun i _ => ?_
    rw [Int.zero_add]⟩⟩
theorem e_lstRg2 {lo hi : Nat} (ha : EvV ta σ Hc (vN lo)) (hb : EvV tb σ Hc (vN hi)) (h1 : lo ≤ 100000) (h2 : hi ≤ 100000) : EvLst (tLstRg (tRg2 ta tb)) σ Hc ((List.range (hi - lo)).map fun i => vN (lo + i)) := fun B H a b Q q =>
  ha B H a b _ fun x B1 H1 g1 e1 => hb B1 H1 (a.trans g1.up) g1.sub _ fun y B2 H2 g2 e2 => ⟨lo, hi, e1, e2, RgOk.of_le (by omega) (by omega) (by omega) (by omega), fun l hl => q _ _ _ ((g1.trans g2).laid hl) ⟨l, rfl, by
    rw [upd_same]
    unfold rgV
    rw [show ((hi : Int) - (lo : Int)).toNat = hi - lo by omega]
    rfl⟩⟩
/-! ### slices -/
def EvO (to : TO) (σ : L2.St) (Hc : Hp) (o : Option Int) : Prop := ∀ B H, Ex Hc B → Ex B H → ∀ Q : Option Int → Hp → Prop, (∀ B2 H2, Go B H B2 H2 → Q o H2) → to σ H Q
theorem o_none : EvO tNoPart σ Hc none := fun B H a b Q q => q B H (.refl b)
theorem o_some {i : Int} (h : EvV ta σ Hc (.int i)) : EvO (tPart ta) σ Hc (some i) := fun B H a b Q q => h B H a b _ fun v B1 H1 g1 e => ⟨i, e, q B1 H1 g1⟩
theorem EvO.mono {to : TO} {o : Option Int} (h : EvO to σ Hc o) (e : Ex Hc H') : EvO to σ H' o := fun B H1 a b Q q => h B H1 (e.trans a) b Q q
theorem e_slA {to uo : TO} {lo hi : Option Int} (h : EvTup ta σ Hc xs) (h1 : EvO to σ Hc lo) (h2 : EvO uo σ Hc hi) (e : cutV xs lo hi = ys) : EvTup (tSl (rSlA K) ta to uo) σ Hc ys := fun B H a b Q q =>
  h B H a b _ fun v B1 H1 g1 ⟨p, ep, hp⟩ => h1 B1 H1 (a.trans g1.up) g1.sub _ fun B2 H2 g2 => h2 B2 H2 (a.trans (g1.up.trans g2.up)) g2.sub _ fun B3 H3 g3 => by
    have hp3 := (g2.up.trans (g3.up)) _ _ hp
    refine ⟨p, xs, ep, st_of (g3.sub _ _ hp3), fun hw => ?_, fun hw l hl => q _ _ _ (((g1.trans g2).trans g3).laid hl) ⟨l, rfl, by rw [upd_same, e]⟩⟩
    refine q _ _ _ ((g1.trans g2).trans g3) ⟨p, rfl, ?_⟩
    rw [hp3, ← e]
    unfold cutV
    rw [hw.1, hw.2, List.drop_zero, Nat.sub_zero, List.take_length]
theorem e_slL {to uo : TO} {lo hi : Option Int} (h : EvLst ta σ Hc xs) (h1 : EvO to σ Hc lo) (h2 : EvO uo σ Hc hi) (e : cutV xs lo hi = ys) : EvLst (tSl (rSlL K) ta to uo) σ Hc ys := fun B H a b Q q =>
  h B H a b _ fun v B1 H1 g1 ⟨p, ep, hp⟩ => h1 B1 H1 (a.trans g1.up) g1.sub _ fun B2 H2 g2 => h2 B2 H2 (a.trans (g1.up.trans g2.up)) g2.sub _ fun B3 H3 g3 => 
    ⟨p, xs, ep, sl_of (g3.sub _ _ ((g2.up.trans (g3.up)) _ _ hp)), fun l hl => q _ _ _ (((g1.trans g2).trans g3).laid hl) ⟨l, rfl, by rw [upd_same, e]⟩⟩
theorem e_catA (h1 : EvTup ta σ Hc xs) (h2 : EvTup tb σ Hc ys) (hl : xs.length + ys.length ≤ 100000) : EvTup (tOp (rCatA K) ta tb) σ Hc (xs ++ ys) := fun B H a b Q q =>
  h1 B H a b _ fun v B1 H1 g1 ⟨p, ep, hp⟩ => h2 B1 H1 (a.trans g1.up) g1.sub _ fun v2 B2 H2 g2 ⟨p2, ep2, hp2⟩ =>
    ⟨p, p2, xs, ys, ep, ep2, st_of ((g2.up.trans g2.sub) _ _ hp), st_of (g2.sub _ _ hp2), Nat.le_trans hl (by decide), fun e => q _ B2 H2 (g1.trans g2) ⟨p2, rfl, by rw [hp2, e]; rfl⟩, fun _ e => q _ B2 H2 (g1.trans g2) ⟨p, rfl, by rw [g2.up _ _ hp, e, List.append_nil]⟩,
      fun _ _ l hl => q _ _ _ ((g1.trans g2).laid hl) ⟨l, rfl, upd_same⟩⟩
theorem e_catL (h1 : EvLst ta σ Hc xs) (h2 : EvLst tb σ Hc ys) (hl : xs.length + ys.length ≤ 100000) : EvLst (tOp rCat ta tb) σ Hc (xs ++ ys) := fun B H a b Q q =>
  h1 B H a b _ fun v B1 H1 g1 ⟨p, ep, hp⟩ => h2 B1 H1 (a.trans g1.up) g1.sub _ fun v2 B2 H2 g2 ⟨p2, ep2, hp2⟩ =>
    ⟨p, p2, xs, ys, ep, ep2, (g2.up.trans g2.sub) _ _ hp, g2.sub _ _ hp2, Nat.le_trans hl (by decide), fun l hl => q _ _ _ ((g1.trans g2).laid hl) ⟨l, rfl, upd_same⟩⟩
theorem e_tupV {tr : TA} (h : EvAV tr σ Hc xs) (hl : xs.length ≤ 100000) : EvTup (tTup tr) σ Hc xs := e_tup h (fun vs B e => by rw [e]; exact hl) fun p vs B1 B _ _ e hp => ⟨p, rfl, by rw [hp, e]⟩
theorem e_lstV {tr : TA} (h : EvAV tr σ Hc xs) (hl : xs.length ≤ 100000) : EvLst (tLst tr) σ Hc xs := e_lst h (fun vs B e => by rw [e]; exact hl) fun p vs B1 B _ _ e hp => ⟨p, rfl, by rw [hp, e]⟩
end
end Sk

/-! Tuples whose object is known (no dict of its own): made so, indexed by a method. -/
namespace Sk
open PySem PySem.Spec PyProof.Rows L2
/-- a tuple known to the object -/
def FT (H : Hp) (a : Addr) (xs : List V) : Prop := ∃ o : Obj, o.dict = none ∧ H a = some (.frz o (.tup xs))
theorem FT.up {H H' : Hp} {a : Addr} {xs : List V} (h : FT H a xs) (e : Ex H H') : FT H' a xs := let ⟨o, h1, h2⟩ := h; ⟨o, h1, e _ _ h2⟩
theorem FT.tr {H : Hp} {a : Addr} {xs : List V} (h : FT H a xs) : TR H a xs := .inr h
theorem FT.st {K : PySem.W.Frag} {H : Hp} {a : Addr} {xs : List V} (h : FT H a xs) : SqT K H a xs := h.tr.st
section
variable {X : Cx} {pins : List (Addr × Obj)} {σ : L2.St} {H : Hp} {s : Shared}
theorem laid_tup (I : L2.Inv X pins σ H s) {xs : List V} {us : List Value} (r : Vals xs us) (hz : xs.length ≤ sizeLine) :
    L2.Inv X pins σ (upd H s.heap.objs.size (.frz { cls := .type "tuple", data := .seq us.toArray } (.tup xs))) { s with heap := s.heap.push { cls := .type "tuple", data := .seq us.toArray } } :=
  I.laid (t' := s.toks) (fun b o e => Heap.get?_push_of_some _ e) (Nat.le_refl _) (show ObjOk X.prog X.w _ _ _ (.frz _ (.tup xs)) from ⟨Heap.get?_push_size _ rfl, hz, us, r, IsTup.new _ _⟩)
def tTupF (t : TA) : TE := fun σ H Q => t σ H fun xs H1 => xs.length ≤ sizeLine ∧ ∀ p (o : Obj), o.dict = none → H1 p = none → Q (.ref p) (upd H1 p (.frz o (.tup xs)))
theorem pe_tupF {es : List Expr} {t : TA} {pos : Pos} {x1} (h : PA X es t) : PE X (.Tuple es x1 pos) (tTupF t) := by
  refine ⟨fun pins s σ H Q I hq => ?_⟩
  refine wpAny_Tuple_spliced (thn (h.run pos pins s σ H _ I hq) fun us s1 ⟨xs, H1, I1, r, z, q⟩ => ⟨by rw [← r.length]; exact z, ?_⟩)
  exact ⟨.ref s1.heap.objs.size, _, laid_tup I1 r z, rfl, q _ _ rfl (I1.hok.fresh (Nat.le_refl _))⟩
def rTupOfF (K : PySem.W.Frag) : List V → Hp → VK → Prop := fun xs H Q => ∃ p ys, xs = [.ref p] ∧ SqL K H p ys ∧ ∀ l (o : Obj), o.dict = none → H l = none → Q (.ref l) (upd H l (.frz o (.tup ys)))
theorem call_tuple_ofF : CallR X (.type "tuple") (rTupOfF X.K) := by
  intro pins s σ H xs us Q I r h
  obtain ⟨p, ys, rfl, hq, q⟩ := h
  obtain ⟨u, rfl, rx⟩ := vals1 r
  cases rx
  obtain ⟨its, r', pl, hz⟩ := I.list hq
  have hlen := r'.length
  refine call_tuple_list pl.isList (fun h' kp => ?_) (by simp only [List.size_toArray] <;> omega)
  have I1 : L2.Inv X pins σ H { s with heap := h' } := I.kept (t' := s.toks) kp
  exact ⟨.ref h'.objs.size, _, laid_tup I1 r' hz, rfl, q _ _ rfl (I1.hok.fresh (Nat.le_refl _))⟩
def tTupRgF (te : L2.St → Hp → (Int → Int → Hp → Prop) → Prop) : TE := fun σ H Q => te σ H fun a b H1 => RgOk a b ∧ ∀ q (o : Obj), o.dict = none → H1 q = none → Q (.ref q) (upd H1 q (.frz o (.tup (rgV a b))))
theorem pe_tupRgF {e : Expr} {te : L2.St → Hp → (Int → Int → Hp → Prop) → Prop} {p pos : Pos} (hc : X.calm = true) (hg : Gl X "tuple") (hm : X.mg "tuple" = none) (he : PRg X e te) (na : starEach [e] X.env = (false, eval e X.env) :: starEach [] X.env := by rfl) : PE X (.Call (.Name "tuple" p) [e] [] pos) (tTupRgF te) := by
  refine ⟨fun pins s σ H Q I h => ?_⟩
  refine Call_ (ld_blt I hg hm boot_tuple (PyProof.Rows.callWith_type1 (args_cons (thn (he pins s σ H _ I h) fun x s1 ⟨r, a, b, t, u, v, H1, ex, hr, I1, ok, q⟩ => args_nil ?_) na) na))
  subst ex
  obtain ⟨b1, b2, b3, b4, b5⟩ := ok
  refine call_tuple_range (n := (b - a).toNat) (I1.ok.hd hc) hr (small_one b1 b2 b3 b4) (rangeSize_nat a b) b5 fun h' tk acc hk hi => ?_
  have I2 : L2.Inv X pins σ H1 { s1 with heap := h', toks := tk } := I1.kept hk
  have I3 := laid_tup I2 (vals_rg hi) (by rw [rgV_length, sizeLine_eq]; omega)
  rw [Array.toArray_toList] at I3
  exact ⟨.ref h'.objs.size, _, I3, rfl, q _ _ rfl (I2.hok.fresh (Nat.le_refl _))⟩
def rCatF (K : PySem.W.Frag) : R2 := fun x y H Q => ∃ a b xs ys, x = .ref a ∧ y = .ref b ∧ SqT K H a xs ∧ SqT K H b ys ∧ xs.length + ys.length ≤ sizeLine ∧
  (xs = [] → Q (.ref b) H) ∧ (xs ≠ [] → ys = [] → Q (.ref a) H) ∧ (xs ≠ [] → ys ≠ [] → ∀ p (o : Obj), o.dict = none → H p = none → Q (.ref p) (upd H p (.frz o (.tup (xs ++ ys)))))
theorem op_catF : OpR X (binaryOp .Add) (rCatF X.K) := by
  intro pins s σ H x y v u Q I rx ry h
  obtain ⟨a, b, xs, ys, rfl, rfl, ha, hb, hz, q0, q1, q2⟩ := h
  cases rx
  cases ry
  obtain ⟨its, r1, p1, _⟩ := I.tuple ha
  obtain ⟨its2, r2, p2, _⟩ := I.tuple hb
  by_cases hx : xs = []
  · subst hx
    cases r1
    exact cat_tup0 p1 p2 ⟨.ref b, H, I, rfl, q0 rfl⟩
  · refine HT.cat_tup p1 p2 (fun z => hx (r1.nil_iff.mp z)) (fun z => ⟨.ref a, H, I, rfl, q1 hx (r2.nil_iff.mp z)⟩) (fun z => ?_) (by rw [← r1.length, ← r2.length]; exact hz)
    exact ⟨.ref s.heap.objs.size, _, laid_tup I (r1.append r2) (by rw [List.length_append]; exact hz), rfl, q2 hx (fun w => z (r2.nil_iff.mpr w)) _ _ rfl (I.hok.fresh (Nat.le_refl _))⟩
def rSlF (K : PySem.W.Frag) : V → Option Int → Option Int → Hp → VK → Prop := fun x lo hi H Q => ∃ a xs, x = .ref a ∧ SqT K H a xs ∧
  (HT.sIx xs.length 0 lo = 0 ∧ HT.sIx xs.length xs.length hi = xs.length → Q (.ref a) H) ∧ (¬ (HT.sIx xs.length 0 lo = 0 ∧ HT.sIx xs.length xs.length hi = xs.length) → ∀ p (o : Obj), o.dict = none → H p = none → Q (.ref p) (upd H p (.frz o (.tup (cutV xs lo hi)))))
theorem sl_tupF : SlR X (rSlF X.K) := by
  intro pins s σ H x v vl vu lo hi sl Q I rx hs pl pu h
  obtain ⟨a, xs, rfl, hx, q1, q2⟩ := h
  cases rx
  obtain ⟨its, r, ht, hz⟩ := I.tuple hx
  have hlen : its.toArray.size = xs.length := by rw [List.size_toArray]; exact r.length.symm
  refine ⟨"tuple", _, PyProof.Rows.slot_tuple_getitem.lookup, ht.typeIs, ?_⟩
  by_cases hw : HT.sIx xs.length 0 lo = 0 ∧ HT.sIx xs.length xs.length hi = xs.length
  · exact getItem_tuple_whole ht hs pl pu (by rw [hlen]; exact hw) ⟨.ref a, H, I, rfl, q1 hw⟩
  · refine HT.getItem_tuple_cut ht hs pl pu (by rw [hlen]; exact hw) ?_ (by rw [hlen]; exact hz)
    rw [hlen]
    exact ⟨.ref s.heap.objs.size, _, laid_tup I ((r.drop (HT.sIx xs.length 0 lo)).take (HT.sIx xs.length xs.length hi - HT.sIx xs.length 0 lo)) (Nat.le_trans (cutV_length xs lo hi) hz), rfl, q2 hw _ _ rfl (I.hok.fresh (Nat.le_refl _))⟩
/-- t.m(..), t a tuple known to the object -/
def tBMF (r : V → List V → Hp → VK → Prop) (to : TE) (t : TA) : TE := fun σ H Q => to σ H fun x H1 => (∃ p xs, x = .ref p ∧ FT H1 p xs) ∧ t σ H1 fun ws H2 => r x ws H2 Q
theorem pe_bmF {o e : Expr} {es : List Expr} {to : TE} {t : TA} {name : Str} {apos cpos : Pos} {id : String} {r : V → List V → Hp → VK → Prop} (pa : PlainAttrs "tuple") (slot : Slot "tuple" name id) (hty : typeOf (.builtin id) = pure (.type "method_descriptor")) (hm : MtR X id r) (ho : PE X o to) (ha : PA X (e :: es) t)
    (hbase : attributeBase o name X.env (eval o X.env) = eval o X.env := by rfl)
    (hfew : ((backTo cpos (starEach (e :: es) X.env)).all (fun x => !x.1) && (backToKw cpos (keywordEach [] X.env)).all (fun x => x.1.isSome)
      && decide ((e :: es).length + ([] : List Keyword).length + (if ([] : List Keyword).isEmpty then 0 else 1) < 30)) = true := by rfl)
    (hline : (apos.endLine == cpos.line) = true := by rfl) (hs : starEach (e :: es) X.env = (false, eval e X.env) :: starEach es X.env := by rfl) (hplain : (backTo cpos (starEach es X.env)).any (·.1) = false := by rfl) :
    PE X (.Call (.Attribute o name apos) (e :: es) [] cpos) (tBMF r to t) := by
  refine ⟨fun pins s σ H Q I h => ?_⟩
  refine wpAny_Call_method_late hbase hfew hline rfl (thn (ho.run pins s σ H _ I h) fun v s1 ⟨x, H1, I1, r1, ty, q1⟩ => ?_)
  obtain ⟨p, xs, rfl, ob, hod, hp⟩ := ty
  obtain rfl : v = Value.ref p := r1
  obtain ⟨hget, _, its, _, o2, hget2, hcls, _⟩ := (show ObjOk X.prog X.w H1 s1.heap p (.frz ob (.tup xs)) from I1.hok p _ hp)
  rw [hget] at hget2
  cases hget2
  refine ⟨"tuple", id, pa, slot, hty, ⟨ob, hget, hcls⟩, (fun a e2 => by cases e2; exact ⟨ob, hget, hod⟩), ?_⟩
  have hA := ha.run cpos pins s1 σ H1 _ I1 q1
  rw [hs] at hA ⊢
  refine Calls.callWith_builtin (by show (false || (backTo cpos (starEach es X.env)).any (·.1)) = false; rw [hplain] <;> rfl) (Calls.evalArgs_plain ?_)
  exact thn hA fun us s2 ⟨vs, H2, I2, r2, q2⟩ => hm pins s2 σ H2 (.ref p) vs (.ref p) us Q I2 (show RelV (.ref p) (.ref p) from rfl) r2 q2
end

section
variable {K : PySem.W.Frag} {σ : L2.St} {Hc H H' : Hp} {ta tb tc te : TE} {v : V} {xs ys : List V} {n : Nat}
abbrev EvFT (te : TE) (σ : L2.St) (Hc : Hp) (xs : List V) : Prop := EvP te σ Hc fun u B => ∃ p, u = .ref p ∧ FT B p xs
theorem EvFT.st (h : EvFT te σ Hc xs) : EvP te σ Hc fun u B => ∃ p, u = .ref p ∧ SqT K B p xs := h.wk fun v B _ ⟨p, h1, h2⟩ => ⟨p, h1, h2.st⟩
theorem f_var {i : Nat} {p : Addr} (h : σ[i]? = some (some (.ref p))) (hp : FT Hc p xs) : EvFT (tVar i) σ Hc xs := e_var h fun B e => ⟨p, rfl, hp.up e⟩
theorem e_tupF {tr : TA} (h : EvAV tr σ Hc xs) (hl : xs.length ≤ 100000) : EvFT (tTupF tr) σ Hc xs := fun B H a b Q q =>
  h B H a b _ fun vs B1 H1 g1 e => ⟨by rw [e]; exact Nat.le_trans hl (by decide), fun p o ho hp => q _ _ _ (g1.laid hp) ⟨p, rfl, o, ho, by rw [upd_same, e]⟩⟩
theorem e_tupOfF (h : EvLst ta σ Hc xs) : EvFT (tCB (rTupOfF K) (tCons ta tNil)) σ Hc xs := fun B H a b Q q =>
  h B H a b _ fun v B1 H1 g1 ⟨p, e, hp⟩ => ⟨p, xs, by rw [e], sl_of (g1.sub _ _ hp), fun l o ho hl => q _ _ _ (g1.laid hl) ⟨l, rfl, o, ho, upd_same⟩⟩
theorem e_tupRgF (ha : EvV ta σ Hc (vN n)) (hn : n ≤ 100000) : EvFT (tTupRgF (tRg1 ta)) σ Hc ((List.range n).map vN) := fun B H a b Q q =>
  ha B H a b _ fun x B1 H1 g1 e1 => ⟨n, e1, RgOk.of_le (by omega) (by omega) (by omega) (by omega), fun l o ho hl => q _ _ _ (g1.laid hl) ⟨l, rfl, o, ho, by
    rw [upd_same]
    unfold rgV
    rw [show ((n : Int) - 0).toNat = n by omega]
    congr 3
    refine List.map_congr_left fun i _ => ?_
    rw [Int.zero_add]⟩⟩
theorem e_slF {to uo : TO} {lo hi : Option Int} (h : EvFT ta σ Hc xs) (h1 : EvO to σ Hc lo) (h2 : EvO uo σ Hc hi) (e : cutV xs lo hi = ys) : EvFT (tSl (rSlF K) ta to uo) σ Hc ys := fun B H a b Q q =>
  h B H a b _ fun v B1 H1 g1 ⟨p, ep, hp⟩ => h1 B1 H1 (a.trans g1.up) g1.sub _ fun B2 H2 g2 => h2 B2 H2 (a.trans (g1.up.trans g2.up)) g2.sub _ fun B3 H3 g3 => by
    have hp3 := hp.up (g2.up.trans g3.up)
    refine ⟨p, xs, ep, g3.sub.t hp3.st, fun hw => ?_, fun hw l o ho hl => q _ _ _ (((g1.trans g2).trans g3).laid hl) ⟨l, rfl, o, ho, by rw [upd_same, e]⟩⟩
    refine q _ _ _ ((g1.trans g2).trans g3) ⟨p, rfl, ?_⟩
    have : ys = xs := by
      rw [← e]
      unfold cutV
      rw [hw.1, hw.2, List.drop_zero, Nat.sub_zero, List.take_length]
    rw [this]; exact hp3
theorem e_catF (h1 : EvFT ta σ Hc xs) (h2 : EvFT tb σ Hc ys) (hl : xs.length + ys.length ≤ 100000) : EvFT (tOp (rCatF K) ta tb) σ Hc (xs ++ ys) := fun B H a b Q q =>
  h1 B H a b _ fun v B1 H1 g1 ⟨p, ep, hp⟩ => (h2.mono (a.trans g1.up)) B1 H1 (Ex.refl _) g1.sub _ fun v2 B2 H2 g2 ⟨p2, ep2, hp2⟩ =>
    ⟨p, p2, xs, ys, ep, ep2, (g2.up.trans g2.sub).t hp.st, g2.sub.t hp2.st, Nat.le_trans hl (by decide), fun e => q _ B2 H2 (g1.trans g2) ⟨p2, rfl, by rw [e]; exact hp2⟩, fun _ e => q _ B2 H2 (g1.trans g2) ⟨p, rfl, by rw [e, List.append_nil]; exact hp.up g2.up⟩,
      fun _ _ l o ho hl => q _ _ _ ((g1.trans g2).laid hl) ⟨l, rfl, o, ho, upd_same⟩⟩
/-- row.index(k) -/
def rIndexI (K : PySem.W.Frag) : V → List V → Hp → VK → Prop := fun x xs H Q => ∃ p, ∃ ys : List Int, ∃ z j, x = .ref p ∧ xs = [.int z] ∧ SqT K H p (ys.map V.int) ∧ ys[j]? = some z ∧ (∀ m, m < j → ys[m]? ≠ some z) ∧ Q (.int (j : Nat)) H
theorem v_index {row : List Nat} {k : Nat} (h : EvFT ta σ Hc (row.map vN)) (hk : EvV tb σ Hc (vN k)) (hm : k ∈ row) : EvV (tBMF (rIndexI K) ta (tCons tb tNil)) σ Hc (vN (row.idxOf k)) := fun B H a b Q q =>
  h B H a b _ fun v B1 H1 g1 ⟨p, ep, hp⟩ => ⟨⟨p, _, ep, hp.up g1.sub⟩, (hk.mono (a.trans g1.up)) B1 H1 (Ex.refl _) g1.sub _ fun v2 B2 H2 g2 e2 => by
    have hi := List.idxOf_lt_length_of_mem hm
    refine ⟨p, row.map fun k => ((k : Nat) : Int), (k : Nat), row.idxOf k, ep, by rw [e2], ?_, ?_, fun m hm h => ?_, q _ B2 H2 (g1.trans g2) rfl⟩
    · have := (hp.up (g2.up.trans g2.sub)).st (K := K)
      rw [List.map_map]; exact this
    · rw [List.getElem?_map, List.getElem?_eq_getElem hi, List.getElem_idxOf]; rfl
    · rw [List.getElem?_map] at h
      have hml : m < row.length := by omega
      rw [List.getElem?_eq_getElem hml] at h
      have h : row[m] = k := Int.ofNat.inj (Option.some.inj h)
      have := List.not_of_lt_findIdx (p := (· == k)) (xs := row) (i := m) hm
      rw [h] at this
      simp at this⟩
end
end Sk

/-! Rankings: is_ranking, check_rankings, check_person, check_item, mirrored_rankings, rank_tables. -/
namespace Sk
open PySem PySem.Spec PyProof.Rows L2
def sp_is_ranking : Sp := fun vs H Q _ => ∃ (B : Hp) (v : V) (r : List Nat) (n : Nat), vs = [v, vN n] ∧ IsRw B v r ∧ (r.length = n ∧ r.Nodup ∧ ∀ k ∈ r, k < n) ∧ n ≤ 40 ∧ Ex B H ∧ ∀ B1 H1, Go B H B1 H1 → Q (.bl true) H1
def sp_check_rankings : Sp := fun vs H Q _ => ∃ (B : Hp) (v : V) (n : Nat) (R : List (List Nat)), vs = [v] ∧ IsRk B v R ∧ Rkg n R ∧ Ex B H ∧ ∀ B1 H1, Go B H B1 H1 → Q .non H1
def sp_check_person : Sp := fun vs H Q _ => ∃ (B : Hp) (v : V) (n k : Nat) (R : List (List Nat)), vs = [v, vN k] ∧ IsRk B v R ∧ R.length = n ∧ k < n ∧ Ex B H ∧ ∀ B1 H1, Go B H B1 H1 → Q .non H1
section
variable {P : Program} {w : World} {K : PySem.W.Frag} {mg : Str → Option Value} {base : Heap} {C : Addr} (T : Top K mg C)
include T
theorem cal_is_ranking : Cal P w K mg base "is_ranking" ["value", "size"] 3 sp_is_ranking := by
  refine T.d_is_ranking.cal sc_is_ranking (fun vs H Q E h => ?_) (fun _ _ _ _ _ _ us hl => match us, hl with | [_, _], _ => rfl) (fun f cdv A outer s H vs Q E hr h => ?_)
  · obtain ⟨B, v, r, n, rfl, _⟩ := h
    rfl
  · obtain ⟨B, v, r, n, rfl, ⟨p, rfl, hp⟩, ⟨hl, hnd, hlt⟩, h40, ex, q⟩ := h
    have hlen : (r.map vN).length = n := by rw [List.length_map, hl]
    refine ⟨_, (pss_cons (ps_if (PW.pt (pw_or (pt_not (pt_val (pe_callB call_isi (by rfl) T.b_isinstance (by decide +kernel) (pa_cons (pv 0) (pa_cons (pe_bltn (v := .ty "tuple") (by rfl) T.b_tuple (by decide +kernel) rfl) pa_nil))))) (pw_or (pt_cmpR op_ne (pe_callB call_len_seq (by rfl) T.b_len PySem.boot_len (pa_cons (pv 0) pa_nil)) (pv 1) (nomark _)) (pw_or1 (pt_not (pt_val (pe_callB (cr_all rfl) (by rfl) T.b_all (by decide +kernel) (pa_cons (pe_lc (own := [("item", 2)]) rfl sc_is_ranking.nd (pi_tup (pv 0)) (blkOk_by (own := [("item", 2)]) (N := N_is_ranking) (sc := defScope s_is_ranking) (by decide +kernel)) (fun _ _ _ _ _ => (pg_name (i := 2) sc_is_ranking.nd rfl (Or.inl rfl))) (fun _ _ _ _ _ => pts_nil) (fun _ _ _ _ _ => ((cal_is_number_below T).pe hr (by decide) rfl (pa_cons (pv 2) (pa_cons (pv 1) pa_nil))))) pa_nil)))))))) (pss_one (ps_ret pe_bl)) pss_nil)
    (pss_one (ps_ret (pe_cmpR op_eq (pe_lenSetT (by rfl) T.b_len (by rfl) T.b_set (pv 0)) (pv 1) (nomark _))))), ?_⟩
    refine q_skip (EvT.is (b := false) (t_or (t_not (t_test (v_isi (T1 := "tuple") (b := true) (e_var rfl fun B e H h => (hp.up (e.trans h)).ty) (by decide +kernel)))) fun _ => t_or (t_test (v_ne (v_lenS (s_var rfl hp) hlen) (v_var rfl) rfl)) fun _ => t_not (t_test (v_all (bs := (List.range n).map fun _ => true) ?_))) ?_) ex fun B1 H1 g1 => ?_
    · refine (e_lcV (n := (r.map vN).length) (fun _ => true) (fun _ => .bl true) (i_tup (s_var rfl hp)) (by omega) (fun x => rfl) (fun _ _ _ _ _ _ => t_yes) fun i x B hi e hx _ => ?_).wk fun v B e ⟨p', h1, h2⟩ => ⟨p', h1, sl_of (by rw [h2, hlen, kept_all, List.map_map]; rfl)⟩
      rw [List.getElem?_map] at hx
      cases hk : r[i]? with
      | none => rw [hk] at hx; cases hx
      | some k =>
        rw [hk] at hx
        have hx := Option.some.inj hx
        subst hx
        have kl := hlt k (List.mem_of_getElem? hk)
        refine e_call (av_cons (v_var rfl) (av_cons (v_var rfl) av_nil)) fun vs B' _ e => ?_
        rw [e]
        exact fun B1 H1 a b Q q E => ⟨B1, k, n, rfl, b, fun B2 H2 g => q _ B2 H2 g (by rw [decide_eq_true (by omega : (0:Int) ≤ (k : Nat)), decide_eq_true (by omega : ((k : Nat) : Int) < (n : Nat))]; rfl)⟩
    · have : ((List.range n).map fun _ => true).all id = true := List.all_eq_true.mpr fun x hx => by
        obtain ⟨_, _, e⟩ := List.mem_map.mp hx
        rw [← e]; rfl
      rw [this, decide_eq_true rfl]; rfl
    · have hnd' : (r.map fun k => ((k : Nat) : Int)).Nodup := List.pairwise_map.mpr (hnd.imp fun {a b} h e => h (Int.ofNat.inj e))
      have hp' := hp.up g1.up
      rw [show r.map vN = (r.map fun k => ((k : Nat) : Int)).map V.int by rw [List.map_map]; rfl] at hp'
      refine s_ret (P := fun u _ => u = .bl true) (EvV.is (v_eq (v_lenSetS (s_var rfl hp') hnd' (by rw [List.length_map]; omega)) (v_var rfl) rfl) (by rw [List.length_map, hl, decide_eq_true rfl])) g1.sub fun v B2 H2 g2 e => ?_
      rw [e]
      exact q B2 H2 (g1.trans g2)
theorem cal_check_rankings : Cal P w K mg base "check_rankings" ["value"] 4 sp_check_rankings := by
  refine T.d_check_rankings.cal sc_check_rankings (fun vs H Q E h => ?_) (fun _ _ _ _ _ _ us hl => match us, hl with | [_], _ => rfl) (fun f cdv A outer s H vs Q E hr h => ?_)
  · obtain ⟨B, v, n, R, rfl, _⟩ := h
    rfl
  · obtain ⟨B, v, n, R, rfl, ⟨p, us, rfl, hp, hs⟩, G, ex, q⟩ := h
    have hlen : us.length = n := by rw [hs.len, G.len]
    refine ⟨_, (pss_cons (ps_if (PW.pt (pw_or (pt_not (pt_val (pe_callB call_isi (by rfl) T.b_isinstance (by decide +kernel) (pa_cons (pv 0) (pa_cons (pe_bltn (v := .ty "tuple") (by rfl) T.b_tuple (by decide +kernel) rfl) pa_nil))))) (pw_or1 (pt_not (pt_chain op_le op_le pe_int (pe_callB call_len_seq (by rfl) T.b_len PySem.boot_len (pa_cons (pv 0) pa_nil)) (pe_gl (v := .int 40) T.g_MAX_PEOPLE (fun t => ⟨t, rfl⟩) rfl)))))) (pss_one (ps_never)) pss_nil)
    (pss_one (ps_for PassesOwn.never rfl (pi_enumT (by rfl) T.b_enumerate (pa_cons (pv 0) pa_nil)) (pg_tup rfl (pgs_cons (pg_name (i := 1) sc_check_rankings.nd rfl (Or.inl rfl)) (pgs_cons (pg_name (i := 2) sc_check_rankings.nd rfl (Or.inl rfl)) pgs_nil)))
      (pss_one (ps_if (pt_not (pt_val ((cal_is_ranking T).pe hr (by decide) rfl (pa_cons (pv 2) (pa_cons (pe_callB call_len_seq (by rfl) T.b_len PySem.boot_len (pa_cons (pv 0) pa_nil)) pa_nil))))) (pss_one (ps_never)) pss_nil))))), ?_⟩
    refine q_skip (EvT.is (b := false) (t_or (t_not (t_test (v_isi (T1 := "tuple") (b := true) (e_var rfl fun B e H h => ty_tup (h _ _ (e _ _ hp))) (by decide +kernel)))) fun _ => t_not (t_test (v_chain v_c (v_lenT (t_var rfl hp) hlen) (fun _ _ => r_I0) (fun _ => v_c) fun _ _ _ => r_I0))) ?_) ex fun B1 H1 g1 => ?_
    · have := G.pos
      have := G.le
      rw [decide_eq_true (by omega : (1 : Int) ≤ (n : Nat)), decide_eq_true (by omega : ((n : Nat) : Int) ≤ 40)]; rfl
    · have hp1 := g1.up _ _ hp
      refine s_for (fun i σ1 B2 H2 => (∃ o1 o2, σ1 = [some (.ref p), o1, o2]) ∧ Go B H B2 H2) (i_enum (t_var rfl hp1).st) g1.sub (fun B2 H2 g2 => ⟨⟨_, _, rfl⟩, g1.trans g2⟩) (fun i σ1 B2 H2 x B3 H3 hi e2 e3 hW g3 hY => ?_) (fun σ1 B2 H2 _ _ hW => q _ _ hW.2)
      obtain ⟨⟨o1, o2, rfl⟩, gg⟩ := hW
      obtain ⟨Tt, u, rfl, hu, hT⟩ := hY
      have hp3 := (gg.up.trans g3.up) _ _ hp
      refine (g_pair hT (S := fun σ2 B => σ2 = [some (.ref p), some (vN i), some u]) fun _ _ => rfl) B3 H3 (Ex.refl _) g3.sub _ fun σ2 B4 H4 g4 e => ?_
      subst e
      obtain ⟨r, hr', row⟩ := hs.back hu
      have row4 := row.up (gg.up.trans (g3.up.trans g4.up))
      have gr := G.row r (List.mem_of_getElem? hr')
      refine s_if (t_not (t_test (b := true) (e_call (av_cons (v_var rfl) (av_cons (v_lenT (t_var rfl (g4.up _ _ hp3)) hlen) av_nil)) fun vs B' e5 e => ?_))) g4.sub (fun z => (by cases z)) (fun _ B5 H5 g5 => ⟨B5, (g3.up.trans (g4.up.trans g5.up)), g5.sub, ⟨_, _, rfl⟩, gg.trans (g3.trans (g4.trans g5))⟩)
      rw [e]
      exact fun B1 H1 a b Q q E => ⟨B1, u, r, n, rfl, row4.up (e5.trans a), gr, G.le, b, fun B2 H2 g => q _ B2 H2 g rfl⟩
theorem cal_check_person : Cal P w K mg base "check_person" ["rankings", "person"] 3 sp_check_person := by
  refine T.d_check_person.cal sc_check_person (fun vs H Q E h => ?_) (fun _ _ _ _ _ _ us hl => match us, hl with | [_, _], _ => rfl) (fun f cdv A outer s H vs Q E hr h => ?_)
  · obtain ⟨B, v, n, k, R, rfl, _⟩ := h
    rfl
  · obtain ⟨B, v, n, k, R, rfl, ⟨p, us, rfl, hp, hs⟩, G, hk, ex, q⟩ := h
    have hlen : us.length = n := by rw [hs.len, G]
    refine ⟨_, (pss_one (ps_if (pt_not (pt_val ((cal_is_number_below T).pe hr (by decide) rfl (pa_cons (pv 1) (pa_cons (pe_callB call_len_seq (by rfl) T.b_len PySem.boot_len (pa_cons (pv 0) pa_nil)) pa_nil))))) (pss_one (ps_never)) pss_nil)), ?_⟩
    refine s_if (t_not (t_test (b := true) (e_call (av_cons (v_var rfl) (av_cons (v_lenT (t_var rfl hp) hlen) av_nil)) fun vs B' e5 e => ?_))) ex (fun z => (by cases z)) (fun _ B5 H5 g5 => q _ _ g5)
    rw [e]
    exact fun B1 H1 a b Q q E => ⟨B1, k, n, rfl, b, fun B2 H2 g => q _ B2 H2 g (by rw [decide_eq_true (by omega : (0:Int) ≤ (k : Nat)), decide_eq_true (by omega : ((k : Nat) : Int) < (n : Nat))]; rfl)⟩
theorem cal_check_item : Cal P w K mg base "check_item" ["rankings", "item"] 3 sp_check_person := by
  refine T.d_check_item.cal sc_check_item (fun vs H Q E h => ?_) (fun _ _ _ _ _ _ us hl => match us, hl with | [_, _], _ => rfl) (fun f cdv A outer s H vs Q E hr h => ?_)
  · obtain ⟨B, v, n, k, R, rfl, _⟩ := h
    rfl
  · obtain ⟨B, v, n, k, R, rfl, ⟨p, us, rfl, hp, hs⟩, G, hk, ex, q⟩ := h
    have hlen : us.length = n := by rw [hs.len, G]
    refine ⟨_, (pss_one (ps_if (pt_not (pt_val ((cal_is_number_below T).pe hr (by decide) rfl (pa_cons (pv 1) (pa_cons (pe_callB call_len_seq (by rfl) T.b_len PySem.boot_len (pa_cons (pv 0) pa_nil)) pa_nil))))) (pss_one (ps_never)) pss_nil)), ?_⟩
    refine s_if (t_not (t_test (b := true) (e_call (av_cons (v_var rfl) (av_cons (v_lenT (t_var rfl hp) hlen) av_nil)) fun vs B' e5 e => ?_))) ex (fun z => (by cases z)) (fun _ B5 H5 g5 => q _ _ g5)
    rw [e]
    exact fun B1 H1 a b Q q E => ⟨B1, k, n, rfl, b, fun B2 H2 g => q _ B2 H2 g (by rw [decide_eq_true (by omega : (0:Int) ≤ (k : Nat)), decide_eq_true (by omega : ((k : Nat) : Int) < (n : Nat))]; rfl)⟩
end
end Sk

/-! Dict comprehensions, comprehensions of two clauses. -/
namespace Sk
open PySem PySem.Spec PyProof.Rows L2
section
variable {κ : Type} [DecidableEq κ]
theorem valV_none {kvs : List (κ × V)} {k : κ} (h : k ∉ kvs.map (·.1)) : valV kvs k = none := by
  unfold valV
  rw [List.find?_eq_none.mpr fun kv hm => by
    simp only [decide_eq_true_eq]
    exact fun e => h (List.mem_map.mpr ⟨kv, hm, e⟩)]
  rfl
theorem valV_snoc {kvs : List (κ × V)} {k j : κ} {v : V} (h : k ∉ kvs.map (·.1)) : valV (kvs ++ [(k, v)]) j = if j = k then some v else valV kvs j := by
  rw [← putK_new v (valV_none h), valV_put]
end
section
variable {K : PySem.W.Frag} {σ : L2.St} {Hc H H' : Hp} {tk tv te : TE} {tt tt1 : TT} {P : V → Hp → Prop} {wi wi1 : TI} {g g1 : TG} {n : Nat} {Y : Nat → V → Hp → Prop}

/-- a dict comprehension without a test, the keys different -/
theorem e_dcK {vs : List Nat} (kf : Nat → Key) (Pe : Nat → V → Hp → Prop) (hi : EvI wi σ Hc n Y) (hn : n ≤ 100000) (hinj : ∀ i j, i < n → j < n → kf i = kf j → i = j)
    (hb : ∀ i x B, i < n → Ex Hc B → Y i x B → EvG g x (wipe σ vs) B fun σ2 B2 => wipe σ2 vs = wipe σ vs ∧ EvT tt σ2 B2 true ∧ EvV tk σ2 B2 (kV (kf i)) ∧ EvP tv σ2 B2 (Pe i))
    (hm : ∀ i v B B', i < n → Ex B B' → Pe i v B → Pe i v B')
    (k : ∀ p kvs B, Ex Hc B → B p = some (.dK kvs) → kvs.map (·.1) = (List.range n).map kf → (∀ i, i < n → ∃ v, valV kvs (kf i) = some v ∧ Pe i v B) → P (.ref p) B) : EvP (tDc wi g tt tk tv vs) σ Hc P := fun B H a b Q q =>
  hi B H a b _ fun J B1 H1 g1 w D hD => by
    refine ⟨fun i m H' => m = n - i ∧ i ≤ n ∧ ∃ B', Go B1 H1 B' H' ∧ B' D = none ∧ ∃ kvs, H' D = some (.dK kvs) ∧ kvs.map (·.1) = (List.range i).map kf ∧ ∀ j, j < i → ∃ v, valV kvs (kf j) = some v ∧ Pe j v B', ⟨n, by simp, Nat.zero_le _, B1, GoF.new (.refl g1.sub) hD, g1.sub.none hD, [], upd_same, rfl, fun j h => absurd h (Nat.not_lt_zero _)⟩, ?_⟩
    rintro i m H' ⟨rfl, hin, B', gg, hBD, kvs, hk, hkeys, hs⟩
    by_cases hlt : i < n
    · refine .inr ⟨w.goes i H' hlt (gg.up.trans gg.sub), fun H'' => i + 1 ≤ n ∧ ∃ B', Go B1 H1 B' H'' ∧ B' D = none ∧ ∃ kvs, H'' D = some (.dK kvs) ∧ kvs.map (·.1) = (List.range (i + 1)).map kf ∧ ∀ j, j < i + 1 → ∃ v, valV kvs (kf j) = some v ∧ Pe j v B', fun H'' h => ⟨n - (i + 1), by omega, rfl, h⟩, fun x H2 y => ?_⟩
      obtain ⟨B2, g2, hY⟩ := w.yields i B' H' x H2 hlt gg.up gg.sub y
      refine hb i x B2 hlt ((a.trans g1.up).trans (gg.up.trans g2.up)) hY B2 H2 (Ex.refl _) g2.sub _ fun σ2 B3 H3 g3 ⟨hw, ht, hke, hve⟩ => ⟨hw, ?_⟩
      refine ht B3 H3 (Ex.refl _) g3.sub _ fun B4 H4 g4 => ?_
      have gD : H' D ≠ none := by rw [hk]; simp
      show tk σ2 H4 _
      refine hke B4 H4 g4.up g4.sub _ fun y B5 H5 g5 p5 => ?_
      refine hve B5 H5 (g4.up.trans g5.up) g5.sub _ fun z B6 H6 g6 p6 => ?_
      have g26 := (((g2.trans g3).trans g4).trans g5).trans g6
      have hnew : kf i ∉ kvs.map (·.1) := fun h => by
        rw [hkeys] at h
        obtain ⟨j, hj, e⟩ := List.mem_map.mp h
        have hj := List.mem_range.mp hj
        have := hinj j i (by omega) hlt e
        omega
      have hlen : kvs.length = i := by
        have := congrArg List.length hkeys
        rw [List.length_map, List.length_map, List.length_range] at this
        exact this
      subst p5
      refine ⟨kvs, kf i, rfl, g26.ex D _ hk, ?_, hlt, B6, (gg.trans g26).mut hD (g26.off D hBD gD), g26.off D hBD gD, _, upd_same, ?_, fun j hj => ?_⟩
      · rw [hlen]
        exact Nat.lt_of_le_of_lt (by omega : i ≤ 100000) (by decide)
      · rw [putK_new _ (valV_none hnew), List.map_append, hkeys, List.range_succ, List.map_append]; rfl
      · rw [valV_put]
        by_cases hji : j = i
        · subst hji
          exact ⟨z, if_pos rfl, p6⟩
        · obtain ⟨v, h1, h2⟩ := hs j (by omega)
          exact ⟨v, by rw [if_neg (fun e => hji (hinj j i (by omega) hlt e))]; exact h1, hm j v B' B6 (by omega) g26.up h2⟩
    · have e : i = n := by omega
      subst e
      refine .inl ⟨w.stops H' (gg.up.trans gg.sub), q (.ref D) _ H' (g1.trans (gg.shown hk hD)) (k D kvs _ (a.trans (g1.up.trans (gg.up.trans (Ex.shown gg.sub hk)))) upd_same hkeys fun j hj => ?_)⟩
      obtain ⟨v, h1, h2⟩ := hs j hj
      exact ⟨v, h1, hm j v B' _ hj (Ex.shown gg.sub hk) h2⟩

/-- a dict comprehension without a test, the keys different -/
theorem e_dcT {vs : List Nat} (kf : Nat → List Key) (Pe : Nat → V → Hp → Prop) (hi : EvI wi σ Hc n Y) (hn : n ≤ 100000) (hinj : ∀ i j, i < n → j < n → kf i = kf j → i = j)
    (hb : ∀ i x B, i < n → Ex Hc B → Y i x B → EvG g x (wipe σ vs) B fun σ2 B2 => wipe σ2 vs = wipe σ vs ∧ EvT tt σ2 B2 true ∧ (EvP tk σ2 B2 fun u B => ∃ b, u = .ref b ∧ B b = some (.tup ((kf i).map kV))) ∧ EvP tv σ2 B2 (Pe i))
    (hm : ∀ i v B B', i < n → Ex B B' → Pe i v B → Pe i v B')
    (k : ∀ p kvs B, Ex Hc B → B p = some (.dT kvs) → kvs.map (·.1) = (List.range n).map kf → (∀ i, i < n → ∃ v, valV kvs (kf i) = some v ∧ Pe i v B) → P (.ref p) B) : EvP (tDcT wi g tt tk tv vs) σ Hc P := fun B H a b Q q =>
  hi B H a b _ fun J B1 H1 g1 w D hD => by
    refine ⟨fun i m H' => m = n - i ∧ i ≤ n ∧ ∃ B', Go B1 H1 B' H' ∧ B' D = none ∧ ∃ kvs, H' D = some (.dT kvs) ∧ kvs.map (·.1) = (List.range i).map kf ∧ ∀ j, j < i → ∃ v, valV kvs (kf j) = some v ∧ Pe j v B', ⟨n, by simp, Nat.zero_le _, B1, GoF.new (.refl g1.sub) hD, g1.sub.none hD, [], upd_same, rfl, fun j h => absurd h (Nat.not_lt_zero _)⟩, ?_⟩
    rintro i m H' ⟨rfl, hin, B', gg, hBD, kvs, hk, hkeys, hs⟩
    by_cases hlt : i < n
    · refine .inr ⟨w.goes i H' hlt (gg.up.trans gg.sub), fun H'' => i + 1 ≤ n ∧ ∃ B', Go B1 H1 B' H'' ∧ B' D = none ∧ ∃ kvs, H'' D = some (.dT kvs) ∧ kvs.map (·.1) = (List.range (i + 1)).map kf ∧ ∀ j, j < i + 1 → ∃ v, valV kvs (kf j) = some v ∧ Pe j v B', fun H'' h => ⟨n - (i + 1), by omega, rfl, h⟩, fun x H2 y => ?_⟩
      obtain ⟨B2, g2, hY⟩ := w.yields i B' H' x H2 hlt gg.up gg.sub y
      refine hb i x B2 hlt ((a.trans g1.up).trans (gg.up.trans g2.up)) hY B2 H2 (Ex.refl _) g2.sub _ fun σ2 B3 H3 g3 ⟨hw, ht, hke, hve⟩ => ⟨hw, ?_⟩
      refine ht B3 H3 (Ex.refl _) g3.sub _ fun B4 H4 g4 => ?_
      have gD : H' D ≠ none := by rw [hk]; simp
      show tk σ2 H4 _
      refine hke B4 H4 g4.up g4.sub _ fun y B5 H5 g5 p5 => ?_
      refine hve B5 H5 (g4.up.trans g5.up) g5.sub _ fun z B6 H6 g6 p6 => ?_
      have g26 := (((g2.trans g3).trans g4).trans g5).trans g6
      have hnew : kf i ∉ kvs.map (·.1) := fun h => by
        rw [hkeys] at h
        obtain ⟨j, hj, e⟩ := List.mem_map.mp h
        have hj := List.mem_range.mp hj
        have := hinj j i (by omega) hlt e
        omega
      have hlen : kvs.length = i := by
        have := congrArg List.length hkeys
        rw [List.length_map, List.length_map, List.length_range] at this
        exact this
      obtain ⟨kb, rfl, hkb⟩ := p5
      refine ⟨kvs, kf i, kb, rfl, g6.sub _ _ (g6.up _ _ hkb), g26.ex D _ hk, ?_, hlt, B6, (gg.trans g26).mut hD (g26.off D hBD gD), g26.off D hBD gD, _, upd_same, ?_, fun j hj => ?_⟩
      · rw [hlen]
        exact Nat.lt_of_le_of_lt (by omega : i ≤ 100000) (by decide)
      · rw [putK_new _ (valV_none hnew), List.map_append, hkeys, List.range_succ, List.map_append]; rfl
      · rw [valV_put]
        by_cases hji : j = i
        · subst hji
          exact ⟨z, if_pos rfl, p6⟩
        · obtain ⟨v, h1, h2⟩ := hs j (by omega)
          exact ⟨v, by rw [if_neg (fun e => hji (hinj j i (by omega) hlt e))]; exact h1, hm j v B' B6 (by omega) g26.up h2⟩
    · have e : i = n := by omega
      subst e
      refine .inl ⟨w.stops H' (gg.up.trans gg.sub), q (.ref D) _ H' (g1.trans (gg.shown hk hD)) (k D kvs _ (a.trans (g1.up.trans (gg.up.trans (Ex.shown gg.sub hk)))) upd_same hkeys fun j hj => ?_)⟩
      obtain ⟨v, h1, h2⟩ := hs j hj
      exact ⟨v, h1, hm j v B' _ hj (Ex.shown gg.sub hk) h2⟩

/-- a comprehension of two clauses, the outer without a test -/
theorem e_lc2 {α : Type} {vs vs1 : List Nat} {Y1 : Nat → Nat → V → Hp → Prop} (m : Nat → Nat) (f : Nat → Nat → Bool) (fe : Nat → Nat → α) (Pe : α → V → Hp → Prop) (hi : EvI wi σ Hc n Y) (hn : n ≤ 300) (hmm : ∀ i, i < n → m i ≤ 300)
    (hb : ∀ i x B, i < n → Ex Hc B → Y i x B → EvG g x (wipe σ vs) B fun σ2 B2 => wipe σ2 vs = wipe σ vs ∧ EvT tt σ2 B2 true ∧ EvI wi1 σ2 B2 (m i) (Y1 i) ∧
      ∀ j x1 B3, j < m i → Ex B2 B3 → Y1 i j x1 B3 → EvG g1 x1 (wipe σ2 vs1) B3 fun σ3 B4 => wipe σ3 vs1 = wipe σ2 vs1 ∧ EvT tt1 σ3 B4 (f i j) ∧ (f i j = true → EvP te σ3 B4 (Pe (fe i j))))
    (hm : ∀ c v B B', Ex B B' → Pe c v B → Pe c v B') (k : ∀ p xs B, Ex Hc B → B p = some (.lst xs) → Seq2 (fun v c => Pe c v B) xs ((List.range n).flatMap fun i => (kept (m i) (f i)).map (fe i)) → P (.ref p) B) : EvP (tLc2 wi g tt wi1 g1 tt1 te vs vs1) σ Hc P := fun B H a b Q q =>
  hi B H a b _ fun J B1 H1 g1 w D hD => by
    let L : Nat → List α := fun i => (List.range i).flatMap fun i => (kept (m i) (f i)).map (fe i)
    have hLen : ∀ i, i ≤ n → (L i).length ≤ 300 * i := fun i => by
      induction i with
      | zero => intro _; exact Nat.le_refl _
      | succ i ih =>
        intro h
        show ((List.range (i + 1)).flatMap _).length ≤ _
        rw [List.range_succ, List.flatMap_append, List.length_append]
        have h1 := ih (by omega)
        have h2 := kept_le (m i) (f i)
        have h3 := hmm i (by omega)
        have : (List.flatMap (fun i => (kept (m i) (f i)).map (fe i)) [i]).length ≤ 300 := by
          simp only [List.flatMap_cons, List.flatMap_nil, List.append_nil, List.length_map]; omega
        show (L i).length + _ ≤ _
        omega
    refine ⟨fun i mm H' => mm = n - i ∧ i ≤ n ∧ ∃ B', Go B1 H1 B' H' ∧ B' D = none ∧ ∃ acc, H' D = some (.lst acc) ∧ Seq2 (fun v c => Pe c v B') acc (L i), ⟨n, by simp, Nat.zero_le _, B1, GoF.new (.refl g1.sub) hD, g1.sub.none hD, [], upd_same, Seq2.nil⟩, ?_⟩
    rintro i mm H' ⟨rfl, hin, B', gg, hBD, acc, hacc, hs⟩
    by_cases hlt : i < n
    · refine .inr ⟨w.goes i H' hlt (gg.up.trans gg.sub), fun H'' => i + 1 ≤ n ∧ ∃ B', Go B1 H1 B' H'' ∧ B' D = none ∧ ∃ acc, H'' D = some (.lst acc) ∧ Seq2 (fun v c => Pe c v B') acc (L (i + 1)), fun H'' h => ⟨n - (i + 1), by omega, rfl, h⟩, fun x H2 y => ?_⟩
      obtain ⟨B2, g2, hY⟩ := w.yields i B' H' x H2 hlt gg.up gg.sub y
      refine hb i x B2 hlt ((a.trans g1.up).trans (gg.up.trans g2.up)) hY B2 H2 (Ex.refl _) g2.sub _ fun σ2 B3 H3 g3 ⟨hw, ht, hi1, hb1⟩ => ⟨hw, ?_⟩
      refine ht B3 H3 (Ex.refl _) g3.sub _ fun B4 H4 g4 => ?_
      show wi1 σ2 H4 _
      refine hi1 B4 H4 g4.up g4.sub _ fun J1 B5 H5 g5 w1 => ?_
      have gD : H' D ≠ none := by rw [hacc]; simp
      have g25 := ((g2.trans g3).trans g4).trans g5
      have gg5 := gg.trans g25
      refine ⟨fun j k' H6 => k' = m i - j ∧ j ≤ m i ∧ ∃ B6, Ex B5 B6 ∧ Go B1 H1 B6 H6 ∧ B6 D = none ∧ ∃ acc, H6 D = some (.lst acc) ∧ Seq2 (fun v c => Pe c v B6) acc (L i ++ (kept j (f i)).map (fe i)), ⟨m i, by simp, Nat.zero_le _, B5, Ex.refl _, gg5, g25.off D hBD gD, acc, g25.ex D _ hacc, ?_⟩, ?_⟩
      · rw [show (kept 0 (f i)).map (fe i) = [] from rfl, List.append_nil]
        exact hs.imp fun v c h => hm c v B' B5 g25.up h
      rintro j k' H6 ⟨rfl, hjn, B6, e56, gg6, hBD6, acc6, hacc6, hs6⟩
      by_cases hjlt : j < m i
      · refine .inr ⟨w1.goes j H6 hjlt (e56.trans gg6.sub), fun H'' => j + 1 ≤ m i ∧ ∃ B6, Ex B5 B6 ∧ Go B1 H1 B6 H'' ∧ B6 D = none ∧ ∃ acc, H'' D = some (.lst acc) ∧ Seq2 (fun v c => Pe c v B6) acc (L i ++ (kept (j + 1) (f i)).map (fe i)), fun H'' h => ⟨m i - (j + 1), by omega, rfl, h⟩, fun x1 H7 y1 => ?_⟩
        obtain ⟨B7, g7, hY1⟩ := w1.yields j B6 H6 x1 H7 hjlt e56 gg6.sub y1
        refine hb1 j x1 B7 hjlt (g4.up.trans (g5.up.trans (e56.trans g7.up))) hY1 B7 H7 (Ex.refl _) g7.sub _ fun σ3 B8 H8 g8 ⟨hw1, ht1, he⟩ => ⟨hw1, ?_⟩
        refine ht1 B8 H8 (Ex.refl _) g8.sub _ fun B9 H9 g9 => ?_
        have g79 := (g7.trans g8).trans g9
        have gD6 : H6 D ≠ none := by rw [hacc6]; simp
        cases hf : f i j with
        | false =>
          show j + 1 ≤ m i ∧ _
          refine ⟨hjlt, B9, e56.trans g79.up, gg6.trans g79, g79.off D hBD6 gD6, acc6, g79.ex D _ hacc6, ?_⟩
          rw [kept_no hf]
          exact hs6.imp fun v c h => hm c v B6 B9 g79.up h
        | true =>
          show te σ3 H9 _
          refine he hf B9 H9 g9.up g9.sub _ fun y B10 H10 g10 p10 => ?_
          have g710 := g79.trans g10
          refine ⟨acc6, g710.ex D _ hacc6, ?_, hjlt, B10, e56.trans g710.up, (gg6.trans g710).mut hD (g710.off D hBD6 gD6), g710.off D hBD6 gD6, acc6 ++ [y], upd_same, ?_⟩
          · rw [hs6.len, List.length_append, List.length_map]
            have h1 := hLen i (by omega)
            have h2 := kept_le j (f i)
            have h3 := hmm i hlt
            exact Nat.lt_of_le_of_lt (by omega : _ ≤ 100000) (by decide)
          · rw [kept_yes hf, List.map_append, ← List.append_assoc]
            exact Seq2.snoc (hs6.imp fun v c h => hm c v B6 B10 g710.up h) p10
      · have ej : j = m i := by omega
        subst ej
        refine .inl ⟨w1.stops H6 (e56.trans gg6.sub), hlt, B6, gg6, hBD6, acc6, hacc6, ?_⟩
        show Seq2 _ acc6 ((List.range (i + 1)).flatMap _)
        rw [List.range_succ, List.flatMap_append, List.flatMap_cons, List.flatMap_nil, List.append_nil]
        exact hs6
    · have e : i = n := by omega
      subst e
      exact .inl ⟨w.stops H' (gg.up.trans gg.sub), q (.ref D) _ H' (g1.trans (gg.shown hacc hD)) (k D acc _ (a.trans (g1.up.trans (gg.up.trans (Ex.shown gg.sub hacc)))) upd_same (hs.imp fun v c h => hm c v B' _ (Ex.shown gg.sub hacc) h))⟩
end
end Sk

/-! mirrored_rankings, rank_tables. -/
namespace Sk
open PySem PySem.Spec PyProof.Rows L2
/-- the scope of a comprehension -/
abbrev cS (ns : List (Str × NameKind)) : Scope := { kind := .function, names := ns, isGenerator := false, isCoroutine := false }
abbrev rTupOf (K : PySem.W.Frag) : List V → Hp → VK → Prop := fun xs H Q => ∃ p ys, xs = [.ref p] ∧ ((SqL K H p ys ∧ ∀ l, H l = none → Q (.ref l) (upd H l (.tup ys))) ∨ (SqT K H p ys ∧ Q (.ref p) H))
abbrev rLenS (K : PySem.W.Frag) : List V → Hp → VK → Prop := fun xs H Q => ∃ p ys, xs = [.ref p] ∧ (SqL K H p ys ∨ SqT K H p ys) ∧ Q (.int ys.length) H
theorem e_tupOfP {K : PySem.W.Frag} {σ : L2.St} {Hc : Hp} {ta : TE} {PL : List V → Hp → Prop} (h : EvP ta σ Hc fun u B => ∃ a vs, u = .ref a ∧ B a = some (.lst vs) ∧ PL vs B) (m : ∀ vs B B', Ex B B' → PL vs B → PL vs B') :
    EvP (tCB (rTupOf K) (tCons ta tNil)) σ Hc fun u B => ∃ a vs, u = .ref a ∧ B a = some (.tup vs) ∧ PL vs B := fun B H a b Q q =>
  h B H a b _ fun v B1 H1 g1 ⟨p, xs, e, hp, hs⟩ => ⟨p, xs, by rw [e], .inl ⟨sl_of (g1.sub _ _ hp), fun l hl => q _ _ _ (g1.laid hl) ⟨l, xs, rfl, upd_same, m _ _ _ (Ex.new (g1.sub.none hl)) hs⟩⟩⟩
def mirR (n : Nat) (R : List (List Nat)) : List (List Nat) := R.reverse.map fun r => r.map (n - 1 - ·)
theorem Rkg.mir {n : Nat} {R : List (List Nat)} (h : Rkg n R) : Rkg n (mirR n R) := by
  refine ⟨h.pos, h.le, by unfold mirR; rw [List.length_map, List.length_reverse, h.len], fun r hr => ?_⟩
  obtain ⟨r0, h0, rfl⟩ := List.mem_map.mp hr
  obtain ⟨h1, h2, h3⟩ := h.row r0 (List.mem_reverse.mp h0)
  refine ⟨by rw [List.length_map, h1], ?_, fun k hk => ?_⟩
  · refine List.pairwise_map.mpr (h2.imp_of_mem fun {a b} ha hb hab e => hab ?_)
    have := h3 a ha
    have := h3 b hb
    omega
  · obtain ⟨k0, h4, rfl⟩ := List.mem_map.mp hk
    have := h.pos
    omega
theorem idxOf_uniq {l : List Nat} (hn : l.Nodup) {i y : Nat} (h : l[i]? = some y) : l.idxOf y = i := by
  have hm := List.mem_of_getElem? h
  have hi := List.idxOf_lt_length_of_mem hm
  have hil := (List.getElem?_eq_some_iff.mp h).1
  have e1 : l[l.idxOf y] = y := List.getElem_idxOf hi
  have e2 : l[i] = y := (List.getElem?_eq_some_iff.mp h).2
  rcases Nat.lt_trichotomy (l.idxOf y) i with c | c | c
  · exact absurd (e1.trans e2.symm) (List.pairwise_iff_getElem.mp hn _ _ hi hil c)
  · exact c
  · exact absurd (e2.trans e1.symm) (List.pairwise_iff_getElem.mp hn _ _ hil hi c)
theorem Rkg.mir_rk {n : Nat} {R : List (List Nat)} (h : Rkg n R) (p y : Nat) (hp : p < n) (hy : y < n) : rkOf (mirR n R) p y = rkOf R (n - 1 - p) (n - 1 - y) := by
  obtain ⟨r, h1, h2, h3, h4⟩ := h.get (p := n - 1 - p) (y := n - 1 - y) (by omega) (by omega)
  have hR : (mirR n R)[p]? = some (r.map (n - 1 - ·)) := by
    unfold mirR
    rw [List.getElem?_map, List.getElem?_reverse (by rw [h.len]; exact hp), h.len, h1]
    rfl
  have hy' : (r.map (n - 1 - ·))[rkOf R (n - 1 - p) (n - 1 - y)]? = some y := by
    rw [List.getElem?_map, h2]
    show some (n - 1 - (n - 1 - y)) = some _
    congr 1; omega
  have nd := (h.mir.row _ (List.mem_of_getElem? hR)).2.1
  show ((mirR n R).getD p []).idxOf y = _
  rw [List.getD_eq_getElem?_getD, hR]
  exact idxOf_uniq nd hy'
def sp_mirrored_rankings : Sp := fun vs H Q _ => ∃ (B : Hp) (v : V) (n : Nat) (R : List (List Nat)), vs = [v] ∧ IsRk B v R ∧ Rkg n R ∧ Ex B H ∧ ∀ v1 B1 H1, Go B H B1 H1 → IsRk B1 v1 (mirR n R) → Q v1 H1
def sp_rank_tables : Sp := fun vs H Q _ => ∃ (B : Hp) (v : V) (n : Nat) (R : List (List Nat)), vs = [v] ∧ IsRk B v R ∧ Rkg n R ∧ Ex B H ∧ ∀ v1 B1 H1, Go B H B1 H1 → IsTab B1 v1 R → Q v1 H1
theorem getElem?_range_some {n i k : Nat} (h : (List.range n)[i]? = some k) : i = k ∧ i < n := by
  have h1 := (List.getElem?_eq_some_iff.mp h).1
  have h2 := (List.getElem?_eq_some_iff.mp h).2
  rw [List.getElem_range] at h2
  rw [List.length_range] at h1
  exact ⟨h2, h1⟩
/-- a comprehension over all of a list, each told -/
theorem seq2_range {α : Type} {P : V → Nat → Prop} {Q : V → α → Prop} {vs : List V} {xs : List α} (s : Seq2 P vs (List.range xs.length)) (h : ∀ i v x, xs[i]? = some x → P v i → Q v x) : Seq2 Q vs xs :=
  ⟨by rw [s.len, List.length_range], fun i v x h1 h2 => h i v x h2 (s.at_ i v i h1 (by rw [List.getElem?_range (List.getElem?_eq_some_iff.mp h2).1]))⟩
section
variable {P : Program} {w : World} {K : PySem.W.Frag} {mg : Str → Option Value} {base : Heap} {C : Addr} (T : Top K mg C)
include T
theorem cal_mirrored_rankings : Cal P w K mg base "mirrored_rankings" ["rankings"] 1 sp_mirrored_rankings := by
  refine T.d_mirrored_rankings.cal sc_mirrored_rankings (fun vs H Q E h => ?_) (fun _ _ _ _ _ _ us hl => match us, hl with | [_], _ => rfl) (fun f cdv A outer s H vs Q E hr h => ?_)
  · obtain ⟨B, v, n, R, rfl, _⟩ := h
    rfl
  · obtain ⟨B, v, n, R, rfl, ⟨p, us, rfl, hp, hs⟩, G, ex, q⟩ := h
    have hlen : us.length = n := by rw [hs.len, G.len]
    refine ⟨_, (pss_cons (ps_set (i := 1) sc_mirrored_rankings.nd rfl (by first | exact Or.inl rfl | exact Or.inr rfl) (pe_op op_sub (pe_callB call_len_seq (by rfl) T.b_len PySem.boot_len (pa_cons (pv 0) pa_nil)) pe_int))
    (pss_one (ps_ret (pe_callTy call_tuple_of (by rfl) T.b_tuple (by decide +kernel) (pa_cons (pe_lc (te := tCB (rTupOf K) (tCons (tLc (iTup K (tVar 3)) (gName 2) tYes (tOp rSub (tVar 1) (tVar 2)) [2]) tNil)) (own := [("ranking", 3)]) rfl sc_mirrored_rankings.nd (pi_tup (pe_revT (pv 0))) (blkOk_by (own := [("ranking", 3)]) (N := N_mirrored_rankings) (sc := defScope s_mirrored_rankings) (by decide +kernel)) (fun _ _ _ _ _ => (pg_name (i := 3) sc_mirrored_rankings.nd rfl (Or.inl rfl))) (fun _ _ _ _ _ => pts_nil) (fun _ _ _ _ _ => (pe_callTy call_tuple_of (by rfl) T.b_tuple (by decide +kernel) (pa_cons (pe_lc (own := [("item", 2)]) rfl sc_mirrored_rankings.nd (pi_tup (pv 3)) (blkOk_by (own := [("item", 2)]) (N := N_mirrored_rankings) (sc := cS [(".0", .local), ("ranking", .local), ("tuple", .globalImplicit), ("last", .cell)]) (by decide +kernel)) (fun _ _ _ _ _ => (pg_name (i := 2) sc_mirrored_rankings.nd rfl (by first | exact Or.inl rfl | exact Or.inr rfl))) (fun _ _ _ _ _ => pts_nil) (fun _ _ _ _ _ => (pe_op op_sub (pv 1) (pv 2)))) pa_nil)))) pa_nil))))), ?_⟩
    refine q_asg (v_I0 (v_lenT (t_var rfl hp) hlen) v_c) ex fun v1 B1 H1 g1 e1 => ?_
    subst e1
    have hp1 := g1.up _ _ hp
    refine s_ret (P := fun u B => IsRk B u (mirR n R)) ?_ g1.sub fun v B2 H2 g2 h2 => q v B2 H2 (g1.trans g2) h2
    have hL : EvP (tLc (iTup K (tRevT K (tVar 0))) (gName 3) tYes (tCB (rTupOf K) (tCons (tLc (iTup K (tVar 3)) (gName 2) tYes (tOp rSub (tVar 1) (tVar 2)) [2]) tNil)) [3]) [some (.ref p), some (.int ((n : Nat) - 1)), none, none] B1 fun u B => ∃ a vs, u = .ref a ∧ B a = some (.lst vs) ∧ Seq2 (IsRw B) vs (mirR n R) := by
      have hrev : us.reverse.length = n := by rw [List.length_reverse, hlen]
      refine e_lc (n := n) (fun i v B => ∃ r, R.reverse[i]? = some r ∧ IsRw B v (r.map (n - 1 - ·))) (fun _ => true) ((i_tup (e_revT (t_var rfl hp1)).st).is hrev) (by have := G.le; omega) (fun i x B hi e hx => g_name fun B' e' => ⟨rfl, t_yes, fun _ => ?_⟩) (fun i v B B' _ e ⟨r, h1, h2⟩ => ⟨r, h1, h2.up e⟩) fun p2 xs B e h1 h2 => ⟨p2, xs, rfl, h1, ?_⟩
      · rw [List.getElem?_reverse (by omega)] at hx
        obtain ⟨r, h1, a, rfl, ha⟩ := hs.back hx
        have ha' := ha.up (g1.up.trans (e.trans e'))
        have hr : R.reverse[i]? = some r := by rw [List.getElem?_reverse (by rw [G.len]; exact hi), ← hs.len]; exact h1
        obtain ⟨hl, hnd, hlt⟩ := G.row r (List.mem_of_getElem? h1)
        refine (e_tupOf (xs := r.map fun k => vN (n - 1 - k)) ?_).wk fun v B5 e5 ⟨p5, h5, h6⟩ => ⟨r, hr, p5, h5, .inl (by rw [h6, List.map_map]; rfl)⟩
        refine (e_lcV (n := n) (fun _ => true) (fun i => vN (n - 1 - r.getD i 0)) ((i_tup (s_var rfl ha')).is (by rw [List.length_map, hl])) (by have := G.le; omega) (fun x => rfl) (fun _ _ _ _ _ _ => t_yes) fun i x B hi e hx _ => ?_).wk fun v B e ⟨p', h1, h2⟩ => ⟨p', h1, ?_⟩
        · rw [List.getElem?_map] at hx
          cases hk : r[i]? with
          | none => rw [hk] at hx; cases hx
          | some k =>
            rw [hk] at hx
            have hx := Option.some.inj hx
            subst hx
            have kl := hlt k (List.mem_of_getElem? hk)
            refine EvV.is (v_I0 (v_var rfl) (v_var rfl)) ?_
            rw [List.getD_eq_getElem?_getD, hk]
            show V.int _ = V.int _
            congr 1
            show (n : Int) - 1 - (k : Int) = ((n - 1 - k : Nat) : Int)
            omega
        · rw [h2, kept_all]
          congr 2
          refine List.ext_getElem? fun i => ?_
          rw [List.getElem?_map, List.getElem?_map]
          by_cases hi : i < n
          · rw [List.getElem?_range hi, List.getElem?_eq_getElem (by omega : i < r.length)]
            show some (vN (n - 1 - r.getD i 0)) = some (vN (n - 1 - r[i]))
            rw [List.getD_eq_getElem?_getD, List.getElem?_eq_getElem (by omega : i < r.length)]; rfl
          · rw [List.getElem?_eq_none (by rw [List.length_range]; omega), List.getElem?_eq_none (by omega)]; rfl
      · rw [kept_all] at h2
        have hn : (mirR n R).length = n := by unfold mirR; rw [List.length_map, List.length_reverse, G.len]
        refine seq2_range (P := fun v i => ∃ r, R.reverse[i]? = some r ∧ IsRw B v (r.map (n - 1 - ·))) (by rw [hn]; exact h2) fun i v x hx ⟨r, h3, h4⟩ => ?_
        unfold mirR at hx
        rw [List.getElem?_map, h3] at hx
        rw [← Option.some.inj hx]; exact h4
    exact e_tupOfP (K := K) (PL := fun vs B => Seq2 (IsRw B) vs (mirR n R)) hL fun vs B B' e h => h.imp fun _ _ h => h.up e
theorem cal_rank_tables : Cal P w K mg base "rank_tables" ["rankings"] 1 sp_rank_tables := by
  refine T.d_rank_tables.cal sc_rank_tables (fun vs H Q E h => ?_) (fun _ _ _ _ _ _ us hl => match us, hl with | [_], _ => rfl) (fun f cdv A outer s H vs Q E hr h => ?_)
  · obtain ⟨B, v, n, R, rfl, _⟩ := h
    rfl
  · obtain ⟨B, v, n, R, rfl, ⟨p, us, rfl, hp, hs⟩, G, ex, q⟩ := h
    have hlen : us.length = n := by rw [hs.len, G.len]
    refine ⟨_, (pss_one (ps_ret (pe_lc (te := tDc (iEnumT K (tCons (tVar 3) tNil)) (gTup K 2 (gCons (gName 1) (gCons (gName 2) gNil))) tYes (tVar 2) (tVar 1) [1, 2]) (own := [("ranking", 3)]) rfl sc_rank_tables.nd (pi_tup (pv 0)) (blkOk_by (own := [("ranking", 3)]) (N := N_rank_tables) (sc := defScope s_rank_tables) (by decide +kernel)) (fun _ _ _ _ _ => (pg_name (i := 3) sc_rank_tables.nd rfl (Or.inl rfl))) (fun _ _ _ _ _ => pts_nil) (fun _ _ _ _ _ => (pe_dc (own := [("place", 1), ("item", 2)]) rfl sc_rank_tables.nd (pi_enumT (by rfl) T.b_enumerate (pa_cons (pv 3) pa_nil)) (blkOk_by (own := [("place", 1), ("item", 2)]) (N := N_rank_tables) (sc := cS [(".0", .local), ("ranking", .local), ("enumerate", .globalImplicit)]) (by decide +kernel)) (fun _ _ _ _ _ => (pg_tup rfl (pgs_cons (pg_name (i := 1) sc_rank_tables.nd rfl (by first | exact Or.inl rfl | exact Or.inr rfl)) (pgs_cons (pg_name (i := 2) sc_rank_tables.nd rfl (by first | exact Or.inl rfl | exact Or.inr rfl)) pgs_nil)))) (fun _ _ _ _ _ => pts_nil) (fun _ _ _ _ _ => (pv 2)) (fun _ _ _ _ _ => (pv 1))))))), ?_⟩
    refine s_ret (P := fun u B => IsTab B u R) ?_ ex fun v B2 H2 g2 h2 => q v B2 H2 g2 h2
    refine e_lc (n := n) (fun i v B => ∃ r, R[i]? = some r ∧ IsTd B v r) (fun _ => true) ((i_tup (t_var rfl hp).st).is hlen) (by have := G.le; omega) (fun i x B hi e hx => g_name fun B' e' => ⟨rfl, t_yes, fun _ => ?_⟩) (fun i v B B' _ e ⟨r, h1, h2⟩ => ⟨r, h1, h2.up e⟩) fun p2 xs B e h1 h2 => ⟨p2, xs, rfl, h1, ?_⟩
    · obtain ⟨r, h1, a, rfl, ha⟩ := hs.back hx
      have ha' := ha.up (e.trans e')
      obtain ⟨hl, hnd, hlt⟩ := G.row r (List.mem_of_getElem? h1)
      refine e_dcK (n := n) (fun i => .inl ((r.getD i 0 : Nat) : Int)) (fun i v _ => v = vN i) ((i_enum (s_var rfl ha')).is (by rw [List.length_map, hl])) (by have := G.le; omega) (fun i j hi hj e => ?_) (fun i x B hi e hx => ?_) (fun _ _ _ _ _ _ h => h) fun p3 kvs B e3 h3 h4 h5 => ⟨r, h1, p3, kvs, rfl, h3, fun i j hij => ?_⟩
      · have e := Int.ofNat.inj (Sum.inl.inj e)
        rw [List.getD_eq_getElem?_getD, List.getD_eq_getElem?_getD, List.getElem?_eq_getElem (by omega : i < r.length), List.getElem?_eq_getElem (by omega : j < r.length)] at e
        have e : r[i] = r[j] := e
        rcases Nat.lt_trichotomy i j with c | c | c
        · exact absurd e (List.pairwise_iff_getElem.mp hnd _ _ (by omega) (by omega) c)
        · exact c
        · exact absurd e.symm (List.pairwise_iff_getElem.mp hnd _ _ (by omega) (by omega) c)
      · obtain ⟨Tt, u, rfl, hu, hT⟩ := hx
        refine g_pair hT fun B6 e6 => ⟨rfl, t_yes, ?_, v_var rfl⟩
        rw [List.getElem?_map] at hu
        cases hk : r[i]? with
        | none => rw [hk] at hu; cases hu
        | some k =>
          rw [hk] at hu
          refine v_var ?_
          rw [← Option.some.inj hu, List.getD_eq_getElem?_getD, hk]; rfl
      · obtain ⟨v, h6, h7⟩ := h5 i (by have := (List.getElem?_eq_some_iff.mp hij).1; omega)
        rw [List.getD_eq_getElem?_getD, hij] at h6
        rw [← h7]; exact h6
    · rw [kept_all] at h2
      refine seq2_range (P := fun v i => ∃ r, R[i]? = some r ∧ IsTd B v r) (by rw [G.len]; exact h2) fun i v x hx ⟨r, h3, h4⟩ => ?_
      rw [h3] at hx
      rw [← Option.some.inj hx]; exact h4
end
end Sk

/-! Choices: likes, left_index, stay_index. -/
namespace Sk
open PySem PySem.Spec PyProof.Rows L2
def word (b : Bool) : Str := if b then "left" else "stay"
def IsC (H : Hp) (v : V) (c : Sw.Ch) : Prop := ∃ a, v = .ref a ∧ H a = some (.tup [vN c.1, .str (word c.2)])
theorem IsC.up {H H' : Hp} {v : V} {c : Sw.Ch} (h : IsC H v c) (e : Ex H H') : IsC H' v c := let ⟨a, h1, h2⟩ := h; ⟨a, h1, e _ _ h2⟩
def ixV : Option Nat → V
  | none => .non
  | some k => vN k
abbrev fsOf (tb : V) (x q w : Nat) (kn : Addr) : List (Str × V) := [("tables", tb), ("item", vN x), ("person", vN q), ("last", vN w), ("known", .ref kn)]
structure Nums (n x q w : Nat) (R : List (List Nat)) : Prop where
  G : Rkg n R
  xq : x < q
  qw : q ≤ w
  wn : w < n
/-- the instance -/
def IsCh0 (C : Addr) (H : Hp) (c kn : Addr) (R : List (List Nat)) (x q w : Nat) : Prop := ∃ dx tb, H c = some (.ins C dx (fsOf tb x q w kn)) ∧ IsTab H tb R
theorem IsCh0.up {C : Addr} {H H' : Hp} {c kn : Addr} {R : List (List Nat)} {x q w : Nat} (h : IsCh0 C H c kn R x q w) (e : Ex H H') : IsCh0 C H' c kn R x q w := let ⟨dx, tb, h1, h2⟩ := h; ⟨dx, tb, e _ _ h1, h2.up e⟩
abbrev keyC (y : Nat) (b : Bool) : List Key := [.inl (y : Int), .inr (word b)]
def KnOk (H : Hp) (kn : Addr) (R : List (List Nat)) (x q w : Nat) : Prop := ∃ kvs, H kn = some (.dT kvs) ∧ ∀ y b, x < y → y ≤ w → valV kvs (keyC y b) = some (ixV (Sw.idx (rkOf R) x q w (y, b)))
theorem KnOk.up {H H' : Hp} {kn : Addr} {R : List (List Nat)} {x q w : Nat} (h : KnOk H kn R x q w) (e : Ex H H') : KnOk H' kn R x q w := let ⟨kvs, h1, h2⟩ := h; ⟨kvs, e _ _ h1, h2⟩
def IsCh (C : Addr) (H : Hp) (c : Addr) (R : List (List Nat)) (x q w : Nat) : Prop := ∃ kn, IsCh0 C H c kn R x q w ∧ KnOk H kn R x q w
theorem IsCh.up {C : Addr} {H H' : Hp} {c : Addr} {R : List (List Nat)} {x q w : Nat} (h : IsCh C H c R x q w) (e : Ex H H') : IsCh C H' c R x q w := let ⟨kn, h1, h2⟩ := h; ⟨kn, h1.up e, h2.up e⟩

def sp_likes (C : Addr) : Sp := fun vs H Q _ => ∃ (B : Hp) (c kn : Addr) (n x q w p y z : Nat) (R : List (List Nat)), vs = [.ref c, vN p, vN y, vN z] ∧ IsCh0 C B c kn R x q w ∧ Nums n x q w R ∧ p < n ∧ y < n ∧ z < n ∧ Ex B H ∧ ∀ B1 H1, Go B H B1 H1 → Q (.bl (Sw.likes (rkOf R) p y z)) H1
def sp_left_index (C : Addr) : Sp := fun vs H Q _ => ∃ (B : Hp) (c kn : Addr) (n x q w y : Nat) (R : List (List Nat)), vs = [.ref c, vN y] ∧ IsCh0 C B c kn R x q w ∧ Nums n x q w R ∧ x < y ∧ y < n ∧ Ex B H ∧ ∀ B1 H1, Go B H B1 H1 → Q (ixV (Sw.leftIdx (rkOf R) x q y)) H1
def sp_stay_index (C : Addr) : Sp := fun vs H Q _ => ∃ (B : Hp) (c kn : Addr) (n x q w y : Nat) (R : List (List Nat)), vs = [.ref c, vN y] ∧ IsCh0 C B c kn R x q w ∧ Nums n x q w R ∧ x < y ∧ y < n ∧ Ex B H ∧ ∀ B1 H1, Go B H B1 H1 → Q (ixV (Sw.stayIdx (rkOf R) q w y)) H1
section
variable {K : PySem.W.Frag} {σ : L2.St} {Hc : Hp} {ta tb td : TE}
theorem shape_ints : ∀ xs : List Nat, PyData.canLayAll0 (xs.map fun k => PyData.int (k : Nat)) = true ∧ PyData.depthAll (xs.map fun k => PyData.int (k : Nat)) ≤ 1
  | [] => ⟨rfl, Nat.zero_le _⟩
  | k :: ks => by
    obtain ⟨h1, h2⟩ := shape_ints ks
    constructor
    · rw [List.map_cons, PyData.canLayAll0, h1]; rfl
    · rw [List.map_cons, PyData.depthAll]
      have : PyData.depth (.int (k : Nat)) ≤ 1 := by rw [PyData.depth] <;> simp
      omega
theorem shaped_ints (xs : List Nat) : SeqAt.shaped (.list (xs.map fun k => PyData.int (k : Nat))) = true := by
  obtain ⟨h1, h2⟩ := shape_ints xs
  unfold SeqAt.shaped
  rw [PyData.canLay0, PyData.depth, h1]
  exact Bool.and_eq_true_iff.mpr ⟨rfl, decide_eq_true (by omega)⟩
theorem v_add {i j : Int} (ha : EvV ta σ Hc (.int i)) (hb : EvV tb σ Hc (.int j)) : EvV (tOp rAdd ta tb) σ Hc (.int (i + j)) := v_I0 (g := fun i j => .int (i + j)) ha hb
theorem v_sub {i j : Int} (ha : EvV ta σ Hc (.int i)) (hb : EvV tb σ Hc (.int j)) : EvV (tOp rSub ta tb) σ Hc (.int (i - j)) := v_I0 (g := fun i j => .int (i - j)) ha hb
theorem v_addN {i j : Nat} (ha : EvV ta σ Hc (vN i)) (hb : EvV tb σ Hc (.int (j : Nat))) : EvV (tOp rAdd ta tb) σ Hc (vN (i + j)) := (v_add ha hb).is (by rw [← Int.natCast_add])
theorem v_subN {i j k : Nat} (ha : EvV ta σ Hc (vN i)) (hb : EvV tb σ Hc (.int (j : Nat))) (h : i = k + j) : EvV (tOp rSub ta tb) σ Hc (vN k) := (v_sub ha hb).is (by rw [h]; congr 1; omega)
/-- tables[p][y] -/
theorem v_rank {n p y : Nat} {R : List (List Nat)} {u : V} (ht : EvV ta σ Hc u) (hT : IsTab Hc u R) (G : Rkg n R) (hp : p < n) (hy : y < n) (h1 : EvV tb σ Hc (vN p)) (h2 : EvV td σ Hc (vN y)) : EvV (tDGet (tOp (rIxL K) ta tb) td) σ Hc (vN (rkOf R p y)) := by
  obtain ⟨a, vs, rfl, ha, hs⟩ := hT
  obtain ⟨r, e1, e2, e3, _⟩ := G.get hp hy
  obtain ⟨v, e4, d, kvs, rfl, hd, hk⟩ := hs.get e1
  refine e_dget (p := d) (kvs := kvs) (k := .inl (y : Int)) (EvP.ofV (v_ixL (EvLst.ofV ht ha) h1 (atI_nat e4)) fun B e => ⟨rfl, .inl (e _ _ hd)⟩) h2 (hk _ _ e2) fun _ _ => rfl
theorem dp_ints {H : Hp} : ∀ xs : List Nat, DpAll K H (xs.map vN) (xs.map fun k => PyData.int (k : Nat))
  | [] => .nil
  | k :: ks => .cons (.int _) (dp_ints ks)
/-- a list of numbers beside [] -/
theorem v_eqNil {xs : List Nat} (h : EvLst ta σ Hc (xs.map vN)) : EvV (tOp (rEqD K) ta (tLst tNil)) σ Hc (.bl (decide (xs = []))) := by
  refine EvV.is (v_eqD (d := .list (xs.map fun k => PyData.int (k : Nat))) (e := .list []) (h.wk fun v B _ ⟨p, h1, h2⟩ => ?_) ((e_lstV (xs := []) av_nil (by simp)).wk fun v B _ ⟨p, h1, h2⟩ => ?_) ?_ (by rfl)) ?_
  · subst h1
    exact ⟨.lst (sl_of h2) (dp_ints xs), fun B' e => .lst (sl_of (e _ _ h2)) (dp_ints xs)⟩
  · subst h1
    exact fun B' e => .lst (sl_of (e _ _ h2)) .nil
  · exact shaped_ints xs
  · cases xs with
    | nil => rfl
    | cons a l => rfl
end
section
variable {P : Program} {w : World} {K : PySem.W.Frag} {mg : Str → Option Value} {base : Heap} {C : Addr} (T : Top K mg C)
include T
theorem mal_likes : Mal P w K mg base C "likes" ["self", "person", "y", "z"] 1 (sp_likes C) := by
  refine T.m_likes.mal sc_M_likes (fun vs H Q E h => ?_) (fun _ _ _ _ _ _ us hl => match us, hl with | [_, _, _, _], _ => rfl) (fun f cdv A outer s H vs Q E hr h => ?_)
  · obtain ⟨B, c, kn, n, x, q, w, p, y, z, R, rfl, _⟩ := h
    rfl
  · obtain ⟨B, c, kn, n, x, q, w, p, y, z, R, rfl, ⟨dx, tb, hI, hT⟩, N, hp, hy, hz, ex, qq⟩ := h
    have hu := hu_of hr
    refine ⟨_, (pss_one (ps_ret (pe_cmpR op_lt (pe_dget hu (pe_ix ix_list (pe_fld (pv 0) rfl) (pv 1) (fun _ _ => rfl)) (pv 2) (fun _ _ => rfl)) (pe_dget hu (pe_ix ix_list (pe_fld (pv 0) rfl) (pv 1) (fun _ _ => rfl)) (pv 3) (fun _ _ => rfl)) (nomark _)))), ?_⟩
    have h1 : EvV (tFld K (tVar 0) "tables") [some (.ref c), some (vN p), some (vN y), some (vN z)] B tb := v_fld (v_var rfl) hI T.cl T.nf_tables rfl
    refine s_ret (v_I0 (v_rank h1 hT N.G hp hy (v_var rfl) (v_var rfl)) (v_rank h1 hT N.G hp hz (v_var rfl) (v_var rfl))) ex fun v B1 H1 g e => ?_
    rw [e]
    have : decide (((rkOf R p y : Nat) : Int) < (rkOf R p z : Nat)) = Sw.likes (rkOf R) p y z := by
      unfold Sw.likes
      exact decide_eq_decide.mpr (by omega)
    rw [this]
    exact qq B1 H1 g
theorem mal_left_index : Mal P w K mg base C "left_index" ["self", "y"] 2 (sp_left_index C) := by
  refine T.m_left_index.mal sc_M_left_index (fun vs H Q E h => ?_) (fun _ _ _ _ _ _ us hl => match us, hl with | [_, _], _ => rfl) (fun f cdv A outer s H vs Q E hr h => ?_)
  · obtain ⟨B, c, kn, n, x, q, w, y, R, rfl, _⟩ := h
    rfl
  · obtain ⟨B, c, kn, n, x, q, w, y, R, rfl, hC, N, hy, hyw, ex, qq⟩ := h
    have hu0 := hr.units
    have hG := N.G
    have hn := N.G.le
    have hxq := N.xq
    have hqw := N.qw
    have hwn := N.wn
    refine ⟨_, (pss_cons (ps_set (i := 2) sc_M_left_index.nd rfl (Or.inl rfl) (pe_callB (call_min2 (by rfl)) (by rfl) T.b_min (by decide +kernel) (pa_cons (pv 1) (pa_cons (pe_fld (pv 0) rfl) pa_nil))))
    (pss_cons (ps_setLc (tt := tB (tMeth C "likes" (sp_likes C) [] E0 (tVar 0) (tCons (tVar 4) (tCons (tVar 1) (tCons (tFld K (tVar 0) "item") tNil))))) (i := 3) (own := [("person", 4)]) rfl sc_M_left_index.nd rfl rfl (sw_true rfl rfl rfl (by decide +kernel)) (pi_range2 (by rfl) T.b_range (pa_cons (pe_fld (pv 0) rfl) (pa_cons (pe_op op_add (pv 2) pe_int) pa_nil))) (blkOk_by (own := [("person", 4)]) (N := N_M_left_index) (sc := defScope s_M_left_index) (by decide +kernel)) (fun _ _ _ _ _ => (pg_name (i := 4) sc_M_left_index.nd rfl (Or.inl rfl))) (fun _ _ _ _ _ => (pts_one (pt_val ((mal_likes T).pe T.cl hr (by decide) (pv 0) (pa_cons (pv 4) (pa_cons (pv 1) (pa_cons (pe_fld (pv 0) rfl) pa_nil))))))) (fun _ _ _ _ _ => (pv 4)))
    (pss_one (ps_ret (pe_ifExp (PW.pt (pw_or (pt_cmpR (op_eqD hu0) (pv 3) (pe_lst pa_nil) (nomark _)) (pw_or1 (pt_cmpR op_eq (pe_ix ix_list (pv 3) (pe_un un_neg pe_int) (fun _ _ => rfl)) (pv 2) (nomark _))))) pe_non (pe_op op_add (pe_op op_sub (pe_ix ix_list (pv 3) (pe_un un_neg pe_int) (fun _ _ => rfl)) (pe_fld (pv 0) rfl)) pe_int)))))), ?_⟩
    have fl : ∀ {σ : L2.St} {B' : Hp} {f : Str} {v : V}, σ[0]? = some (some (.ref c)) → Ex B B' → NoAttr K C f → (∀ tb, (fsOf tb x q w kn).lookup f = some v) → EvV (tFld K (tVar 0) f) σ B' v := fun h e nf hl => by
      obtain ⟨dx, tb, hI, hT⟩ := hC.up e
      exact v_fld (v_var h) hI T.cl nf (hl tb)
    refine q_asg (v_min2 (f := fun i j => if j < i then j else i) (v_var rfl) (fl rfl (Ex.refl _) T.nf_person fun _ => rfl)) ex fun v1 B1 H1 g1 e1 => ?_
    have e1' : v1 = vN (min y q) := by
      rw [e1]
      show V.int _ = V.int _
      congr 1
      by_cases h : (q : Int) < (y : Int)
      · rw [if_pos h]; omega
      · rw [if_neg h]; omega
    subst e1'
    have hL := e_lcV (n := min y q + 1 - x) (vs := [4]) (j := 4) (te := tVar 4) (tt := tB (tMeth C "likes" (sp_likes C) [] E0 (tVar 0) (tCons (tVar 4) (tCons (tVar 1) (tCons (tFld K (tVar 0) "item") tNil))))) (σ := [some (.ref c), some (vN y), some (vN (min y q)), none, none]) (Hc := B1)
      (fun i => Sw.likes (rkOf R) (x + i) y x) (fun i => vN (x + i)) (i_rng2 (tr := tCons (tFld K (tVar 0) "item") (tCons (tOp rAdd (tVar 2) (tC (.int 1))) tNil)) (lo := x) (hi := min y q + 1) (av_cons (fl rfl g1.up T.nf_item fun _ => rfl) (av_cons (v_addN (v_var rfl) v_c) av_nil)) (by omega) (by omega)) (by omega) (fun _ => rfl)
      (fun i v B' hi e hv => t_B (by
        subst hv
        obtain ⟨dx, tb, hI, hT⟩ := hC.up (g1.up.trans e)
        refine e_meth (v_var rfl) hI rfl (av_cons (v_var rfl) (av_cons (v_var rfl) (av_cons (fl rfl (g1.up.trans e) T.nf_item fun _ => rfl) av_nil))) fun vs B2 e2 ev => ?_
        subst ev
        exact fun B3 H3 a b Q q E => ⟨B3, c, kn, n, x, _, w, x + i, y, x, R, rfl, hC.up (g1.up.trans (e.trans (e2.trans a))), N, by omega, by omega, by omega, b, fun B4 H4 g => q _ B4 H4 g rfl⟩))
      (fun i v B' hi e hv _ => v_var (by rw [hv]; rfl))
    refine q_asg hL g1.sub fun v2 B2 H2 g2 ⟨p, e2, hp⟩ => ?_
    subst e2
    have hS : (kept (min y q + 1 - x) fun i => Sw.likes (rkOf R) (x + i) y x).map (fun i => vN (x + i)) = (Sw.leftSome (rkOf R) x q y).map vN := by
      unfold Sw.leftSome
      rw [List.map_map]; rfl
    rw [hS] at hp
    have hIx : Sw.leftIdx (rkOf R) x q y = match (Sw.leftSome (rkOf R) x q y).getLast? with | none => none | some a => if a = min y q then none else some (a - x + 1) := rfl
    have hge : ∀ b ∈ Sw.leftSome (rkOf R) x q y, x ≤ b := fun b hb => by
      obtain ⟨i, _, rfl⟩ := List.mem_map.mp hb
      exact Nat.le_add_right _ _
    generalize Sw.leftSome (rkOf R) x q y = L at hp hIx hge
    rw [hIx] at qq
    cases hl : L.getLast? with
    | none =>
      rw [hl] at qq
      have : L = [] := List.getLast?_eq_none_iff.mp hl
      subst this
      refine s_ret (P := fun u _ => u = .non) (e_if (t_or (b := true) (t_test (v_eqNil (l_var rfl hp))) (fun z => by cases z)) (fun _ => v_c) fun z => by simp at z) g2.sub fun v B3 H3 g3 e => ?_
      rw [e]
      exact qq B3 H3 ((g1.trans g2).trans g3)
    | some a =>
      rw [hl] at qq
      have hne : L ≠ [] := fun z => by subst z; cases hl
      have hLa : (L.map vN)[(L.map vN).length - 1]? = some (vN a) := by
        rw [List.length_map, List.getElem?_map, ← List.getLast?_eq_getElem?, hl]; rfl
      have ixl : ∀ {B'}, Ex B2 B' → EvV (tOp (rIxL K) (tVar 3) (tUn (rU fun i => .int (-i)) (tC (.int 1)))) [some (.ref c), some (vN y), some (vN (min y q)), some (.ref p), none] B' (vN a) := fun e => v_ixL (l_var rfl (e _ _ hp)) (v_un v_c) (atI_last hLa)
      refine s_ret (P := fun u _ => u = ixV (if a = min y q then none else some (a - x + 1))) (e_if (t_or (t_test (v_eqNil (l_var rfl hp))) fun _ => t_test (v_eq (ixl (Ex.refl _)) (v_var rfl) rfl)) (fun z => ?_) fun z => ?_) g2.sub fun v B3 H3 g3 e => ?_
      · rw [decide_eq_false hne, Bool.false_or] at z
        have : a = min y q := by
          have := of_decide_eq_true z
          injection this with this
          omega
        rw [if_pos this]
        exact v_c
      · rw [decide_eq_false hne, Bool.false_or] at z
        have hne2 : a ≠ min y q := fun e => by
          rw [e] at z
          rw [decide_eq_true rfl] at z
          cases z
        rw [if_neg hne2]
        refine EvV.is (v_I0 (v_I0 (ixl (Ex.refl _)) (fl rfl (g1.up.trans g2.up) T.nf_item fun _ => rfl)) v_c) ?_
        have := hge a (List.mem_of_getLast? hl)
        show V.int _ = V.int _
        congr 1
        omega
      · rw [e]
        exact qq B3 H3 ((g1.trans g2).trans g3)
theorem mal_stay_index : Mal P w K mg base C "stay_index" ["self", "y"] 2 (sp_stay_index C) := by
  refine T.m_stay_index.mal sc_M_stay_index (fun vs H Q E h => ?_) (fun _ _ _ _ _ _ us hl => match us, hl with | [_, _], _ => rfl) (fun f cdv A outer s H vs Q E hr h => ?_)
  · obtain ⟨B, c, kn, n, x, q, w, y, R, rfl, _⟩ := h
    rfl
  · obtain ⟨B, c, kn, n, x, q, w, y, R, rfl, hC, N, hy, hyw, ex, qq⟩ := h
    have hu0 := hr.units
    have hn := N.G.le
    have hxq := N.xq
    have hqw := N.qw
    have hwn := N.wn
    refine ⟨_, (pss_cons (ps_set (i := 2) sc_M_stay_index.nd rfl (Or.inl rfl) (pe_callB (call_max2 (by rfl)) (by rfl) T.b_max (by decide +kernel) (pa_cons (pv 1) (pa_cons (pe_op op_sub (pe_fld (pv 0) rfl) pe_int) pa_nil))))
    (pss_cons (ps_setLc (tt := tB (tMeth C "likes" (sp_likes C) [] E0 (tVar 0) (tCons (tVar 4) (tCons (tVar 1) (tCons (tFld K (tVar 0) "last") tNil))))) (i := 3) (own := [("person", 4)]) rfl sc_M_stay_index.nd rfl rfl (sw_true rfl rfl rfl (by decide +kernel)) (pi_range2 (by rfl) T.b_range (pa_cons (pv 2) (pa_cons (pe_op op_add (pe_fld (pv 0) rfl) pe_int) pa_nil))) (blkOk_by (own := [("person", 4)]) (N := N_M_stay_index) (sc := defScope s_M_stay_index) (by decide +kernel)) (fun _ _ _ _ _ => (pg_name (i := 4) sc_M_stay_index.nd rfl (Or.inl rfl))) (fun _ _ _ _ _ => (pts_one (pt_val ((mal_likes T).pe T.cl hr (by decide) (pv 0) (pa_cons (pv 4) (pa_cons (pv 1) (pa_cons (pe_fld (pv 0) rfl) pa_nil))))))) (fun _ _ _ _ _ => (pv 4)))
    (pss_one (ps_ret (pe_ifExp (PW.pt (pw_or (pt_cmpR (op_eqD hu0) (pv 3) (pe_lst pa_nil) (nomark _)) (pw_or (pt_cmpR op_le (pe_ix ix_list (pv 3) pe_int (fun _ _ => rfl)) (pe_fld (pv 0) rfl) (nomark _)) (pw_or1 (pt_cmpR op_eq (pe_ix ix_list (pv 3) pe_int (fun _ _ => rfl)) (pv 1) (nomark _)))))) pe_non (pe_op op_sub (pe_ix ix_list (pv 3) pe_int (fun _ _ => rfl)) (pe_fld (pv 0) rfl))))))), ?_⟩
    have fl : ∀ {σ : L2.St} {B' : Hp} {f : Str} {v : V}, σ[0]? = some (some (.ref c)) → Ex B B' → NoAttr K C f → (∀ tb, (fsOf tb x q w kn).lookup f = some v) → EvV (tFld K (tVar 0) f) σ B' v := fun h e nf hl => by
      obtain ⟨dx, tb, hI, hT⟩ := hC.up e
      exact v_fld (v_var h) hI T.cl nf (hl tb)
    refine q_asg (v_min2 (f := fun i j => if j > i then j else i) (v_var rfl) (v_subN (k := q - 1) (j := 1) (fl rfl (Ex.refl _) T.nf_person fun _ => rfl) v_c (by omega))) ex fun v1 B1 H1 g1 e1 => ?_
    have e1' : v1 = vN (max y (q - 1)) := by
      rw [e1]
      show V.int _ = V.int _
      congr 1
      by_cases h : ((q - 1 : Nat) : Int) > (y : Int)
      · rw [if_pos h]; omega
      · rw [if_neg h]; omega
    subst e1'
    have hL := e_lcV (n := w + 1 - max y (q - 1)) (vs := [4]) (j := 4) (te := tVar 4) (tt := tB (tMeth C "likes" (sp_likes C) [] E0 (tVar 0) (tCons (tVar 4) (tCons (tVar 1) (tCons (tFld K (tVar 0) "last") tNil))))) (σ := [some (.ref c), some (vN y), some (vN (max y (q - 1))), none, none]) (Hc := B1)
      (fun i => Sw.likes (rkOf R) (max y (q - 1) + i) y w) (fun i => vN (max y (q - 1) + i)) (i_rng2 (tr := tCons (tVar 2) (tCons (tOp rAdd (tFld K (tVar 0) "last") (tC (.int 1))) tNil)) (lo := max y (q - 1)) (hi := w + 1) (av_cons (v_var rfl) (av_cons (v_addN (fl rfl g1.up T.nf_last fun _ => rfl) v_c) av_nil)) (by omega) (by omega)) (by omega) (fun _ => rfl)
      (fun i v B' hi e hv => t_B (by
        subst hv
        obtain ⟨dx, tb, hI, hT⟩ := hC.up (g1.up.trans e)
        refine e_meth (v_var rfl) hI rfl (av_cons (v_var rfl) (av_cons (v_var rfl) (av_cons (fl rfl (g1.up.trans e) T.nf_last fun _ => rfl) av_nil))) fun vs B2 e2 ev => ?_
        subst ev
        exact fun B3 H3 a b Q q E => ⟨B3, c, kn, n, x, _, w, max y (_ - 1) + i, y, w, R, rfl, hC.up (g1.up.trans (e.trans (e2.trans a))), N, by omega, by omega, by omega, b, fun B4 H4 g => q _ B4 H4 g rfl⟩))
      (fun i v B' hi e hv _ => v_var (by rw [hv]; rfl))
    refine q_asg hL g1.sub fun v2 B2 H2 g2 ⟨p, e2, hp⟩ => ?_
    subst e2
    have hS : (kept (w + 1 - max y (q - 1)) fun i => Sw.likes (rkOf R) (max y (q - 1) + i) y w).map (fun i => vN (max y (q - 1) + i)) = (Sw.staySome (rkOf R) q w y).map vN := by
      unfold Sw.staySome
      rw [List.map_map]; rfl
    rw [hS] at hp
    have hIx : Sw.stayIdx (rkOf R) q w y = match (Sw.staySome (rkOf R) q w y).head? with | none => none | some a => if a ≤ q ∨ a = y then none else some (a - q) := rfl
    generalize Sw.staySome (rkOf R) q w y = L at hp hIx
    rw [hIx] at qq
    cases L with
    | nil =>
      refine s_ret (P := fun u _ => u = .non) (e_if (t_or (b := true) (t_test (v_eqNil (l_var rfl hp))) (fun z => by cases z)) (fun _ => v_c) fun z => by simp at z) g2.sub fun v B3 H3 g3 e => ?_
      rw [e]
      exact qq B3 H3 ((g1.trans g2).trans g3)
    | cons a L =>
      have ixl : ∀ {B'}, Ex B2 B' → EvV (tOp (rIxL K) (tVar 3) (tC (.int 0))) [some (.ref c), some (vN y), some (vN (max y (q - 1))), some (.ref p), none] B' (vN a) := fun e => v_ixL (l_var rfl (e _ _ hp)) v_c (atI_nat (i := 0) rfl)
      refine s_ret (P := fun u _ => u = ixV (if a ≤ q ∨ a = y then none else some (a - q))) (e_if (t_or (t_test (v_eqNil (l_var rfl hp))) fun _ => t_or (t_test (v_I0 (ixl (Ex.refl _)) (fl rfl (g1.up.trans g2.up) T.nf_person fun _ => rfl))) fun _ => t_test (v_eq (ixl (Ex.refl _)) (v_var rfl) rfl)) (fun z => ?_) fun z => ?_) g2.sub fun v B3 H3 g3 e => ?_
      · have : a ≤ q ∨ a = y := by
          simp only [Bool.or_eq_true, decide_eq_true_eq] at z
          rcases z with z | z | z
          · cases z
          · exact .inl (by omega)
          · exact .inr (by injection z with z; omega)
        rw [if_pos this]
        exact v_c
      · have hne2 : ¬ (a ≤ q ∨ a = y) := fun e => by
          simp only [Bool.or_eq_false_iff, decide_eq_false_iff_not] at z
          rcases e with e | e
          · exact z.2.1 (by omega)
          · exact z.2.2 (by rw [e])
        rw [if_neg hne2]
        exact v_subN (k := a - q) (ixl (Ex.refl _)) (fl rfl (g1.up.trans g2.up) T.nf_person fun _ => rfl) (by omega)
      · rw [e]
        exact qq B3 H3 ((g1.trans g2).trans g3)
end
end Sk

/-! Choices: last_fits, before, beyond, is_wrong, pass_each_other, opposite, clash, implies. -/
namespace Sk
open PySem PySem.Spec PyProof.Rows L2
theorem word_left (b : Bool) : decide (V.str (word b) = V.str "left") = b := by cases b <;> decide +kernel
theorem word_stay (b : Bool) : decide (V.str (word b) = V.str "stay") = !b := by cases b <;> decide +kernel
theorem ixV_eq (o : Option Nat) (k : Nat) : decide (ixV o = V.int (k : Nat)) = decide (o = some k) := by
  cases o with
  | none => rfl
  | some j =>
    refine decide_eq_decide.mpr ⟨fun h => ?_, fun h => ?_⟩
    · have h : V.int (j : Nat) = V.int (k : Nat) := h
      injection h with h
      rw [Int.ofNat.inj h]
    · rw [Option.some.inj h]; rfl
theorem ixV_non (o : Option Nat) : decide (ixV o = V.non) = decide (o = none) := by
  cases o with
  | none => rfl
  | some j => rfl
theorem scal_ix (o : Option Nat) (i : Int) : scal (ixV o) (.int i) = true := by cases o <;> rfl
section
variable (C : Addr)
def sp_last_fits : Sp := fun vs H Q _ => ∃ (B : Hp) (c : Addr) (n x q w : Nat) (R : List (List Nat)), vs = [.ref c] ∧ IsCh C B c R x q w ∧ Nums n x q w R ∧ Ex B H ∧ ∀ B1 H1, Go B H B1 H1 → Q (.bl (decide (Sw.leftIdx (rkOf R) x q w = some (q - x)))) H1
def sp_before : Sp := fun vs H Q _ => ∃ (B : Hp) (c : Addr) (n x q w k : Nat) (R : List (List Nat)) (v : V) (d : Sw.Ch), vs = [.ref c, v] ∧ IsCh C B c R x q w ∧ Nums n x q w R ∧ IsC B v d ∧ x < d.1 ∧ d.1 ≤ w ∧ Sw.idx (rkOf R) x q w d = some k ∧ Ex B H ∧ ∀ B1 H1, Go B H B1 H1 → Q (.int (Sw.before (rkOf R) x q w d)) H1
def sp_beyond : Sp := fun vs H Q _ => ∃ (B : Hp) (c : Addr) (n x q w k : Nat) (R : List (List Nat)) (v : V) (d : Sw.Ch), vs = [.ref c, v] ∧ IsCh C B c R x q w ∧ Nums n x q w R ∧ IsC B v d ∧ x < d.1 ∧ d.1 ≤ w ∧ Sw.idx (rkOf R) x q w d = some k ∧ Ex B H ∧ ∀ B1 H1, Go B H B1 H1 → Q (.int (Sw.beyond (rkOf R) x q w d)) H1
def sp_is_wrong : Sp := fun vs H Q _ => ∃ (B : Hp) (c : Addr) (n x q w : Nat) (R : List (List Nat)) (v : V) (d : Sw.Ch), vs = [.ref c, v] ∧ IsCh C B c R x q w ∧ Nums n x q w R ∧ IsC B v d ∧ x < d.1 ∧ d.1 ≤ w ∧ Ex B H ∧ ∀ B1 H1, Go B H B1 H1 → Q (.bl (Sw.wrong (rkOf R) x q w d)) H1
def sp_pass : Sp := fun vs H Q _ => ∃ (B : Hp) (c : Addr) (n x q w k l : Nat) (R : List (List Nat)) (u v : V) (d e : Sw.Ch), vs = [.ref c, u, v] ∧ IsCh C B c R x q w ∧ Nums n x q w R ∧ IsC B u d ∧ IsC B v e ∧ x < d.1 ∧ d.1 ≤ w ∧ x < e.1 ∧ e.1 ≤ w ∧ Sw.idx (rkOf R) x q w d = some k ∧ Sw.idx (rkOf R) x q w e = some l ∧ Ex B H ∧ ∀ B1 H1, Go B H B1 H1 → Q (.bl (Sw.agree n (rkOf R) x q w d e)) H1
def sp_clash : Sp := fun vs H Q _ => ∃ (B : Hp) (c : Addr) (n x q w : Nat) (R : List (List Nat)) (u v : V) (d e : Sw.Ch), vs = [.ref c, u, v] ∧ IsCh C B c R x q w ∧ Nums n x q w R ∧ IsC B u d ∧ IsC B v e ∧ x < d.1 ∧ d.1 ≤ w ∧ x < e.1 ∧ e.1 ≤ w ∧ Ex B H ∧ ∀ B1 H1, Go B H B1 H1 → Q (.bl (Sw.clash n (rkOf R) x q w d e)) H1
def sp_implies : Sp := fun vs H Q _ => ∃ (B : Hp) (c : Addr) (n x q w : Nat) (R : List (List Nat)) (u v : V) (d e : Sw.Ch), vs = [.ref c, u, v] ∧ IsCh C B c R x q w ∧ Nums n x q w R ∧ IsC B u d ∧ IsC B v e ∧ x < d.1 ∧ d.1 ≤ w ∧ x < e.1 ∧ e.1 ≤ w ∧ Ex B H ∧ ∀ B1 H1, Go B H B1 H1 → Q (.bl (Sw.imp n (rkOf R) x q w d e)) H1
def sp_opposite : Sp := fun vs H Q _ => ∃ (B : Hp) (v : V) (d : Sw.Ch), vs = [v] ∧ IsC B v d ∧ Ex B H ∧ ∀ v1 B1 H1, Go B H B1 H1 → IsC B1 v1 (Sw.opp d) → Q v1 H1
end
section
variable {K : PySem.W.Frag} {C : Addr} {σ : L2.St} {Hc : Hp} {ta tb td te : TE} {c : Addr} {n x q w : Nat} {R : List (List Nat)} {v : V} {d : Sw.Ch}
/-- choice[0], choice[1] -/
theorem v_c0 (h : EvV ta σ Hc v) (hd : IsC Hc v d) : EvV (tOp (rIxT K) ta (tC (.int 0))) σ Hc (vN d.1) := by
  obtain ⟨a, rfl, ha⟩ := hd
  exact v_ixT (EvTup.ofV h ha) v_c (atI_nat (i := 0) rfl)
theorem v_c1 (h : EvV ta σ Hc v) (hd : IsC Hc v d) : EvV (tOp (rIxT K) ta (tC (.int 1))) σ Hc (.str (word d.2)) := by
  obtain ⟨a, rfl, ha⟩ := hd
  exact v_ixT (EvTup.ofV h ha) v_c (atI_nat (i := 1) rfl)
theorem v_isL (h : EvV ta σ Hc v) (hd : IsC Hc v d) : EvT (tTest (tOp rEq (tOp (rIxT K) ta (tC (.int 1))) (tC (.str "left")))) σ Hc d.2 := (t_test (v_eq (v_c1 h hd) v_c rfl)).is (word_left _)
theorem v_isS (h : EvV ta σ Hc v) (hd : IsC Hc v d) : EvT (tTest (tOp rEq (tOp (rIxT K) ta (tC (.int 1))) (tC (.str "stay")))) σ Hc (!d.2) := (t_test (v_eq (v_c1 h hd) v_c rfl)).is (word_stay _)
theorem IsCh.fld {i : Nat} {f : Str} (hC : ∃ kn, IsCh0 C Hc c kn R x q w) (cl : Cls K C) (h : σ[i]? = some (some (.ref c))) (nf : NoAttr K C f) (hl : ∀ tb kn, (fsOf tb x q w kn).lookup f = some v) : EvV (tFld K (tVar i) f) σ Hc v := by
  obtain ⟨kn, dx, tb, hI, hT⟩ := hC
  exact v_fld (v_var h) hI cl nf (hl tb kn)
/-- self.known[choice] -/
theorem v_known {i : Nat} (hC : IsCh C Hc c R x q w) (cl : Cls K C) (nf : NoAttr K C "known") (h : σ[i]? = some (some (.ref c))) (ht : EvP te σ Hc fun u B => IsC B u d) (h1 : x < d.1) (h2 : d.1 ≤ w) : EvV (tDGet (tFld K (tVar i) "known") te) σ Hc (ixV (Sw.idx (rkOf R) x q w d)) := by
  obtain ⟨kn, ⟨dx, tb, hI, hT⟩, kvs, hk, hv⟩ := hC
  exact e_dgetT (p := kn) (kvs := kvs) (k := keyC d.1 d.2) (e_fld (v_var h) hI cl nf rfl fun B e => ⟨rfl, .inl (e _ _ hk)⟩) (ht.wk fun u B e ⟨b, h1, h2⟩ => ⟨b, h1, h2⟩) (hv _ _ h1 h2) fun _ _ => rfl
end
section
variable {P : Program} {w : World} {K : PySem.W.Frag} {mg : Str → Option Value} {base : Heap} {C : Addr} (T : Top K mg C)
include T
theorem mal_last_fits : Mal P w K mg base C "last_fits" ["self"] 1 (sp_last_fits C) := by
  refine T.m_last_fits.mal sc_M_last_fits (fun vs H Q E h => ?_) (fun _ _ _ _ _ _ us hl => match us, hl with | [_], _ => rfl) (fun f cdv A outer s H vs Q E hr h => ?_)
  · obtain ⟨B, c, n, x, q, w, R, rfl, _⟩ := h
    rfl
  · obtain ⟨B, c, n, x, q, w, R, rfl, hC, N, ex, qq⟩ := h
    have hu := hu_of hr
    have hxq := N.xq
    have hqw := N.qw
    refine ⟨_, (pss_one (ps_ret (pe_cmpR op_eq (pe_dget hu (pe_fld (pv 0) rfl) (pe_tup (pa_cons (pe_fld (pv 0) rfl) (pa_cons (pe_gl (v := .str "left") T.g_LEFT (fun t => ⟨t, rfl⟩) rfl) pa_nil))) (fun _ _ => rfl)) (pe_op op_sub (pe_fld (pv 0) rfl) (pe_fld (pv 0) rfl)) (nomark _)))), ?_⟩
    have hC0 : ∃ kn, IsCh0 C B c kn R x q w := let ⟨kn, h, _⟩ := hC; ⟨kn, h⟩
    have fl : ∀ {f : Str} {v : V}, NoAttr K C f → (∀ tb kn, (fsOf tb x q w kn).lookup f = some v) → EvV (tFld K (tVar 0) f) [some (.ref c)] B v := fun nf hl => IsCh.fld hC0 T.cl rfl nf hl
    refine s_ret (EvV.is (v_eq (v_known (d := (w, true)) hC T.cl T.nf_known rfl ((e_tupV (av_cons (fl T.nf_last fun _ _ => rfl) (av_cons v_c av_nil)) (by simp)).wk fun u B e h => h) (by show x < w; omega) (Nat.le_refl _)) (v_subN (k := q - x) (fl T.nf_person fun _ _ => rfl) (fl T.nf_item fun _ _ => rfl) (by omega)) (scal_ix _ _)) rfl) ex fun v B1 H1 g e => ?_
    rw [e, ixV_eq]
    exact qq B1 H1 g
theorem mal_before : Mal P w K mg base C "before" ["self", "choice"] 1 (sp_before C) := by
  refine T.m_before.mal sc_M_before (fun vs H Q E h => ?_) (fun _ _ _ _ _ _ us hl => match us, hl with | [_, _], _ => rfl) (fun f cdv A outer s H vs Q E hr h => ?_)
  · obtain ⟨B, c, n, x, q, w, k, R, v, d, rfl, _⟩ := h
    rfl
  · obtain ⟨B, c, n, x, q, w, k, R, v, d, rfl, hC, N, hd, h1, h2, hk, ex, qq⟩ := h
    have hu := hu_of hr
    refine ⟨_, (pss_cons (ps_set (i := 2) sc_M_before.nd rfl (Or.inl rfl) (pe_dget hu (pe_fld (pv 0) rfl) (pv 1) (fun _ _ => rfl)))
    (pss_one (ps_ret (pe_ifExp (pt_cmpR op_eq (pe_ix ix_tup (pv 1) pe_int (fun _ _ => rfl)) (pe_gl (v := .str "left") T.g_LEFT (fun t => ⟨t, rfl⟩) rfl) (nomark _)) (pe_op op_sub (pv 2) pe_int) (pe_op op_sub (pe_op op_sub (pe_ix ix_tup (pv 1) pe_int (fun _ _ => rfl)) (pe_fld (pv 0) rfl)) (pv 2)))))), ?_⟩
    refine q_asg (v_known (d := d) hC T.cl T.nf_known rfl (e_var rfl fun B' e => hd.up e) h1 h2) ex fun v1 B1 H1 g1 e1 => ?_
    rw [hk] at e1
    subst e1
    have hC0 : ∃ kn, IsCh0 C B1 c kn R x q w := let ⟨kn, h, _⟩ := hC.up g1.up; ⟨kn, h⟩
    have hd1 := hd.up g1.up
    refine s_ret (P := fun u _ => u = .int (Sw.before (rkOf R) x q w d)) (e_if (v_isL (v_var rfl) hd1) (fun z => EvV.is (v_sub (i := (k : Nat)) (v_var rfl) v_c) ?_) fun z => EvV.is (v_sub (v_sub (v_c0 (v_var rfl) hd1) (IsCh.fld hC0 T.cl rfl T.nf_item fun _ _ => rfl)) (v_var (v := .int (k : Nat)) rfl)) ?_) g1.sub fun v B2 H2 g2 e => ?_
    · unfold Sw.before
      rw [hk, if_pos z]; rfl
    · unfold Sw.before
      rw [hk, if_neg (by rw [z]; decide)]; rfl
    · rw [e]
      exact qq B2 H2 (g1.trans g2)
theorem mal_beyond : Mal P w K mg base C "beyond" ["self", "choice"] 2 (sp_beyond C) := by
  refine T.m_beyond.mal sc_M_beyond (fun vs H Q E h => ?_) (fun _ _ _ _ _ _ us hl => match us, hl with | [_, _], _ => rfl) (fun f cdv A outer s H vs Q E hr h => ?_)
  · obtain ⟨B, c, n, x, q, w, k, R, v, d, rfl, _⟩ := h
    rfl
  · obtain ⟨B, c, n, x, q, w, k, R, v, d, rfl, hC, N, hd, h1, h2, hk, ex, qq⟩ := h
    refine ⟨_, (pss_one (ps_ret (pe_op op_add ((mal_before T).pe T.cl hr (by decide) (pv 0) (pa_cons (pv 1) pa_nil)) (pe_callTy call_int1 (by rfl) T.b_int (by decide +kernel) (pa_cons (pe_cmpR op_eq (pe_ix ix_tup (pv 1) pe_int (fun _ _ => rfl)) (pe_gl (v := .str "left") T.g_LEFT (fun t => ⟨t, rfl⟩) rfl) (nomark _)) pa_nil))))), ?_⟩
    obtain ⟨kn, ⟨dx, tb, hI, hT⟩, _⟩ := id hC
    refine s_ret (P := fun u _ => u = .int (Sw.beyond (rkOf R) x q w d)) (EvV.is (v_add (e_meth (v_var rfl) hI rfl (av_cons (v_var rfl) av_nil) fun vs B2 e2 ev => ?_) (v_int1 (k := d.2) (EvV.is (v_eq (v_c1 (v_var rfl) hd) v_c rfl) (by rw [word_left])))) rfl) ex fun v B1 H1 g e => ?_
    · subst ev
      exact fun B3 H3 a b Q q E => ⟨B3, c, n, x, _, w, k, R, v, d, rfl, hC.up (e2.trans a), N, hd.up (e2.trans a), h1, h2, hk, b, fun B4 H4 g => q _ B4 H4 g rfl⟩
    · rw [e]
      exact qq B1 H1 g
theorem mal_is_wrong : Mal P w K mg base C "is_wrong" ["self", "choice"] 3 (sp_is_wrong C) := by
  refine T.m_is_wrong.mal sc_M_is_wrong (fun vs H Q E h => ?_) (fun _ _ _ _ _ _ us hl => match us, hl with | [_, _], _ => rfl) (fun f cdv A outer s H vs Q E hr h => ?_)
  · obtain ⟨B, c, n, x, q, w, R, v, d, rfl, _⟩ := h
    rfl
  · obtain ⟨B, c, n, x, q, w, R, v, d, rfl, hC, N, hd, h1, h2, ex, qq⟩ := h
    have hu := hu_of hr
    have hxq := N.xq
    have hqw := N.qw
    refine ⟨_, (pss_cons (ps_if (PW.pt (pw_or (pt_cmpR op_isN (pe_dget hu (pe_fld (pv 0) rfl) (pv 1) (fun _ _ => rfl)) pe_non (nomark _)) (pw_or1 (PW.pt (pw_and (pt_cmpR op_eq (pe_ix ix_tup (pv 1) pe_int (fun _ _ => rfl)) (pe_op op_add (pe_fld (pv 0) rfl) pe_int) (nomark _)) (pw_and1 (pt_cmpR op_ne ((mal_before T).pe T.cl hr (by decide) (pv 0) (pa_cons (pv 1) pa_nil)) pe_int (nomark _)))))))) (pss_one (ps_ret pe_bl)) pss_nil)
    (pss_one (ps_ret (pe_and (pe_cmpR op_eq (pe_ix ix_tup (pv 1) pe_int (fun _ _ => rfl)) (pe_op op_sub (pe_fld (pv 0) rfl) pe_int) (nomark _)) (pe_one (pe_cmpR op_ne ((mal_beyond T).pe T.cl hr (by decide) (pv 0) (pa_cons (pv 1) pa_nil)) (pe_op op_sub (pe_op op_sub (pe_fld (pv 0) rfl) (pe_fld (pv 0) rfl)) pe_int) (nomark _))))))), ?_⟩
    have h0 : ∀ {B'}, Ex B B' → ∃ kn, IsCh0 C B' c kn R x q w := fun e => let ⟨kn, h, _⟩ := hC.up e; ⟨kn, h⟩
    have hb : ∀ {B' k}, Ex B B' → Sw.idx (rkOf R) x q w d = some k → EvV (tMeth C "before" (sp_before C) [] E0 (tVar 0) (tCons (tVar 1) tNil)) [some (.ref c), some v] B' (.int (Sw.before (rkOf R) x q w d)) := fun {B' k} e hk => by
      obtain ⟨kn, ⟨dx, tb, hI, hT⟩, _⟩ := hC.up e
      refine e_meth (v_var rfl) hI rfl (av_cons (v_var rfl) av_nil) fun vs B2 e2 ev => ?_
      subst ev
      exact fun B3 H3 a b Q q E => ⟨B3, c, n, x, _, w, k, R, v, d, rfl, hC.up (e.trans (e2.trans a)), N, hd.up (e.trans (e2.trans a)), h1, h2, hk, b, fun B4 H4 g => q _ B4 H4 g rfl⟩
    have hbb : ∀ {B' k}, Ex B B' → Sw.idx (rkOf R) x q w d = some k → EvV (tMeth C "beyond" (sp_beyond C) [] E0 (tVar 0) (tCons (tVar 1) tNil)) [some (.ref c), some v] B' (.int (Sw.beyond (rkOf R) x q w d)) := fun {B' k} e hk => by
      obtain ⟨kn, ⟨dx, tb, hI, hT⟩, _⟩ := hC.up e
      refine e_meth (v_var rfl) hI rfl (av_cons (v_var rfl) av_nil) fun vs B2 e2 ev => ?_
      subst ev
      exact fun B3 H3 a b Q q E => ⟨B3, c, n, x, _, w, k, R, v, d, rfl, hC.up (e.trans (e2.trans a)), N, hd.up (e.trans (e2.trans a)), h1, h2, hk, b, fun B4 H4 g => q _ B4 H4 g rfl⟩
    have hW : Sw.wrong (rkOf R) x q w d = if Sw.idx (rkOf R) x q w d = none ∨ d.1 = x + 1 ∧ Sw.before (rkOf R) x q w d ≠ 0 then true else decide ((d.1 : Int) = w - 1 ∧ Sw.beyond (rkOf R) x q w d ≠ (q : Int) - x - 1) := rfl
    have t1 : EvT (tTest (tOp (fun x y H Q => y = .non ∧ Q (.bl (decide (x = .non))) H) (tDGet (tFld K (tVar 0) "known") (tVar 1)) (tC .non))) [some (.ref c), some v] B (decide (Sw.idx (rkOf R) x q w d = none)) := EvT.is (t_test (v_isN (v_known (d := d) hC T.cl T.nf_known rfl (e_var rfl fun B' e => hd.up e) h1 h2))) (ixV_non _)
    have t2 : EvT (tTest (tOp rEq (tOp (rIxT K) (tVar 1) (tC (.int 0))) (tOp rAdd (tFld K (tVar 0) "item") (tC (.int 1))))) [some (.ref c), some v] B (decide (d.1 = x + 1)) := EvT.is (t_test (v_eq (v_c0 (v_var rfl) hd) (v_addN (j := 1) (IsCh.fld (h0 (Ex.refl _)) T.cl rfl T.nf_item fun _ _ => rfl) v_c) rfl)) (decide_eq_decide.mpr ⟨fun z => by injection z with z; omega, fun z => by rw [z]⟩)
    cases hk : Sw.idx (rkOf R) x q w d with
    | none =>
      rw [hk] at t1
      refine q_when (t_or (b := true) t1 (fun z => by cases z)) ex (fun _ B1 H1 g1 => ?_) (fun z => by simp at z)
      refine s_ret (P := fun u _ => u = .bl true) v_c g1.sub fun v B2 H2 g2 e => ?_
      rw [e]
      have := qq B2 H2 (g1.trans g2)
      rw [hW, if_pos (.inl hk)] at this
      exact this
    | some k =>
      rw [hk] at t1
      have t3 := t_test (v_ne (hb (Ex.refl _) hk) (v_c (v := .int 0)) rfl)
      refine q_when (t_or t1 fun _ => t_and t2 fun _ => t3) ex (fun z B1 H1 g1 => ?_) (fun z B1 H1 g1 => ?_)
      · refine s_ret (P := fun u _ => u = .bl true) v_c g1.sub fun v B2 H2 g2 e => ?_
        rw [e]
        have hp : d.1 = x + 1 ∧ Sw.before (rkOf R) x q w d ≠ 0 := by
          simp only [Bool.or_eq_true, Bool.and_eq_true, decide_eq_true_eq] at z
          rcases z with z | ⟨z1, z2⟩
          · cases z
          · refine ⟨z1, fun e0 => ?_⟩
            rw [e0] at z2
            exact absurd z2 (by decide)
        have := qq B2 H2 (g1.trans g2)
        rw [hW, if_pos (.inr hp)] at this
        exact this
      · have hne : ¬ (Sw.idx (rkOf R) x q w d = none ∨ d.1 = x + 1 ∧ Sw.before (rkOf R) x q w d ≠ 0) := by
          rw [hk]
          rintro (z' | ⟨z1, z2⟩)
          · cases z'
          · simp only [Bool.or_eq_false_iff, Bool.and_eq_false_iff, decide_eq_false_iff_not] at z
            rcases z.2 with z | z
            · exact z z1
            · simp at z
              exact z2 z
        refine s_ret (P := fun u _ => u = .bl (Sw.wrong (rkOf R) x q w d)) (EvV.is (v_and (EvV.is (v_eq (v_c0 (v_var rfl) (hd.up g1.up)) (v_sub (IsCh.fld (h0 g1.up) T.cl rfl T.nf_last fun _ _ => rfl) v_c) rfl) rfl) fun _ => v_ne (hbb g1.up hk) (v_sub (v_sub (IsCh.fld (h0 g1.up) T.cl rfl T.nf_person fun _ _ => rfl) (IsCh.fld (h0 g1.up) T.cl rfl T.nf_item fun _ _ => rfl)) v_c) rfl) ?_) g1.sub fun v B2 H2 g2 e => ?_
        · rw [hW, if_neg hne]
          congr 1
          rw [Bool.eq_iff_iff]
          simp
        · rw [e]
          exact qq B2 H2 (g1.trans g2)
theorem mal_pass_each_other : Mal P w K mg base C "pass_each_other" ["self", "stay", "left"] 2 (sp_pass C) := by
  refine T.m_pass_each_other.mal sc_M_pass_each_other (fun vs H Q E h => ?_) (fun _ _ _ _ _ _ us hl => match us, hl with | [_, _, _], _ => rfl) (fun f cdv A outer s H vs Q E hr h => ?_)
  · obtain ⟨B, c, n, x, q, w, k, l, R, u, v, d, e, rfl, _⟩ := h
    rfl
  · obtain ⟨B, c, n, x, q, w, k, l, R, u, v, d, e, rfl, hC, N, hd, he, d1, d2, e1, e2, hk, hl, ex, qq⟩ := h
    have hu := hu_of hr
    have hG := N.G
    have hxq := N.xq
    have hqw := N.qw
    have hwn := N.wn
    have hA : Sw.agree n (rkOf R) x q w d e = if d.2 = true ∨ e.2 = false then true else if n ≤ (x + k + l) - 1 + 1 then false else Sw.likes (rkOf R) ((x + k + l) - 1) e.1 d.1 && Sw.likes (rkOf R) ((x + k + l) - 1 + 1) d.1 e.1 := by
      unfold Sw.agree
      rw [hk, hl]; rfl
    refine ⟨_, (pss_cons (ps_if (PW.pt (pw_or (pt_cmpR op_eq (pe_ix ix_tup (pv 1) pe_int (fun _ _ => rfl)) (pe_gl (v := .str "left") T.g_LEFT (fun t => ⟨t, rfl⟩) rfl) (nomark _)) (pw_or1 (pt_cmpR op_eq (pe_ix ix_tup (pv 2) pe_int (fun _ _ => rfl)) (pe_gl (v := .str "stay") T.g_STAY (fun t => ⟨t, rfl⟩) rfl) (nomark _))))) (pss_one (ps_ret pe_bl)) pss_nil)
    (pss_cons (ps_set (i := 3) sc_M_pass_each_other.nd rfl (Or.inl rfl) (pe_op op_sub (pe_op op_add (pe_op op_add (pe_fld (pv 0) rfl) (pe_dget hu (pe_fld (pv 0) rfl) (pv 1) (fun _ _ => rfl))) (pe_dget hu (pe_fld (pv 0) rfl) (pv 2) (fun _ _ => rfl))) pe_int))
    (pss_cons (ps_if (pt_cmpR op_ge (pe_op op_add (pv 3) pe_int) (pe_callB call_len_seq (by rfl) T.b_len PySem.boot_len (pa_cons (pe_fld (pv 0) rfl) pa_nil)) (nomark _)) (pss_one (ps_ret pe_bl)) pss_nil)
    (pss_one (ps_ret (pe_and ((mal_likes T).pe T.cl hr (by decide) (pv 0) (pa_cons (pv 3) (pa_cons (pe_ix ix_tup (pv 2) pe_int (fun _ _ => rfl)) (pa_cons (pe_ix ix_tup (pv 1) pe_int (fun _ _ => rfl)) pa_nil)))) (pe_one ((mal_likes T).pe T.cl hr (by decide) (pv 0) (pa_cons (pe_op op_add (pv 3) pe_int) (pa_cons (pe_ix ix_tup (pv 1) pe_int (fun _ _ => rfl)) (pa_cons (pe_ix ix_tup (pv 2) pe_int (fun _ _ => rfl)) pa_nil))))))))))), ?_⟩
    refine q_when (t_or (v_isL (v_var rfl) hd) fun _ => v_isS (v_var rfl) he) ex (fun z B1 H1 g1 => ?_) (fun z B1 H1 g1 => ?_)
    · refine s_ret (P := fun u _ => u = .bl true) v_c g1.sub fun v B2 H2 g2 ev => ?_
      rw [ev]
      have := qq B2 H2 (g1.trans g2)
      rw [hA, if_pos (by simpa using z)] at this
      exact this
    · have hz : ¬ (d.2 = true ∨ e.2 = false) := by simpa using z
      rw [hA, if_neg hz] at qq
      have hl1 : 1 ≤ l := by
        have : e.2 = true := by
          cases h : e.2 with
          | true => rfl
          | false => exact absurd (.inr h) hz
        unfold Sw.idx at hl
        rw [if_pos this] at hl
        obtain ⟨a, _, _, _, _, e0⟩ := Sw.leftIdx_iff.mp hl
        omega
      have hC1 := hC.up g1.up
      have h0 : ∃ kn, IsCh0 C B1 c kn R x q w := let ⟨kn, h, _⟩ := hC1; ⟨kn, h⟩
      have vk := v_known (K := K) (σ := [some (.ref c), some u, some v, none]) (i := 0) (te := tVar 1) (d := d) hC1 T.cl T.nf_known rfl (e_var rfl fun B' e => hd.up (g1.up.trans e)) d1 d2
      have vl := v_known (K := K) (σ := [some (.ref c), some u, some v, none]) (i := 0) (te := tVar 2) (d := e) hC1 T.cl T.nf_known rfl (e_var rfl fun B' e => he.up (g1.up.trans e)) e1 e2
      rw [hk] at vk
      rw [hl] at vl
      refine q_asg (v_subN (k := x + k + l - 1) (j := 1) (v_addN (i := x + k) (j := l) (v_addN (i := x) (j := k) (IsCh.fld h0 T.cl rfl T.nf_item fun _ _ => rfl) vk) vl) v_c (by omega)) g1.sub fun v2 B2 H2 g2 ev => ?_
      subst ev
      have hC2 := hC1.up g2.up
      obtain ⟨kn, ⟨dx, tb, hI, a, vs, rfl, ha, hs⟩, _⟩ := id hC2
      have hlen : vs.length = n := by rw [hs.len, hG.len]
      refine q_when (t_test (v_I0 (v_addN (v_var rfl) (v_c (v := .int (1 : Nat)))) (v_lenL (EvLst.ofV (v_fld (v_var rfl) hI T.cl T.nf_tables rfl) ha) hlen))) g2.sub (fun z B3 H3 g3 => ?_) (fun z B3 H3 g3 => ?_)
      · refine s_ret (P := fun u _ => u = .bl false) v_c g3.sub fun v B4 H4 g4 ev => ?_
        rw [ev]
        have := qq B4 H4 ((g1.trans g2).trans (g3.trans g4))
        rw [if_pos (by have := of_decide_eq_true z; omega)] at this
        exact this
      · have hn : ¬ n ≤ x + k + l - 1 + 1 := fun h => by
          have := of_decide_eq_false z
          omega
        rw [if_neg hn] at qq
        have g13 := (g1.trans g2).trans g3
        have lk : ∀ {B' : Hp} {tp ty tz : TE} {p y z : Nat}, Ex B3 B' → p < n → y < n → z < n → EvV tp [some (.ref c), some u, some v, some (vN (x + k + l - 1))] B' (vN p) → EvV ty [some (.ref c), some u, some v, some (vN (x + k + l - 1))] B' (vN y) → EvV tz [some (.ref c), some u, some v, some (vN (x + k + l - 1))] B' (vN z) →
            EvV (tMeth C "likes" (sp_likes C) [] E0 (tVar 0) (tCons tp (tCons ty (tCons tz tNil)))) [some (.ref c), some u, some v, some (vN (x + k + l - 1))] B' (.bl (Sw.likes (rkOf R) p y z)) := fun {B' tp ty tz p y z} eB h1 h2 h3 a1 a2 a3 => by
          obtain ⟨kn, h0', _⟩ := hC.up (g13.up.trans eB)
          obtain ⟨dx, tb, hI, hT⟩ := id h0'
          refine e_meth (v_var rfl) hI rfl (av_cons a1 (av_cons a2 (av_cons a3 av_nil))) fun vs B5 e5 ev => ?_
          subst ev
          exact fun B6 H6 a b Q q E => ⟨B6, c, kn, n, x, _, w, p, y, z, R, rfl, h0'.up (e5.trans a), N, h1, h2, h3, b, fun B7 H7 g => q _ B7 H7 g rfl⟩
        have hd3 := hd.up g13.up
        have he3 := he.up g13.up
        refine s_ret (v_and (lk (Ex.refl _) (by omega) (by omega) (by omega) (v_var rfl) (v_c0 (v_var rfl) he3) (v_c0 (v_var rfl) hd3)) fun _ => lk (Ex.refl _) (by omega) (by omega) (by omega) (v_addN (v_var rfl) (v_c (v := .int (1 : Nat)))) (v_c0 (v_var rfl) hd3) (v_c0 (v_var rfl) he3)) g3.sub fun v B4 H4 g4 ev => ?_
        rw [ev]
        exact qq B4 H4 (g13.trans g4)
theorem cal_opposite : Cal P w K mg base "opposite" ["choice"] 1 sp_opposite := by
  refine T.d_opposite.cal sc_opposite (fun vs H Q E h => ?_) (fun _ _ _ _ _ _ us hl => match us, hl with | [_], _ => rfl) (fun f cdv A outer s H vs Q E hr h => ?_)
  · obtain ⟨B, v, d, rfl, _⟩ := h
    rfl
  · obtain ⟨B, v, d, rfl, hd, ex, qq⟩ := h
    refine ⟨_, (pss_one (ps_ret (pe_tup (pa_cons (pe_ix ix_tup (pv 0) pe_int (fun _ _ => rfl)) (pa_cons (pe_ifExp (pt_cmpR op_eq (pe_ix ix_tup (pv 0) pe_int (fun _ _ => rfl)) (pe_gl (v := .str "left") T.g_LEFT (fun t => ⟨t, rfl⟩) rfl) (nomark _)) (pe_gl (v := .str "stay") T.g_STAY (fun t => ⟨t, rfl⟩) rfl) (pe_gl (v := .str "left") T.g_LEFT (fun t => ⟨t, rfl⟩) rfl)) pa_nil))))), ?_⟩
    refine s_ret (P := fun u B => IsC B u (Sw.opp d)) ((e_tupV (xs := [vN d.1, .str (word (!d.2))]) (av_cons (v_c0 (v_var rfl) hd) (av_cons (e_if (v_isL (v_var rfl) hd) (fun z => EvV.is v_c ?_) fun z => EvV.is v_c ?_) av_nil)) (by simp)).wk fun u B e ⟨p, h1, h2⟩ => ⟨p, h1, h2⟩) ex fun v B1 H1 g e => qq v B1 H1 g e
    · rw [z]; rfl
    · rw [z]; rfl
end
end Sk

/-! Choices: clash, implies, making one; is_choice. -/
namespace Sk
open PySem PySem.Spec PyProof.Rows L2
section
variable {K : PySem.W.Frag} {σ : L2.St} {Hc H : Hp} {ta tb td te : TE} {n x q w : Nat} {R : List (List Nat)} {u v : V} {d e : Sw.Ch} {D : Ends} {tz : TS} {g : TG} {P : V → Hp → Prop}
theorem s_asgG (h : EvP te σ Hc P) (e : Ex Hc H) (k : ∀ v B H1, Go Hc H B H1 → P v B → g v σ H1 D.nx) : tAsg te g D σ H := h Hc H (Ex.refl _) e _ k
theorem q_asgG (h : EvP te σ Hc P) (e : Ex Hc H) (k : ∀ v B H1, Go Hc H B H1 → P v B → g v σ H1 (tz D)) : tSeq (tAsg te g) tz D σ H := h Hc H (Ex.refl _) e _ k
theorem strOk_word (b : Bool) : PyData.canLay0 (.str (word b)) = true := by cases b <;> decide +kernel
theorem eqv_str (a b : Str) : PyData.eqv (.str a) (.str b) = (a == b) := by rw [PyData.eqv]
theorem word_inj (a b : Bool) : (word a == word b) = decide (a = b) := by cases a <;> cases b <;> decide +kernel
abbrev dC (d : Sw.Ch) : PyData := .tuple [.int (d.1 : Nat), .str (word d.2)]
theorem dC_shaped (d : Sw.Ch) : SeqAt.shaped (dC d) = true := by
  unfold SeqAt.shaped
  have h1 : PyData.canLay0 (dC d) = true := by
    rw [PyData.canLay0, PyData.canLayAll0, PyData.canLayAll0, PyData.canLayAll0, strOk_word, PyData.canLay0]; rfl
  have h2 : PyData.depth (dC d) ≤ 64 := by
    rw [PyData.depth, PyData.depthAll, PyData.depthAll, PyData.depthAll, PyData.depth, PyData.depth]; decide
  rw [h1, decide_eq_true h2]; rfl
theorem dC_eqv (d e : Sw.Ch) : PyData.eqv (dC d) (dC e) = decide (d = e) := by
  obtain ⟨a, b⟩ := d
  obtain ⟨a', b'⟩ := e
  rw [PyData.eqv, PyData.eqvAll, PyData.eqvAll, PyData.eqvAll, eqv_str, word_inj, PyData.eqv]
  rw [Bool.eq_iff_iff]
  simp
  omega
theorem IsC.dp {H : Hp} (h : IsC H v d) : Dp K H v (dC d) := by
  obtain ⟨a, rfl, ha⟩ := h
  exact .tup (st_of ha) (.cons (.int _) (.cons (.str _) .nil))
/-- two choices compared -/
theorem v_neC (ha : EvV ta σ Hc u) (hb : EvV tb σ Hc v) (hd : IsC Hc u d) (he : IsC Hc v e) : EvV (tOp (rNeD K) ta tb) σ Hc (.bl (!decide (d = e))) := by
  rw [← dC_eqv]
  exact v_neD (ha.ofV fun B e => ⟨(hd.up e).dp, fun B' e' => (hd.up (e.trans e')).dp⟩) (hb.ofV fun B e' B' e'' => (he.up (e'.trans e'')).dp) (dC_shaped d) (dC_shaped e)
/-- the two sorted -/
theorem e_sort2 {tr : TA} (h : EvAV tr σ Hc [u, v]) (hd : IsC Hc u d) (he : IsC Hc v e) (hne : d.1 ≠ e.1) : EvP (tCB (rSortIS K) (tCons (tLst tr) tNil)) σ Hc fun y B => ∃ p, y = .ref p ∧ B p = some (.lst (if d.1 < e.1 then [u, v] else [v, u])) := fun B H a b Q q => by
  show tLst tr σ H fun y H1 => rSortIS K [y] H1 Q
  refine (e_lstV (xs := [u, v]) h (by simp)) B H a b _ fun y B1 H1 g1 ⟨p, ep, hp⟩ => ?_
  obtain ⟨t1, rfl, h1⟩ := hd.up (a.trans (g1.up.trans g1.sub))
  obtain ⟨t2, rfl, h2⟩ := he.up (a.trans (g1.up.trans g1.sub))
  refine ⟨p, t1, t2, (d.1 : Nat), (e.1 : Nat), word d.2, word e.2, by rw [ep], sl_of (g1.sub _ _ hp), h1, h2, by omega, fun p2 hp2 => ?_⟩
  refine q _ _ _ (g1.laid hp2) ⟨p2, rfl, ?_⟩
  rw [upd_same]
  by_cases hl : d.1 < e.1
  · rw [if_pos hl, if_pos (by omega)]
  · rw [if_neg hl, if_neg (by omega)]
end
section
variable {P : Program} {w : World} {K : PySem.W.Frag} {mg : Str → Option Value} {base : Heap} {C : Addr} (T : Top K mg C)
include T
theorem mal_clash : Mal P w K mg base C "clash" ["self", "one", "other"] 4 (sp_clash C) := by
  refine T.m_clash.mal sc_M_clash (fun vs H Q E h => ?_) (fun _ _ _ _ _ _ us hl => match us, hl with | [_, _, _], _ => rfl) (fun f cdv A outer s H vs Q E hr h => ?_)
  · obtain ⟨B, c, n, x, q, w, R, u, v, d, e, rfl, _⟩ := h
    rfl
  · obtain ⟨B, c, n, x, q, w, R, u, v, d, e, rfl, hC, N, hd, he, d1, d2, e1, e2, ex, qq⟩ := h
    have hu := hu_of hr
    have hu0 := hr.units
    have hCl : Sw.clash n (rkOf R) x q w d e = if Sw.wrong (rkOf R) x q w d = true ∨ Sw.wrong (rkOf R) x q w e = true then true else if d.1 = e.1 then decide (d ≠ e) else
      if (if d.1 < e.1 then e else d).1 = (if d.1 < e.1 then d else e).1 + 1 ∧ Sw.beyond (rkOf R) x q w (if d.1 < e.1 then d else e) ≠ Sw.before (rkOf R) x q w (if d.1 < e.1 then e else d) then true else !Sw.agree n (rkOf R) x q w (if d.1 < e.1 then d else e) (if d.1 < e.1 then e else d) := rfl
    refine ⟨_, (pss_cons (ps_if (PW.pt (pw_or (pt_val ((mal_is_wrong T).pe T.cl hr (by decide) (pv 0) (pa_cons (pv 1) pa_nil))) (pw_or1 (pt_val ((mal_is_wrong T).pe T.cl hr (by decide) (pv 0) (pa_cons (pv 2) pa_nil)))))) (pss_one (ps_ret pe_bl)) pss_nil)
    (pss_cons (ps_if (pt_cmpR op_eq (pe_ix ix_tup (pv 1) pe_int (fun _ _ => rfl)) (pe_ix ix_tup (pv 2) pe_int (fun _ _ => rfl)) (nomark _)) (pss_one (ps_ret (pe_cmpR (op_neD hu0) (pv 1) (pv 2) (nomark _)))) pss_nil)
    (pss_cons (ps_asg (pe_callB cr_sortIS (by rfl) T.b_sorted (by decide +kernel) (pa_cons (pe_lst (pa_cons (pv 1) (pa_cons (pv 2) pa_nil))) pa_nil)) (pg_unl rfl (pgs_cons (pg_name (i := 3) sc_M_clash.nd rfl (Or.inl rfl)) (pgs_cons (pg_name (i := 4) sc_M_clash.nd rfl (Or.inl rfl)) pgs_nil))))
    (pss_cons (ps_if (PW.pt (pw_and (pt_cmpR op_eq (pe_ix ix_tup (pv 4) pe_int (fun _ _ => rfl)) (pe_op op_add (pe_ix ix_tup (pv 3) pe_int (fun _ _ => rfl)) pe_int) (nomark _)) (pw_and1 (pt_cmpR op_ne ((mal_beyond T).pe T.cl hr (by decide) (pv 0) (pa_cons (pv 3) pa_nil)) ((mal_before T).pe T.cl hr (by decide) (pv 0) (pa_cons (pv 4) pa_nil)) (nomark _))))) (pss_one (ps_ret pe_bl)) pss_nil)
    (pss_one (ps_ret (pe_not ((mal_pass_each_other T).pe T.cl hr (by decide) (pv 0) (pa_cons (pv 3) (pa_cons (pv 4) pa_nil)))))))))), ?_⟩
    have wr : ∀ {B' : Hp} {i : Nat} {v : V} {d : Sw.Ch} {s3 s4 : Option V}, Ex B B' → i = 1 ∨ i = 2 → [some (V.ref c), some u, some v, s3, s4][i]? = some (some v) → IsC B v d → x < d.1 → d.1 ≤ w → True := fun _ _ _ _ _ _ => trivial
    obtain ⟨kn, ⟨dx, tb, hI, hT⟩, _⟩ := id hC
    have hw1 : EvT (tB (tMeth C "is_wrong" (sp_is_wrong C) [] E0 (tVar 0) (tCons (tVar 1) tNil))) [some (.ref c), some u, some v, none, none] B (Sw.wrong (rkOf R) x q w d) := t_B (e_meth (v_var rfl) hI rfl (av_cons (v_var rfl) av_nil) fun vs B2 e2' ev => by
      subst ev
      exact fun B3 H3 a b Q q E => ⟨B3, c, n, x, _, w, R, u, d, rfl, hC.up (e2'.trans a), N, hd.up (e2'.trans a), d1, d2, b, fun B4 H4 g => q _ B4 H4 g rfl⟩)
    have hw2 : EvT (tB (tMeth C "is_wrong" (sp_is_wrong C) [] E0 (tVar 0) (tCons (tVar 2) tNil))) [some (.ref c), some u, some v, none, none] B (Sw.wrong (rkOf R) x q w e) := t_B (e_meth (v_var rfl) hI rfl (av_cons (v_var rfl) av_nil) fun vs B2 e2' ev => by
      subst ev
      exact fun B3 H3 a b Q q E => ⟨B3, c, n, x, _, w, R, v, e, rfl, hC.up (e2'.trans a), N, he.up (e2'.trans a), e1, e2, b, fun B4 H4 g => q _ B4 H4 g rfl⟩)
    refine q_when (t_or hw1 fun _ => hw2) ex (fun z B1 H1 g1 => ?_) (fun z B1 H1 g1 => ?_)
    · refine s_ret (P := fun u _ => u = .bl true) v_c g1.sub fun v B2 H2 g2 ev => ?_
      rw [ev]
      have := qq B2 H2 (g1.trans g2)
      rw [hCl, if_pos (by simpa using z)] at this
      exact this
    have hz : ¬ (Sw.wrong (rkOf R) x q w d = true ∨ Sw.wrong (rkOf R) x q w e = true) := by simpa using z
    rw [hCl, if_neg hz] at qq
    have hix : ∀ d, ¬ Sw.wrong (rkOf R) x q w d = true → ∃ k, Sw.idx (rkOf R) x q w d = some k := fun d h => by
      cases hk : Sw.idx (rkOf R) x q w d with
      | some k => exact ⟨k, rfl⟩
      | none =>
        exfalso
        apply h
        unfold Sw.wrong
        rw [if_pos (.inl hk)]
    obtain ⟨k, hk⟩ := hix d fun h => hz (.inl h)
    obtain ⟨l, hl⟩ := hix e fun h => hz (.inr h)
    have hd1 := hd.up g1.up
    have he1 := he.up g1.up
    refine q_when (EvT.is (t_test (v_eq (v_c0 (v_var rfl) hd1) (v_c0 (v_var rfl) he1) rfl)) (b := decide (d.1 = e.1)) (decide_eq_decide.mpr ⟨fun z => by injection z with z; omega, fun z => by rw [z]⟩)) g1.sub (fun z B2 H2 g2 => ?_) (fun z B2 H2 g2 => ?_)
    · refine s_ret (v_neC (v_var rfl) (v_var rfl) (hd1.up g2.up) (he1.up g2.up)) g2.sub fun v B3 H3 g3 ev => ?_
      rw [ev]
      have := qq B3 H3 ((g1.trans g2).trans g3)
      rw [if_pos (of_decide_eq_true z)] at this
      rw [← decide_not]
      exact this
    have hne := of_decide_eq_false z
    rw [if_neg hne] at qq
    have g12 := g1.trans g2
    refine q_asgG (e_sort2 (av_cons (v_var rfl) (av_cons (v_var rfl) av_nil)) (hd.up g12.up) (he.up g12.up) hne) g2.sub fun y B3 H3 g3 ⟨p, ep, hp⟩ => ?_
    have g13 := g12.trans g3
    -- the lower and the higher
    obtain ⟨vl, vh, cl, ch, el, eh, evs, hcl, hch, l1, l2, h1, h2, ⟨kl, hkl⟩, ⟨kh, hkh⟩⟩ : ∃ (vl vh : V) (cl ch : Sw.Ch), (if d.1 < e.1 then d else e) = cl ∧ (if d.1 < e.1 then e else d) = ch ∧ (if d.1 < e.1 then [u, v] else [v, u]) = [vl, vh] ∧ IsC B vl cl ∧ IsC B vh ch ∧ x < cl.1 ∧ cl.1 ≤ w ∧ x < ch.1 ∧ ch.1 ≤ w ∧ (∃ k, Sw.idx (rkOf R) x q w cl = some k) ∧ (∃ k, Sw.idx (rkOf R) x q w ch = some k) := by
      by_cases hlt : d.1 < e.1
      · exact ⟨u, v, d, e, if_pos hlt, if_pos hlt, if_pos hlt, hd, he, d1, d2, e1, e2, ⟨k, hk⟩, ⟨l, hl⟩⟩
      · exact ⟨v, u, e, d, if_neg hlt, if_neg hlt, if_neg hlt, he, hd, e1, e2, d1, d2, ⟨l, hl⟩, ⟨k, hk⟩⟩
    rw [el, eh] at qq
    rw [evs] at hp
    refine ⟨p, [vl, vh], ep, sl_of (g3.sub _ _ hp), rfl, vl, [vh], rfl, vh, [], rfl, rfl, ?_⟩
    have hC3 := hC.up g13.up
    have mb : ∀ {B' : Hp} {i : Nat} {v' : V} {d' : Sw.Ch} {k' : Nat}, Ex B B' → [some (V.ref c), some u, some v, some vl, some vh][i]? = some (some v') → IsC B v' d' → x < d'.1 → d'.1 ≤ w → Sw.idx (rkOf R) x q w d' = some k' → EvV (tMeth C "before" (sp_before C) [] E0 (tVar 0) (tCons (tVar i) tNil)) [some (.ref c), some u, some v, some vl, some vh] B' (.int (Sw.before (rkOf R) x q w d')) := fun {B' i v' d' k'} eB hs hd h1 h2 hk => by
      obtain ⟨kn, ⟨dx, tb, hI, hT⟩, _⟩ := hC.up eB
      refine e_meth (v_var rfl) hI rfl (av_cons (v_var hs) av_nil) fun vs B2 e2 ev => ?_
      subst ev
      exact fun B3 H3 a b Q q E => ⟨B3, c, n, x, _, w, k', R, v', d', rfl, hC.up (eB.trans (e2.trans a)), N, hd.up (eB.trans (e2.trans a)), h1, h2, hk, b, fun B4 H4 g => q _ B4 H4 g rfl⟩
    have mbb : ∀ {B' : Hp} {i : Nat} {v' : V} {d' : Sw.Ch} {k' : Nat}, Ex B B' → [some (V.ref c), some u, some v, some vl, some vh][i]? = some (some v') → IsC B v' d' → x < d'.1 → d'.1 ≤ w → Sw.idx (rkOf R) x q w d' = some k' → EvV (tMeth C "beyond" (sp_beyond C) [] E0 (tVar 0) (tCons (tVar i) tNil)) [some (.ref c), some u, some v, some vl, some vh] B' (.int (Sw.beyond (rkOf R) x q w d')) := fun {B' i v' d' k'} eB hs hd h1 h2 hk => by
      obtain ⟨kn, ⟨dx, tb, hI, hT⟩, _⟩ := hC.up eB
      refine e_meth (v_var rfl) hI rfl (av_cons (v_var hs) av_nil) fun vs B2 e2 ev => ?_
      subst ev
      exact fun B3 H3 a b Q q E => ⟨B3, c, n, x, _, w, k', R, v', d', rfl, hC.up (eB.trans (e2.trans a)), N, hd.up (eB.trans (e2.trans a)), h1, h2, hk, b, fun B4 H4 g => q _ B4 H4 g rfl⟩
    refine q_when (t_and (EvT.is (t_test (v_eq (v_c0 (v_var rfl) (hch.up g13.up)) (v_addN (v_c0 (v_var rfl) (hcl.up g13.up)) (v_c (v := .int (1 : Nat)))) rfl)) (b := decide (ch.1 = cl.1 + 1)) (decide_eq_decide.mpr ⟨fun z => by injection z with z; omega, fun z => by rw [z]⟩)) fun _ => t_test (v_ne (mbb g13.up rfl hcl l1 l2 hkl) (mb g13.up rfl hch h1 h2 hkh) rfl)) g3.sub (fun z B4 H4 g4 => ?_) (fun z B4 H4 g4 => ?_)
    · refine s_ret (P := fun u _ => u = .bl true) v_c g4.sub fun v B5 H5 g5 ev => ?_
      rw [ev]
      have := qq B5 H5 ((g13.trans g4).trans g5)
      rw [if_pos (by simpa using z)] at this
      exact this
    · have hnn : ¬ (ch.1 = cl.1 + 1 ∧ Sw.beyond (rkOf R) x q w cl ≠ Sw.before (rkOf R) x q w ch) := by simpa using z
      rw [if_neg hnn] at qq
      have g14 := g13.trans g4
      obtain ⟨kn, ⟨dx, tb, hI, hT⟩, _⟩ := hC.up g14.up
      refine s_ret (P := fun u _ => u = .bl (!Sw.agree n (rkOf R) x q w cl ch)) (v_not (e_meth (v_var rfl) hI rfl (av_cons (v_var rfl) (av_cons (v_var rfl) av_nil)) fun vs B2 e2 ev => ?_)) g4.sub fun v B5 H5 g5 ev => ?_
      · subst ev
        exact fun B3 H3 a b Q q E => ⟨B3, c, n, x, _, w, kl, kh, R, vl, vh, cl, ch, rfl, hC.up (g14.up.trans (e2.trans a)), N, hcl.up (g14.up.trans (e2.trans a)), hch.up (g14.up.trans (e2.trans a)), l1, l2, h1, h2, hkl, hkh, b, fun B4 H4 g => q _ B4 H4 g rfl⟩
      · rw [ev]
        exact qq B5 H5 (g14.trans g5)
theorem mal_implies : Mal P w K mg base C "implies" ["self", "one", "other"] 5 (sp_implies C) := by
  refine T.m_implies.mal sc_M_implies (fun vs H Q E h => ?_) (fun _ _ _ _ _ _ us hl => match us, hl with | [_, _, _], _ => rfl) (fun f cdv A outer s H vs Q E hr h => ?_)
  · obtain ⟨B, c, n, x, q, w, R, u, v, d, e, rfl, _⟩ := h
    rfl
  · obtain ⟨B, c, n, x, q, w, R, u, v, d, e, rfl, hC, N, hd, he, d1, d2, e1, e2, ex, qq⟩ := h
    refine ⟨_, (pss_one (ps_ret ((mal_clash T).pe T.cl hr (by decide) (pv 0) (pa_cons (pv 1) (pa_cons ((cal_opposite T).pe hr (by decide) rfl (pa_cons (pv 2) pa_nil)) pa_nil))))), ?_⟩
    obtain ⟨kn, ⟨dx, tb, hI, hT⟩, _⟩ := id hC
    refine s_ret (P := fun u _ => u = .bl (Sw.imp n (rkOf R) x q w d e)) (e_meth (v_var rfl) hI rfl (PA := fun vs B2 => ∃ v', vs = [u, v'] ∧ IsC B2 v' (Sw.opp e)) (a_cons (P := fun a _ => a = u) (PR := fun vs B2 => ∃ v', vs = [v'] ∧ IsC B2 v' (Sw.opp e)) (v_var rfl) (fun a B' eB _ => ?_) fun a as B1 B2 _ _ h1 ⟨v', h2, h3⟩ => ⟨v', by rw [h1, h2], h3⟩) fun vs B2 e2' ⟨v', ev, hv'⟩ => ?_) ex fun v B1 H1 g ev => ?_
    · refine a_one (P := fun v' B2 => IsC B2 v' (Sw.opp e)) (e_call (av_cons (v_var rfl) av_nil) fun vs B2 e2 ev => ?_) (fun v' B2 _ h => ⟨v', rfl, h⟩) fun v' B1 B2 e h => h.up e
      subst ev
      exact fun B3 H3 a b Q q E => ⟨B3, v, e, rfl, he.up (eB.trans (e2.trans a)), b, fun v1 B4 H4 g h => q _ B4 H4 g h⟩
    · subst ev
      exact fun B3 H3 a b Q q E => ⟨B3, c, n, x, _, w, R, u, v', d, Sw.opp e, rfl, hC.up (e2'.trans a), N, hd.up (e2'.trans a), hv'.up a, d1, d2, e1, e2, b, fun B4 H4 g => q _ B4 H4 g rfl⟩
    · rw [ev]
      exact qq B1 H1 g
end
end Sk

/-! Making a Choices. -/
namespace Sk
open PySem PySem.Spec PyProof.Rows L2
/-- __init__: H0 the heap before the instance was made -/
def sp_init (C : Addr) : Sp := fun vs H Q _ => ∃ (B H0 : Hp) (c dx : Addr) (n x q w : Nat) (R : List (List Nat)) (tb : V), vs = [.ref c, tb, vN x, vN q, vN w] ∧ H0 c = none ∧ H0 dx = none ∧ dx ≠ c ∧ H = upd (upd H0 dx (.own c)) c (.ins C dx []) ∧ IsTab B tb R ∧ Nums n x q w R ∧ Ex B H0 ∧ ∀ B1 H1, Go B H0 B1 H1 → IsCh C B1 c R x q w → Q .non H1
structure Mak (P : Program) (w : World) (K : PySem.W.Frag) (mg : Str → Option Value) (base : Heap) (C : Addr) (ps : List Str) (k : Nat) (sp : Sp) : Prop where
  ex : ∃ (f : Addr) (fd : FuncData), FnOk P w K mg base CX0 k f fd ps sp ∧ Mk K C f ∧ Binds K fd ps []
section
variable {X : Cx} {ps : List Str} {k j : Nat} {sp : Sp} {e : Expr} {es : List Expr} {t : TA} {p pos : Pos} {C : Addr} {x : Str}
theorem Mak.pe (c : Mak X.prog X.w X.K X.mg X.base C ps k sp) (hr : Room j X.A) (hk : k + 1 ≤ j) (hg : Gl X x) (hm : X.mg x = some (.ref C)) (ha : PA X (e :: es) t) (hdb : (x == ("__debug__" : Str)) = false := by decide)
    (he : starEach (e :: es) X.env = (false, eval e X.env) :: starEach es X.env := by rfl) (hpl : (backTo pos (starEach es X.env)).any (·.1) = false := by rfl) : PE X (.Call (.Name x p) (e :: es) [] pos) (tMake C sp [] E0 t) := by
  obtain ⟨f, fd, F, M, b⟩ := c.ex
  exact pe_make M F (hr.mono hk) hg hm b .nil pass0 ha (hdb := hdb) (he := he) (hpl := hpl)
end
theorem putF_app {f : Str} {v : V} : ∀ {fs : List (Str × V)}, f ∉ fs.map (·.1) → putF f v fs = fs ++ [(f, v)]
  | [], _ => rfl
  | (g, y) :: r, h => by
    rw [List.map_cons, List.mem_cons, not_or] at h
    unfold putF
    rw [if_neg (fun e => h.1 e.symm), putF_app h.2]; rfl
section
variable {σ : L2.St} {Hc H : Hp} {td ty tv : TE} {D : Ends} {P : V → Hp → Prop} {tz : TS} {kn : Addr}
/-- d[(..)] = v, the dict hidden -/
theorem s_dputT {kvs : List (List Key × V)} {k : List Key} (hv : EvP tv σ Hc P) (hd : EvV td σ Hc (.ref kn)) (hy : EvP ty σ Hc fun u B => ∃ b, u = .ref b ∧ B b = some (.tup (k.map kV))) (e : Ex Hc H) (hk : H kn = some (.dT kvs)) (hl : kvs.length ≤ 100000)
    (c : ∀ v B B1 H1, Go Hc H B1 H1 → Ex B B1 → P v B → D.nx σ (upd H1 kn (.dT (putK kvs k v)))) : sDPut td ty tv D σ H :=
  hv Hc H (Ex.refl _) e _ fun v B1 H1 g1 pv => hd B1 H1 g1.up g1.sub _ fun x B2 H2 g2 ex => hy B2 H2 (g1.up.trans g2.up) g2.sub _ fun y B3 H3 g3 ⟨b, ey, hb⟩ =>
    ⟨kn, _, ex, .inr ⟨kvs, k, b, (((g1.trans g2).trans g3)).ex _ _ hk, ey, g3.sub _ _ hb, Nat.lt_of_le_of_lt hl (by decide), rfl⟩, c v B1 B3 H3 ((g1.trans g2).trans g3) (g2.up.trans g3.up) pv⟩
theorem q_dputT {kvs : List (List Key × V)} {k : List Key} (hv : EvP tv σ Hc P) (hd : EvV td σ Hc (.ref kn)) (hy : EvP ty σ Hc fun u B => ∃ b, u = .ref b ∧ B b = some (.tup (k.map kV))) (e : Ex Hc H) (hk : H kn = some (.dT kvs)) (hl : kvs.length ≤ 100000)
    (c : ∀ v B B1 H1, Go Hc H B1 H1 → Ex B B1 → P v B → tz D σ (upd H1 kn (.dT (putK kvs k v)))) : tSeq (sDPut td ty tv) tz D σ H := s_dputT (D := { D with nx := tz D }) hv hd hy e hk hl c
end
section
variable {K : PySem.W.Frag} {C : Addr} {σ : L2.St} {Hc : Hp} {tr : TA} {n x q w : Nat} {R : List (List Nat)} {tb : V}
theorem e_make (h : EvAV tr σ Hc [tb, vN x, vN q, vN w]) (ht : IsTab Hc tb R) (N : Nums n x q w R) : EvP (tMake C (sp_init C) [] E0 tr) σ Hc fun u B => ∃ c, u = .ref c ∧ IsCh C B c R x q w := fun B H a b Q k =>
  h B H a b _ fun vs B1 H1 g1 ev c dx hc hdx hne => ⟨B1, H1, c, dx, n, x, q, w, R, tb, by rw [ev]; rfl, hc, hdx, hne, rfl, ht.up (a.trans g1.up), N, g1.sub, fun B2 H2 g2 hC => ⟨rfl, k _ _ _ (g1.trans g2) ⟨c, rfl, hC⟩⟩⟩
end
abbrev fs1 (tb : V) : List (Str × V) := [("tables", tb)]
abbrev fs2 (tb : V) (x : Nat) : List (Str × V) := [("tables", tb), ("item", vN x)]
abbrev fs3 (tb : V) (x q : Nat) : List (Str × V) := [("tables", tb), ("item", vN x), ("person", vN q)]
abbrev fs4 (tb : V) (x q w : Nat) : List (Str × V) := [("tables", tb), ("item", vN x), ("person", vN q), ("last", vN w)]
theorem p2 (tb : V) (x : Nat) : putF "item" (vN x) (fs1 tb) = fs2 tb x := putF_app (by show ("item" : Str) ∉ [("tables" : Str)]; decide +kernel)
theorem p3 (tb : V) (x q : Nat) : putF "person" (vN q) (fs2 tb x) = fs3 tb x q := putF_app (by show ("person" : Str) ∉ [("tables" : Str), "item"]; decide +kernel)
theorem p4 (tb : V) (x q w : Nat) : putF "last" (vN w) (fs3 tb x q) = fs4 tb x q w := putF_app (by show ("last" : Str) ∉ [("tables" : Str), "item", "person"]; decide +kernel)
theorem p5 (tb : V) (x q w : Nat) (kn : Addr) : putF "known" (.ref kn) (fs4 tb x q w) = fsOf tb x q w kn := putF_app (by show ("known" : Str) ∉ [("tables" : Str), "item", "person", "last"]; decide +kernel)
section
variable {P : Program} {w : World} {K : PySem.W.Frag} {mg : Str → Option Value} {base : Heap} {C : Addr} (T : Top K mg C)
include T
theorem mak_Choices : Mak P w K mg base C ["self", "tables", "item", "person", "last"] 3 (sp_init C) := by
  obtain ⟨fa, fd, F, M⟩ := T.makes
  refine ⟨fa, fd, F.ok sc_M___init__ (fun vs H Q E h => ?_) (fun cdv A outer s H vs Q E hr h => ?_), M, F.binds (fun _ _ _ _ _ _ us hl => match us, hl with | [_, _, _, _, _], _ => rfl)⟩
  · obtain ⟨B, H0, c, dx, n, x, q, w, R, tb, rfl, _⟩ := h
    rfl
  · obtain ⟨B, H0, c, dx, n, x, q, w, R, tb, rfl, hc, hdx, hne, rfl, hT, N, ex, qq⟩ := h
    have hu := hu_of hr
    have hn := N.G.le
    have hxq := N.xq
    have hqw := N.qw
    have hwn := N.wn
    refine ⟨_, (pss_cons (ps_asg (pe_tup (pa_cons (pv 1) (pa_cons (pv 2) (pa_cons (pv 3) (pa_cons (pv 4) pa_nil))))) (pg_tup rfl (pgs_cons (pg_fld (pv 0)) (pgs_cons (pg_fld (pv 0)) (pgs_cons (pg_fld (pv 0)) (pgs_cons (pg_fld (pv 0)) pgs_nil))))))
    (pss_cons (ps_fld (pv 0) pe_dnewT rfl)
    (pss_one (ps_for PassesOwn.never rfl (pi_range2 (by rfl) T.b_range (pa_cons (pe_op op_add (pv 2) pe_int) (pa_cons (pe_op op_add (pv 4) pe_int) pa_nil))) (pg_name (i := 5) sc_M___init__.nd rfl (Or.inl rfl))
      (pss_cons (ps_dput hu (pe_fld (pv 0) rfl) (pe_tup (pa_cons (pv 5) (pa_cons (pe_gl (v := .str "left") T.g_LEFT (fun t => ⟨t, rfl⟩) rfl) pa_nil))) ((mal_left_index T).pe T.cl hr (by decide) (pv 0) (pa_cons (pv 5) pa_nil)) rfl)
      (pss_one (ps_dput hu (pe_fld (pv 0) rfl) (pe_tup (pa_cons (pv 5) (pa_cons (pe_gl (v := .str "stay") T.g_STAY (fun t => ⟨t, rfl⟩) rfl) pa_nil))) ((mal_stay_index T).pe T.cl hr (by decide) (pv 0) (pa_cons (pv 5) pa_nil)) rfl))))))), ?_⟩
    have Bc : B c = none := ex.none hc
    have Bdx : B dx = none := ex.none hdx
    have g0 : Go B H0 B (upd (upd H0 dx (.own c)) c (.ins C dx [])) := ((GoF.refl ex).new hdx).new (by rw [upd_ne hne.symm]; exact hc)
    refine q_asgG (e_tupV (xs := [tb, vN x, vN q, vN w]) (av_cons (v_var rfl) (av_cons (v_var rfl) (av_cons (v_var rfl) (av_cons (v_var rfl) av_nil)))) (by simp)) g0.sub fun y B1 H1 g1 ⟨p, ep, hp⟩ => ?_
    have hI1 := g1.ex c _ (upd_same)
    have Bc1 : B1 c = none := g1.off c Bc (by rw [upd_same]; simp)
    have g01 := g0.trans g1
    refine ⟨p, [tb, vN x, vN q, vN w], ep, st_of (g1.sub _ _ hp), rfl, tb, [vN x, vN q, vN w], rfl, .ref c, rfl, c, C, dx, [], rfl, hI1, T.cl, T.nf_tables, by show 0 < 1000; decide, ?_⟩
    refine ⟨vN x, [vN q, vN w], rfl, .ref c, rfl, c, C, dx, (fs1 tb), rfl, upd_same, T.cl, T.nf_item, by show 1 < 1000; decide, ?_⟩
    rw [p2]
    refine ⟨vN q, [vN w], rfl, .ref c, rfl, c, C, dx, (fs2 tb x), rfl, upd_same, T.cl, T.nf_person, by show 2 < 1000; decide, ?_⟩
    rw [p3]
    refine ⟨vN w, [], rfl, .ref c, rfl, c, C, dx, (fs3 tb x q), rfl, upd_same, T.cl, T.nf_last, by show 3 < 1000; decide, ?_⟩
    rw [p4]
    refine ⟨rfl, ?_⟩
    have g02 := ((((g01.mut hc Bc1 (o := .ins C dx (putF "tables" tb []))).mut hc Bc1 (o := .ins C dx (fs2 tb x))).mut hc Bc1 (o := .ins C dx (fs3 tb x q))).mut hc Bc1 (o := .ins C dx (fs4 tb x q w)))
    intro kn hkn
    have H0kn : H0 kn = none := g02.there kn hkn
    have B1kn : B1 kn = none := g02.sub.none hkn
    have knc : c ≠ kn := fun z => by
      subst z
      rw [upd_same] at hkn
      cases hkn
    refine ⟨.ref c, rfl, c, C, dx, (fs4 tb x q w), rfl, by rw [upd_ne knc, upd_same], T.cl, T.nf_known, by show 4 < 1000; decide, ?_⟩
    rw [p5]
    have g03 := ((g02.new hkn (o := .dT [])).mut hc Bc1 (o := .ins C dx (fsOf tb x q w kn))).shown upd_same hc
    have hkn3 : ∀ {B' : Hp}, upd (upd B' kn (HO.dT [])) c (.ins C dx (fsOf tb x q w kn)) kn = some (.dT []) := fun {B'} => by rw [upd_ne (Ne.symm knc), upd_same]
    have B2kn : upd B1 c (.ins C dx (fsOf tb x q w kn)) kn = none := by rw [upd_ne (Ne.symm knc)]; exact B1kn
    have hC2 : IsCh0 C (upd B1 c (.ins C dx (fsOf tb x q w kn))) c kn R x q w := ⟨dx, tb, upd_same, hT.up g03.up⟩
    generalize hB2 : upd B1 c (.ins C dx (fsOf tb x q w kn)) = B2 at g03 B2kn hC2
    have hk3 := hkn3 (B' := upd (upd (upd (upd H1 c (.ins C dx (putF "tables" tb []))) c (.ins C dx (fs2 tb x))) c (.ins C dx (fs3 tb x q))) c (.ins C dx (fs4 tb x q w)))
    refine s_for (Hc := B2) (fun i σ1 B3 H3 => (∃ o, σ1 = [some (.ref c), some tb, some (vN x), some (vN q), some (vN w), o]) ∧ Go B H0 B3 H3 ∧ B3 kn = none ∧ ∃ kvs, H3 kn = some (.dT kvs) ∧ kvs.length ≤ 2 * i ∧ ∀ y b, x < y → y ≤ x + i → valV kvs (keyC y b) = some (ixV (Sw.idx (rkOf R) x q w (y, b))))
      (i_rng2 (lo := x + 1) (hi := w + 1) (av_cons (v_addN (v_var rfl) v_c) (av_cons (v_addN (v_var rfl) v_c) av_nil)) (by omega) (by omega)) g03.sub (fun B3 H3 g3 => ?_) (fun i σ1 B3 H3 v B4 H4 hi e3 e4 hW g4 hv => ?_) (fun σ1 B3 H3 e3 e4 hW => ?_)
    · exact ⟨⟨_, rfl⟩, g03.trans g3, g3.off kn B2kn (by rw [hk3]; simp), [], g3.ex _ _ hk3, Nat.le_refl _, fun y b h1 h2 => by omega⟩
    · obtain ⟨⟨o, rfl⟩, gg, Bk, kvs, hk, hlen, hall⟩ := hW
      subst hv
      have hk4 := g4.ex _ _ hk
      have Bk4 := g4.off kn Bk (by rw [hk]; simp)
      have hC4 := hC2.up (e3.trans g4.up)
      have li : ∀ {B' : Hp} {m : Str} {sp : Sp} {v : V}, Ex B4 B' → (∀ tb, (fsOf tb x q w kn).lookup m = none) → (∀ B3 H3, Ex B' B3 → Ex B3 H3 → ∀ Q E, (∀ B5 H5, Go B3 H3 B5 H5 → Q v H5) → sp [.ref c, vN (x + 1 + i)] H3 Q E) → EvV (tMeth C m sp [] E0 (tVar 0) (tCons (tVar 5) tNil)) [some (.ref c), some tb, some (vN x), some (vN q), some (vN w), some (vN (x + 1 + i))] B' v := fun eB hm hs => by
        obtain ⟨dx', tb', hI, hT'⟩ := hC4.up eB
        refine e_meth (v_var rfl) hI (hm _) (av_cons (v_var rfl) av_nil) fun vs B2 e2 ev => ?_
        subst ev
        exact fun B3 H3 a b Q q E => hs B3 H3 (e2.trans a) b Q E fun B5 H5 g => q _ B5 H5 g rfl
      have kf : ∀ {B' : Hp}, Ex B4 B' → EvV (tFld K (tVar 0) "known") [some (.ref c), some tb, some (vN x), some (vN q), some (vN w), some (vN (x + 1 + i))] B' (.ref kn) := fun eB => by
        obtain ⟨dx', tb', hI, hT'⟩ := hC4.up eB
        exact v_fld (v_var rfl) hI T.cl T.nf_known rfl
      have ky : ∀ {B' : Hp} (b : Bool) , EvP (tTup (tCons (tVar 5) (tCons (tC (.str (word b))) tNil))) [some (.ref c), some tb, some (vN x), some (vN q), some (vN w), some (vN (x + 1 + i))] B' fun u B => ∃ a, u = .ref a ∧ B a = some (.tup ((keyC (x + 1 + i) b).map kV)) := fun b => (e_tupV (av_cons (v_var rfl) (av_cons v_c av_nil)) (by simp))
      refine q_dputT (P := fun v _ => v = ixV (Sw.leftIdx (rkOf R) x q (x + 1 + i))) (li (Ex.refl _) (fun _ => rfl) fun B3 H3 a b Q E k => ⟨B3, c, kn, n, x, q, w, x + 1 + i, R, rfl, hC4.up a, N, by omega, by omega, b, k⟩) (kf (Ex.refl _)) (ky true) g4.sub hk4 (by omega) fun v B5 B6 H6 g6 _ ev => ?_
      have Bk6 := g6.off kn Bk4 (by rw [hk4]; simp)
      have gA := (gg.trans (g4.trans g6)).mut H0kn Bk6 (o := .dT (putK kvs (keyC (x + 1 + i) true) v))
      refine s_dputT (Hc := B6) (P := fun v _ => v = ixV (Sw.stayIdx (rkOf R) q w (x + 1 + i))) (li g6.up (fun _ => rfl) fun B3 H3 a b Q E k => ⟨B3, c, kn, n, x, q, w, x + 1 + i, R, rfl, hC4.up (g6.up.trans a), N, by omega, by omega, b, k⟩) (kf g6.up) (ky false) gA.sub upd_same (by have := length_putK kvs (keyC (x + 1 + i) true) v; omega) fun v2 B7 B8 H8 g8 _ ev2 => ?_
      have Bk8 := g8.off kn Bk6 (by rw [upd_same]; simp)
      have gB := (gA.trans g8).mut H0kn Bk8 (o := .dT (putK (putK kvs (keyC (x + 1 + i) true) v) (keyC (x + 1 + i) false) v2))
      refine ⟨B8, g4.up.trans (g6.up.trans g8.up), gB.sub, ⟨_, rfl⟩, gB, Bk8, _, upd_same, ?_, fun y b h1 h2 => ?_⟩
      · have h1 := length_putK kvs (keyC (x + 1 + i) true) v
        have h2 := length_putK (putK kvs (keyC (x + 1 + i) true) v) (keyC (x + 1 + i) false) v2
        omega
      · rw [valV_put, valV_put]
        have kinj : ∀ y' b', keyC y b = keyC y' b' ↔ y = y' ∧ b = b' := fun y' b' => by
          constructor
          · intro e
            injection e with e1 e2
            injection e2 with e2 _
            have e1 := Sum.inl.inj e1
            have e2 := Sum.inr.inj e2
            refine ⟨by omega, ?_⟩
            have := word_inj b b'
            rw [e2, beq_self_eq_true] at this
            exact of_decide_eq_true this.symm
          · rintro ⟨rfl, rfl⟩; rfl
        by_cases hy : y = x + 1 + i
        · subst hy
          cases b with
          | false => rw [if_pos rfl, ev2]; rfl
          | true => rw [if_neg (fun e => by have := ((kinj _ _).mp e).2; cases this), if_pos rfl, ev]; rfl
        · rw [if_neg (fun e => hy ((kinj _ _).mp e).1), if_neg (fun e => hy ((kinj _ _).mp e).1)]
          exact hall y b h1 (by omega)
    · obtain ⟨_, gg, Bk, kvs, hk, hlen, hall⟩ := hW
      have gz := gg.shown hk H0kn
      exact qq _ _ gz ⟨kn, (hC2.up e3).up (Ex.shown e4 hk), kvs, upd_same, fun y b h1 h2 => hall y b h1 (by omega)⟩
end
end Sk

/-! is_choice, check_arrangement, check_fitting, goals_of, inversions_of, is_allowed_there, swapped, all_choices, check_arguments. -/
namespace Sk
open PySem PySem.Spec PyProof.Rows L2
theorem inN {xs : List Nat} {k : Nat} : inV (vN k) (xs.map vN) = decide (k ∈ xs) := by
  unfold inV
  rw [List.any_map, Bool.eq_iff_iff, List.any_eq_true, decide_eq_true_eq]
  constructor
  · rintro ⟨y, hy, e⟩
    have e : ((y : Int) == (k : Int)) = true := e
    rw [beq_iff_eq] at e
    rw [← Int.ofNat.inj e]; exact hy
  · intro h
    exact ⟨k, h, show ((k : Int) == (k : Int)) = true from beq_self_eq_true _⟩
theorem flatN (xs : List Nat) : (xs.map vN).all flatV = true := List.all_eq_true.mpr fun x hx => by
  obtain ⟨k, _, rfl⟩ := List.mem_map.mp hx
  rfl
theorem sIx_nat {n d i : Nat} (h : i ≤ n) : HT.sIx n d (some (i : Int)) = i := by
  unfold HT.sIx
  simp only
  rw [if_neg (by omega)]
  omega
/-- xs[:i], xs[i:], xs[i:j] -/
theorem cut_take {xs : List V} {i : Nat} (h : i ≤ xs.length) : cutV xs none (some (i : Int)) = xs.take i := by
  unfold cutV
  have e0 : HT.sIx xs.length 0 none = 0 := rfl
  have e1 : HT.sIx xs.length xs.length (some (i : Int)) = i := sIx_nat (by omega)
  rw [e0, e1, List.drop_zero, Nat.sub_zero]
theorem cut_drop {xs : List V} {i : Nat} (h : i ≤ xs.length) : cutV xs (some (i : Int)) none = xs.drop i := by
  unfold cutV
  have e0 : HT.sIx xs.length xs.length none = xs.length := rfl
  have e1 : HT.sIx xs.length 0 (some (i : Int)) = i := sIx_nat (by omega)
  rw [e0, e1]
  exact List.take_of_length_le (by rw [List.length_drop]; omega)
theorem cut_mid {xs : List V} {i j : Nat} (h1 : i ≤ j) (h2 : j ≤ xs.length) : cutV xs (some (i : Int)) (some (j : Int)) = (xs.drop i).take (j - i) := by
  unfold cutV
  have e0 : HT.sIx xs.length 0 (some (i : Int)) = i := sIx_nat (by omega)
  have e1 : HT.sIx xs.length xs.length (some (j : Int)) = j := sIx_nat (by omega)
  rw [e0, e1]
section
variable {K : PySem.W.Frag} {σ : L2.St} {Hc H : Hp} {ta tb : TE} {P1 P2 : V → Hp → Prop} {D : Ends} {tz : TS} {i j : Nat}
theorem q_par (h1 : EvP ta σ Hc P1) (h2 : ∀ v B, Ex Hc B → P1 v B → EvP tb σ B P2) (e : Ex Hc H) (k : ∀ v w B1 B2 H2, Go Hc H B2 H2 → Ex B1 B2 → P1 v B1 → P2 w B2 → tz D ((σ.set i (some v)).set j (some w)) H2) : tSeq (tPar i j (tCons ta (tCons tb tNil))) tz D σ H :=
  h1 Hc H (Ex.refl _) e _ fun v B1 H1 g1 p1 => h2 v B1 g1.up p1 B1 H1 (Ex.refl _) g1.sub _ fun w B2 H2 g2 p2 => ⟨v, w, rfl, k v w B1 B2 H2 (g1.trans g2) g2.up p1 p2⟩
end
def IsPr (H : Hp) (v : V) (c : Nat × Nat) : Prop := ∃ a, v = .ref a ∧ H a = some (.tup [vN c.1, vN c.2])
theorem IsPr.up {H H' : Hp} {v : V} {c : Nat × Nat} (h : IsPr H v c) (e : Ex H H') : IsPr H' v c := let ⟨a, h1, h2⟩ := h; ⟨a, h1, e _ _ h2⟩
/-- an arrangement with its items' places -/
structure Arr (n : Nat) (row : List Nat) (g : Nat → Nat) : Prop where
  pos : 1 ≤ n
  le : n ≤ 40
  len : row.length = n
  at_ : ∀ z, z < n → row[g z]? = some z
theorem Arr.lt {n : Nat} {row : List Nat} {g : Nat → Nat} (h : Arr n row g) {z : Nat} (hz : z < n) : g z < n := by
  have := (List.getElem?_eq_some_iff.mp (h.at_ z hz)).1
  rw [h.len] at this; exact this
theorem Arr.back {n : Nat} {row : List Nat} {g : Nat → Nat} (h : Arr n row g) {i : Nat} (hi : i < n) : ∃ z, z < n ∧ g z = i ∧ row[i]? = some z := by
  have nd : ((List.range n).map g).Nodup := by
    refine List.pairwise_map.mpr (List.nodup_range.imp_of_mem fun {a b} ha hb ne e => ne ?_)
    have h1 := h.at_ a (List.mem_range.mp ha)
    have h2 := h.at_ b (List.mem_range.mp hb)
    rw [e, h2] at h1
    exact (Option.some.inj h1).symm
  have := Sw.nodup_all nd (m := List.range n) (fun a ha => by
    obtain ⟨z, hz, rfl⟩ := List.mem_map.mp ha
    exact List.mem_range.mpr (h.lt (List.mem_range.mp hz))) (by rw [List.length_map]; exact Nat.le_refl _) i (List.mem_range.mpr hi)
  obtain ⟨z, hz, rfl⟩ := List.mem_map.mp this
  exact ⟨z, List.mem_range.mp hz, rfl, h.at_ z (List.mem_range.mp hz)⟩
def sp_is_choice : Sp := fun vs H Q _ => ∃ (B : Hp) (x w : Nat) (v : V) (d : Sw.Ch), vs = [vN x, vN w, v] ∧ IsC B v d ∧ Ex B H ∧ ∀ B1 H1, Go B H B1 H1 → Q (.bl (decide (x < d.1) && decide (d.1 < w))) H1
def sp_check_arrangement : Sp := fun vs H Q _ => ∃ (B : Hp) (n : Nat) (v : V) (row : List Nat), vs = [v] ∧ IsRow B v row ∧ (1 ≤ n ∧ n ≤ 40 ∧ row.length = n ∧ row.Nodup ∧ ∀ k ∈ row, k < n) ∧ Ex B H ∧ ∀ B1 H1, Go B H B1 H1 → Q .non H1
def sp_check_fitting : Sp := fun vs H Q _ => ∃ (B : Hp) (n : Nat) (u v : V) (R : List (List Nat)) (row : List Nat), vs = [u, v] ∧ IsRk B u R ∧ Rkg n R ∧ IsRow B v row ∧ (row.length = n ∧ row.Nodup ∧ ∀ k ∈ row, k < n) ∧ Ex B H ∧ ∀ B1 H1, Go B H B1 H1 → Q .non H1
def sp_goals_of : Sp := fun vs H Q _ => ∃ (B : Hp) (n : Nat) (v : V) (row : List Nat) (g : Nat → Nat), vs = [v] ∧ IsRow B v row ∧ Arr n row g ∧ Ex B H ∧ ∀ v1 B1 H1, Go B H B1 H1 → IsRow B1 v1 ((List.range n).map g) → Q v1 H1
def sp_inversions_of : Sp := fun vs H Q _ => ∃ (B : Hp) (n : Nat) (v : V) (row : List Nat) (g : Nat → Nat), vs = [v] ∧ IsRow B v row ∧ Arr n row g ∧ Ex B H ∧ ∀ v1 B1 H1, Go B H B1 H1 → (∃ a vs, v1 = .ref a ∧ B1 a = some (.tup vs) ∧ Seq2 (IsPr B1) vs (Sw.invList g n)) → Q v1 H1
def sp_is_allowed_there : Sp := fun vs H Q _ => ∃ (B : Hp) (n s a b : Nat) (tb v : V) (R : List (List Nat)) (row : List Nat), vs = [tb, v, vN s] ∧ IsTab B tb R ∧ Rkg n R ∧ IsRow B v row ∧ s + 1 < n ∧ row[s]? = some a ∧ row[s + 1]? = some b ∧ a < n ∧ b < n ∧ Ex B H ∧ ∀ B1 H1, Go B H B1 H1 → Q (.bl (Sw.likes (rkOf R) s b a && Sw.likes (rkOf R) (s + 1) a b)) H1
def sp_swapped : Sp := fun vs H Q _ => ∃ (B : Hp) (s : Nat) (v : V) (row : List Nat), vs = [v, vN s] ∧ IsRow B v row ∧ s + 1 < row.length ∧ row.length ≤ 40 ∧ Ex B H ∧ ∀ v1 B1 H1, Go B H B1 H1 → IsRow B1 v1 (Sw.swapL row s) → Q v1 H1
def sp_all_choices : Sp := fun vs H Q _ => ∃ (B : Hp) (x w : Nat), vs = [vN x, vN w] ∧ (x ≤ 40 ∧ w ≤ 40) ∧ Ex B H ∧ ∀ v1 B1 H1, Go B H B1 H1 → (∃ a vs, v1 = .ref a ∧ B1 a = some (.lst vs) ∧ Seq2 (IsC B1) vs (Sw.allCh x w)) → Q v1 H1
def sp_check_arguments : Sp := fun vs H Q _ => ∃ (B : Hp) (v : V) (n x q : Nat) (R : List (List Nat)), vs = [v, vN x, vN q] ∧ IsRk B v R ∧ Rkg n R ∧ x < n ∧ q < n ∧ Ex B H ∧ ∀ B1 H1, Go B H B1 H1 → Q .non H1
section
variable {P : Program} {w : World} {K : PySem.W.Frag} {mg : Str → Option Value} {base : Heap} {C : Addr} (T : Top K mg C)
include T
theorem cal_is_choice : Cal P w K mg base "is_choice" ["item", "last", "value"] 2 sp_is_choice := by
  refine T.d_is_choice.cal sc_is_choice (fun vs H Q E h => ?_) (fun _ _ _ _ _ _ us hl => match us, hl with | [_, _, _], _ => rfl) (fun f cdv A outer s H vs Q E hr h => ?_)
  · obtain ⟨B, x, w, v, d, rfl, _⟩ := h
    rfl
  · obtain ⟨B, x, w, v, d, rfl, hd, ex, qq⟩ := h
    refine ⟨_, (pss_cons (ps_if (PW.pt (pw_or (pt_not (pt_val (pe_callB call_isi (by rfl) T.b_isinstance (by decide +kernel) (pa_cons (pv 2) (pa_cons (pe_bltn (v := .ty "tuple") (by rfl) T.b_tuple (by decide +kernel) rfl) pa_nil))))) (pw_or (pt_cmpR op_ne (pe_callB call_len_seq (by rfl) T.b_len PySem.boot_len (pa_cons (pv 2) pa_nil)) pe_int (nomark _)) (pw_or (pt_not (pt_val ((cal_is_integer T).pe hr (by decide) rfl (pa_cons (pe_ix ix_tup (pv 2) pe_int (fun _ _ => rfl)) pa_nil)))) (pw_or1 (pt_not (pt_val (pe_callB call_isi (by rfl) T.b_isinstance (by decide +kernel) (pa_cons (pe_ix ix_tup (pv 2) pe_int (fun _ _ => rfl)) (pa_cons (pe_bltn (v := .ty "str") (by rfl) T.b_str (by decide +kernel) rfl) pa_nil)))))))))) (pss_one (ps_ret pe_bl)) pss_nil)
    (pss_one (ps_ret (pe_and (pe_chain op_lt op_lt (pv 0) (pe_ix ix_tup (pv 2) pe_int (fun _ _ => rfl)) (pv 1)) (pe_one (pe_cmpR op_in_seq (pe_ix ix_tup (pv 2) pe_int (fun _ _ => rfl)) (pe_tup (pa_cons (pe_gl (v := .str "left") T.g_LEFT (fun t => ⟨t, rfl⟩) rfl) (pa_cons (pe_gl (v := .str "stay") T.g_STAY (fun t => ⟨t, rfl⟩) rfl) pa_nil))) (by rfl))))))), ?_⟩
    obtain ⟨p, rfl, hp⟩ := id hd
    refine q_skip (EvT.is (b := false) (t_or (t_not (t_test (v_isi (T1 := "tuple") (b := true) (e_var rfl fun B e H h => ty_tup (h _ _ (e _ _ hp))) (by decide +kernel)))) fun _ => t_or (t_test (v_ne (v_lenT (n := 2) (t_var rfl hp) rfl) v_c rfl)) fun _ => t_or (t_not (t_test (b := true) (e_call (av_cons (v_c0 (v_var rfl) hd) av_nil) fun vs B' e5 e => ?_))) fun _ => t_not (t_test (v_isi (T1 := "str") (b := true) (EvP.ofV (v_c1 (v_var rfl) hd) fun B e H h => ty_str) (by decide +kernel)))) (by decide)) ex fun B1 H1 g1 => ?_
    · rw [e]
      exact fun B1 H1 a b Q q E => ⟨B1, (d.1 : Nat), rfl, b, fun B2 H2 g => q _ B2 H2 g rfl⟩
    · have hd1 := hd.up g1.up
      refine s_ret (P := fun u _ => u = .bl (decide (x < d.1) && decide (d.1 < w))) (EvV.is (v_and (v_chain (v_var rfl) (v_c0 (v_var rfl) hd1) (fun _ _ => r_I0) (fun _ => v_var rfl) fun _ _ _ => r_I0) fun _ => v_in (k := false) (v_c1 (v_var rfl) hd1) ((e_tupV (xs := [.str "left", .str "stay"]) (av_cons v_c (av_cons v_c av_nil)) (by simp)).wk fun u B e ⟨p, h1, h2⟩ => ⟨p, h1, .inr (st_of h2)⟩) rfl (by decide +kernel)) ?_) g1.sub fun v B2 H2 g2 e => ?_
      · have hin : inV (.str (word d.2)) [.str "left", .str "stay"] = true := by cases d.2 <;> decide +kernel
        rw [if_neg (by decide), hin, Bool.and_true]
        congr 1
        congr 1
        · exact decide_eq_decide.mpr (by omega)
        · exact decide_eq_decide.mpr (by omega)
      · rw [e]
        exact qq B2 H2 (g1.trans g2)
theorem cal_check_arrangement : Cal P w K mg base "check_arrangement" ["value"] 3 sp_check_arrangement := by
  refine T.d_check_arrangement.cal sc_check_arrangement (fun vs H Q E h => ?_) (fun _ _ _ _ _ _ us hl => match us, hl with | [_], _ => rfl) (fun f cdv A outer s H vs Q E hr h => ?_)
  · obtain ⟨B, n, v, row, rfl, _⟩ := h
    rfl
  · obtain ⟨B, n, v, row, rfl, ⟨p, rfl, hp⟩, ⟨h1, h40, hl, hnd, hlt⟩, ex, qq⟩ := h
    have hlen : (row.map vN).length = n := by rw [List.length_map, hl]
    refine ⟨_, (pss_cons (ps_if (PW.pt (pw_or (pt_not (pt_val (pe_callB call_isi (by rfl) T.b_isinstance (by decide +kernel) (pa_cons (pv 0) (pa_cons (pe_bltn (v := .ty "tuple") (by rfl) T.b_tuple (by decide +kernel) rfl) pa_nil))))) (pw_or1 (pt_not (pt_chain op_le op_le pe_int (pe_callB call_len_seq (by rfl) T.b_len PySem.boot_len (pa_cons (pv 0) pa_nil)) (pe_gl (v := .int 40) T.g_MAX_PEOPLE (fun t => ⟨t, rfl⟩) rfl)))))) (pss_one (ps_never)) pss_nil)
    (pss_one (ps_for PassesOwn.never rfl (pi_enumT (by rfl) T.b_enumerate (pa_cons (pv 0) pa_nil)) (pg_tup rfl (pgs_cons (pg_name (i := 1) sc_check_arrangement.nd rfl (Or.inl rfl)) (pgs_cons (pg_name (i := 2) sc_check_arrangement.nd rfl (Or.inl rfl)) pgs_nil)))
      (pss_one (ps_if (PW.pt (pw_or (pt_not (pt_val ((cal_is_number_below T).pe hr (by decide) rfl (pa_cons (pv 2) (pa_cons (pe_callB call_len_seq (by rfl) T.b_len PySem.boot_len (pa_cons (pv 0) pa_nil)) pa_nil))))) (pw_or1 (pt_cmpR op_in_seq (pv 2) (pe_slice sl_tupA (pv 0) po_none (po_some (pv 1))) (by rfl))))) (pss_one (ps_never)) pss_nil))))), ?_⟩
    refine q_skip (EvT.is (b := false) (t_or (t_not (t_test (v_isi (T1 := "tuple") (b := true) (e_var rfl fun B e H h => ty_tup (h _ _ (e _ _ hp))) (by decide +kernel)))) fun _ => t_not (t_test (v_chain v_c (v_lenT (t_var rfl hp) hlen) (fun _ _ => r_I0) (fun _ => v_c) fun _ _ _ => r_I0))) ?_) ex fun B1 H1 g1 => ?_
    · rw [decide_eq_true (by omega : (1 : Int) ≤ (n : Nat)), decide_eq_true (by omega : ((n : Nat) : Int) ≤ 40)]; rfl
    · have hp1 := g1.up _ _ hp
      refine s_for (fun i σ1 B2 H2 => (∃ o1 o2, σ1 = [some (.ref p), o1, o2]) ∧ Go B H B2 H2) (i_enum (t_var rfl hp1).st) g1.sub (fun B2 H2 g2 => ⟨⟨_, _, rfl⟩, g1.trans g2⟩) (fun i σ1 B2 H2 x B3 H3 hi e2 e3 hW g3 hY => ?_) (fun σ1 B2 H2 _ _ hW => qq _ _ hW.2)
      obtain ⟨⟨o1, o2, rfl⟩, gg⟩ := hW
      obtain ⟨Tt, u, rfl, hu, hT⟩ := hY
      have hp3 := (gg.up.trans g3.up) _ _ hp
      refine (g_pair hT (S := fun σ2 B => σ2 = [some (.ref p), some (vN i), some u]) fun _ _ => rfl) B3 H3 (Ex.refl _) g3.sub _ fun σ2 B4 H4 g4 e => ?_
      subst e
      rw [List.getElem?_map] at hu
      cases hk : row[i]? with
      | none => rw [hk] at hu; cases hu
      | some k =>
        rw [hk] at hu
        have hu := (Option.some.inj hu).symm
        subst hu
        have hp4 := g4.up _ _ hp3
        have kl := hlt k (List.mem_of_getElem? hk)
        have hil : i < row.length := (List.getElem?_eq_some_iff.mp hk).1
        refine s_if (EvT.is (b := false) (t_or (t_not (t_test (b := true) (e_call (av_cons (v_var rfl) (av_cons (v_lenT (t_var rfl hp4) hlen) av_nil)) fun vs B' e5 e => ?_))) fun _ => t_test (v_in (k := false) (v_var rfl) ((e_slA (ys := (row.take i).map vN) (t_var rfl hp4) o_none (o_some (i := (i : Nat)) (v_var rfl)) ?_).wk fun u B e ⟨p, h1, h2⟩ => ⟨p, h1, .inr (st_of h2)⟩) rfl (flatN _))) ?_) g4.sub (fun z => (by cases z)) (fun _ B5 H5 g5 => ⟨B5, (g3.up.trans (g4.up.trans g5.up)), g5.sub, ⟨_, _, rfl⟩, gg.trans (g3.trans (g4.trans g5))⟩)
        · rw [e]
          exact fun B1 H1 a b Q q E => ⟨B1, k, n, rfl, b, fun B2 H2 g => q _ B2 H2 g (by rw [decide_eq_true (by omega : (0:Int) ≤ (k : Nat)), decide_eq_true (by omega : ((k : Nat) : Int) < (n : Nat))]; rfl)⟩
        · rw [cut_take (by omega), List.map_take]
        · rw [inN, if_neg (by decide)]
          have : k ∉ row.take i := fun h => by
            obtain ⟨j, hj, e⟩ := List.getElem_of_mem h
            rw [List.length_take] at hj
            rw [List.getElem_take] at e
            have e2 : row[i] = k := (List.getElem?_eq_some_iff.mp hk).2
            exact absurd (e.trans e2.symm) (List.pairwise_iff_getElem.mp hnd j i (by omega) hil (by omega))
          rw [decide_eq_false this]; rfl
theorem cal_check_fitting : Cal P w K mg base "check_fitting" ["rankings", "arrangement"] 5 sp_check_fitting := by
  refine T.d_check_fitting.cal sc_check_fitting (fun vs H Q E h => ?_) (fun _ _ _ _ _ _ us hl => match us, hl with | [_, _], _ => rfl) (fun f cdv A outer s H vs Q E hr h => ?_)
  · obtain ⟨B, n, u, v, R, row, rfl, _⟩ := h
    rfl
  · obtain ⟨B, n, u, v, R, row, rfl, hR, G, hrow, ⟨hl, hnd, hlt⟩, ex, qq⟩ := h
    refine ⟨_, (pss_cons (ps_expr ((cal_check_rankings T).pe hr (by decide) rfl (pa_cons (pv 0) pa_nil)))
    (pss_cons (ps_expr ((cal_check_arrangement T).pe hr (by decide) rfl (pa_cons (pv 1) pa_nil)))
    (pss_one (ps_if (pt_cmpR op_ne (pe_callB call_len_seq (by rfl) T.b_len PySem.boot_len (pa_cons (pv 1) pa_nil)) (pe_callB call_len_seq (by rfl) T.b_len PySem.boot_len (pa_cons (pv 0) pa_nil)) (nomark _)) (pss_one (ps_never)) pss_nil)))), ?_⟩
    refine q_drop (P := fun _ _ => True) (e_call (av_cons (v_var rfl) av_nil) fun vs B' e5 e => ?_) ex fun _ B1 H1 g1 _ => ?_
    · rw [e]
      exact fun B1 H1 a b Q q E => ⟨B1, u, n, R, rfl, hR.up (e5.trans a), G, b, fun B2 H2 g => q _ B2 H2 g trivial⟩
    refine q_drop (P := fun _ _ => True) (e_call (av_cons (v_var rfl) av_nil) fun vs B' e5 e => ?_) g1.sub fun _ B2 H2 g2 _ => ?_
    · rw [e]
      exact fun B1 H1 a b Q q E => ⟨B1, n, v, row, rfl, hrow.up (g1.up.trans (e5.trans a)), ⟨G.pos, G.le, hl, hnd, hlt⟩, b, fun B2 H2 g => q _ B2 H2 g trivial⟩
    obtain ⟨p, rfl, hp⟩ := hrow.up (g1.up.trans g2.up)
    obtain ⟨p2, us, rfl, hp2, hs⟩ := hR.up (g1.up.trans g2.up)
    refine s_if (EvT.is (b := false) (t_test (v_ne (v_lenT (n := n) (t_var rfl hp) (by rw [List.length_map, hl])) (v_lenT (n := n) (t_var rfl hp2) (by rw [hs.len, G.len])) rfl)) (by rw [decide_eq_true rfl]; rfl)) g2.sub (fun z => (by cases z)) fun _ B3 H3 g3 => qq _ _ ((g1.trans g2).trans g3)
theorem cal_check_arguments : Cal P w K mg base "check_arguments" ["rankings", "item", "person"] 5 sp_check_arguments := by
  refine T.d_check_arguments.cal sc_check_arguments (fun vs H Q E h => ?_) (fun _ _ _ _ _ _ us hl => match us, hl with | [_, _, _], _ => rfl) (fun f cdv A outer s H vs Q E hr h => ?_)
  · obtain ⟨B, v, n, x, q, R, rfl, _⟩ := h
    rfl
  · obtain ⟨B, v, n, x, q, R, rfl, hR, G, hx, hq, ex, qq⟩ := h
    refine ⟨_, (pss_cons (ps_expr ((cal_check_rankings T).pe hr (by decide) rfl (pa_cons (pv 0) pa_nil)))
    (pss_cons (ps_expr ((cal_check_item T).pe hr (by decide) rfl (pa_cons (pv 0) (pa_cons (pv 1) pa_nil))))
    (pss_one (ps_expr ((cal_check_person T).pe hr (by decide) rfl (pa_cons (pv 0) (pa_cons (pv 2) pa_nil))))))), ?_⟩
    refine q_drop (P := fun _ _ => True) (e_call (av_cons (v_var rfl) av_nil) fun vs B' e5 e => ?_) ex fun _ B1 H1 g1 _ => ?_
    · rw [e]
      exact fun B1 H1 a b Q q E => ⟨B1, v, n, R, rfl, hR.up (e5.trans a), G, b, fun B2 H2 g => q _ B2 H2 g trivial⟩
    refine q_drop (P := fun _ _ => True) (e_call (av_cons (v_var rfl) (av_cons (v_var rfl) av_nil)) fun vs B' e5 e => ?_) g1.sub fun _ B2 H2 g2 _ => ?_
    · rw [e]
      exact fun B1 H1 a b Q q E => ⟨B1, v, n, x, R, rfl, hR.up (g1.up.trans (e5.trans a)), G.len, hx, b, fun B2 H2 g => q _ B2 H2 g trivial⟩
    refine s_drop (P := fun _ _ => True) (e_call (av_cons (v_var rfl) (av_cons (v_var rfl) av_nil)) fun vs B' e5 e => ?_) g2.sub fun _ B3 H3 g3 _ => qq _ _ ((g1.trans g2).trans g3)
    rw [e]
    exact fun B1 H1 a b Q q' E => ⟨B1, v, n, q, R, rfl, hR.up ((g1.up.trans g2.up).trans (e5.trans a)), G.len, hq, b, fun B2 H2 g => q' _ B2 H2 g trivial⟩
theorem cal_is_allowed_there : Cal P w K mg base "is_allowed_there" ["tables", "arrangement", "swap"] 1 sp_is_allowed_there := by
  refine T.d_is_allowed_there.cal sc_is_allowed_there (fun vs H Q E h => ?_) (fun _ _ _ _ _ _ us hl => match us, hl with | [_, _, _], _ => rfl) (fun f cdv A outer s H vs Q E hr h => ?_)
  · obtain ⟨B, n, s, a, b, tb, v, R, row, rfl, _⟩ := h
    rfl
  · obtain ⟨B, n, sw, a, b, tb, v, R, row, rfl, hT, G, ⟨p, rfl, hp⟩, hs, ha, hb, han, hbn, ex, qq⟩ := h
    have hu := hu_of hr
    refine ⟨_, (pss_cons (ps_par (i := 3) (j := 4) (by rfl) sc_is_allowed_there.nd rfl rfl (by decide) rfl rfl (pa_cons (pe_ix ix_tup (pv 1) (pv 2) (fun _ _ => rfl)) (pa_cons (pe_ix ix_tup (pv 1) (pe_op op_add (pv 2) pe_int) (fun _ _ => rfl)) pa_nil)) (by rfl))
    (pss_one (ps_ret (pe_and (pe_cmpR op_lt (pe_dget hu (pe_ix ix_list (pv 0) (pv 2) (fun _ _ => rfl)) (pv 4) (fun _ _ => rfl)) (pe_dget hu (pe_ix ix_list (pv 0) (pv 2) (fun _ _ => rfl)) (pv 3) (fun _ _ => rfl)) (nomark _)) (pe_one (pe_cmpR op_lt (pe_dget hu (pe_ix ix_list (pv 0) (pe_op op_add (pv 2) pe_int) (fun _ _ => rfl)) (pv 3) (fun _ _ => rfl)) (pe_dget hu (pe_ix ix_list (pv 0) (pe_op op_add (pv 2) pe_int) (fun _ _ => rfl)) (pv 4) (fun _ _ => rfl)) (nomark _))))))), ?_⟩
    refine q_par (P1 := fun u _ => u = vN a) (P2 := fun u _ => u = vN b) (v_ixT (t_var rfl hp) (v_var rfl) (atI_nat (by rw [List.getElem?_map, ha]; rfl))) (fun u B1 e1 _ => v_ixT (t_var rfl (e1 _ _ hp)) (v_addN (v_var rfl) (v_c (v := .int (1 : Nat)))) (atI_nat (by rw [List.getElem?_map, hb]; rfl))) ex fun u v B1 B2 H2 g2 e12 hu1 hu2 => ?_
    subst hu1 hu2
    have hT2 := hT.up g2.up
    have lk : ∀ {tp ty tz : TE} {p' y z : Nat}, p' < n → y < n → z < n → EvV tp [some tb, some (.ref p), some (vN sw), some (vN a), some (vN b)] B2 (vN p') → EvV ty [some tb, some (.ref p), some (vN sw), some (vN a), some (vN b)] B2 (vN y) → EvV tz [some tb, some (.ref p), some (vN sw), some (vN a), some (vN b)] B2 (vN z) →
        EvV (tOp (rI0 fun i j => .bl (decide (i < j))) (tDGet (tOp (rIxL K) (tVar 0) tp) ty) (tDGet (tOp (rIxL K) (tVar 0) tp) tz)) [some tb, some (.ref p), some (vN sw), some (vN a), some (vN b)] B2 (.bl (Sw.likes (rkOf R) p' y z)) := fun h1 h2 h3 a1 a2 a3 => by
      refine EvV.is (v_I0 (g := fun i j => .bl (decide (i < j))) (v_rank (v_var rfl) hT2 G h1 h2 a1 a2) (v_rank (v_var rfl) hT2 G h1 h3 a1 a3)) ?_
      unfold Sw.likes
      congr 1
      exact decide_eq_decide.mpr (by omega)
    refine s_ret (v_and (lk (by omega) hbn han (v_var rfl) (v_var rfl) (v_var rfl)) fun _ => lk hs han hbn (v_addN (v_var rfl) (v_c (v := .int (1 : Nat)))) (v_var rfl) (v_var rfl)) g2.sub fun v B3 H3 g3 e => ?_
    rw [e]
    exact qq _ _ (g2.trans g3)
theorem cal_swapped : Cal P w K mg base "swapped" ["arrangement", "swap"] 1 sp_swapped := by
  refine T.d_swapped.cal sc_swapped (fun vs H Q E h => ?_) (fun _ _ _ _ _ _ us hl => match us, hl with | [_, _], _ => rfl) (fun f cdv A outer s H vs Q E hr h => ?_)
  · obtain ⟨B, s, v, row, rfl, _⟩ := h
    rfl
  · obtain ⟨B, sw, v, row, rfl, ⟨p, rfl, hp⟩, hs, h40, ex, qq⟩ := h
    refine ⟨_, (pss_one (ps_ret (pe_op op_catA (pe_op op_catA (pe_slice sl_tupA (pv 0) po_none (po_some (pv 1))) (pe_tup (pa_cons (pe_ix ix_tup (pv 0) (pe_op op_add (pv 1) pe_int) (fun _ _ => rfl)) (pa_cons (pe_ix ix_tup (pv 0) (pv 1) (fun _ _ => rfl)) pa_nil)))) (pe_slice sl_tupA (pv 0) (po_some (pe_op op_add (pv 1) pe_int)) po_none)))), ?_⟩
    have hlen : (row.map vN).length = row.length := List.length_map _
    have it1 : (row.map vN)[sw + 1]? = some (vN (Sw.it row (sw + 1))) := by rw [List.getElem?_map, Sw.of_it hs]; rfl
    have it0 : (row.map vN)[sw]? = some (vN (Sw.it row sw)) := by rw [List.getElem?_map, Sw.of_it (by omega)]; rfl
    refine s_ret (P := fun u B => IsRow B u (Sw.swapL row sw)) ((e_catA (xs := (row.map vN).take sw ++ [vN (Sw.it row (sw + 1)), vN (Sw.it row sw)]) (ys := (row.map vN).drop (sw + 2)) (e_catA (e_slA (t_var rfl hp) o_none (o_some (i := (sw : Nat)) (v_var rfl)) (cut_take (by omega))) (e_tupV (av_cons (v_ixT (t_var rfl hp) (v_addN (v_var rfl) (v_c (v := .int (1 : Nat)))) (atI_nat it1)) (av_cons (v_ixT (t_var rfl hp) (v_var rfl) (atI_nat it0)) av_nil)) (by simp)) (by simp only [List.length_take, List.length_cons, List.length_nil]; omega)) (e_slA (t_var rfl hp) (o_some (i := ((sw + 2 : Nat) : Int)) (v_addN (v_var rfl) (v_c (v := .int (2 : Nat))))) o_none (cut_drop (by omega))) (by simp only [List.length_take, List.length_cons, List.length_nil, List.length_append, List.length_drop]; omega)).wk fun u B e ⟨p2, h1, h2⟩ => ⟨p2, h1, ?_⟩) ex fun v B1 H1 g h => qq v B1 H1 g h
    rw [h2]
    unfold Sw.swapL
    rw [List.map_append, List.map_append, List.map_take, List.map_drop]; rfl
end
end Sk

/-! Hidden lists; goals_of, inversions_of, all_choices, arrangement_for. -/
namespace Sk
open PySem PySem.Spec PyProof.Rows L2
theorem GoF.back {F : Addr → Prop} {B H B1 H1 : Hp} (g : GoF F B H B1 H1) : GoF F B H B H1 := ⟨Ex.refl _, g.up.trans g.sub, g.keep, fun _ h _ => h, g.there⟩
/-- a new object, not shown -/
def EvF (te : TE) (σ : L2.St) (Hc : Hp) (o : HO) : Prop := ∀ B H, Ex Hc B → Ex B H → ∀ Q : VK, (∀ p H2, Go B H B H2 → H p = none → H2 p = some o → Q (.ref p) H2) → te σ H Q
/-- this very value, nothing changes -/
def ValIs (te : TE) (σ : L2.St) (H : Hp) (v : V) : Prop := ∀ Q : VK, Q v H → te σ H Q
def ArgsAre (ta : TA) (σ : L2.St) (H : Hp) (vs : List V) : Prop := ∀ Q : List V → Hp → Prop, Q vs H → ta σ H Q
section
variable {K : PySem.W.Frag} {σ : L2.St} {Hc H : Hp} {ta tb te to ti : TE} {P P1 P2 : V → Hp → Prop} {D : Ends} {tz : TS} {g : TG} {i j n : Nat} {xs ys : List V} {v u : V} {p : Addr} {o : HO}
theorem q_asgF (h : EvF te σ Hc o) (e : Ex Hc H) (k : ∀ p H1, Go Hc H Hc H1 → H p = none → H1 p = some o → tz D (σ.set i (some (.ref p))) H1) : tSeq (tAsg te (gName i)) tz D σ H := h Hc H (Ex.refl _) e _ k
theorem s_retF (h : EvF te σ Hc o) (e : Ex Hc H) (k : ∀ p H1, Go Hc H Hc H1 → H p = none → H1 p = some o → D.rt (.ref p) H1) : tRet te D σ H := h Hc H (Ex.refl _) e _ k
theorem f_lst {tr : TA} (h : EvAV tr σ Hc xs) (hl : xs.length ≤ 100000) : EvF (tLst tr) σ Hc (.lst xs) := fun B H a b Q q =>
  h B H a b _ fun vs B1 H1 g1 e => ⟨by rw [e]; exact Nat.le_trans hl (by decide), fun p hp => q _ _ (g1.back.new hp) (g1.there p hp) (by rw [upd_same, e])⟩
theorem rep_flat {v : V} : ∀ n, (List.replicate n [v]).flatten = List.replicate n v
  | 0 => rfl
  | n + 1 => by rw [List.replicate_succ, List.flatten_cons, List.replicate_succ, rep_flat n]; rfl
theorem f_rep {tr : TA} {n : Nat} (h : EvAV tr σ Hc [v]) (hb : EvV tb σ Hc (vN n)) (hn : n ≤ 100000) : EvF (tOp rRep (tLst tr) tb) σ Hc (.lst (List.replicate n v)) := fun B H a b Q q =>
  e_lstV h (by simp) B H a b _ fun u B1 H1 g1 ⟨p, e, hp⟩ => hb B1 H1 (a.trans g1.up) g1.sub _ fun w B2 H2 g2 e2 => by
    refine ⟨p, (n : Int), [v], e, e2, (g2.up.trans g2.sub) _ _ hp, by omega, by omega, ?_, fun l hl => q _ _ ((g1.trans g2).back.new hl) ((g1.trans g2).there l hl) ?_⟩
    · rw [Int.toNat_natCast]
      exact Nat.le_trans (show 1 * n ≤ 100000 by omega) (by decide)
    · rw [upd_same, Int.toNat_natCast]
      rw [rep_flat]
theorem f_tupOf (h : EvLst ta σ Hc xs) : EvF (tCB (rTupOf K) (tCons ta tNil)) σ Hc (.tup xs) := fun B H a b Q q =>
  h B H a b _ fun v B1 H1 g1 ⟨p, e, hp⟩ => ⟨p, xs, by rw [e], .inl ⟨sl_of (g1.sub _ _ hp), fun l hl => q _ _ (g1.back.new hl) (g1.there l hl) upd_same⟩⟩
/-- l[i] = v -/
theorem s_setL (hv : EvV te σ Hc v) (ho : EvV to σ Hc (.ref p)) (hi : EvV ti σ Hc (vN i)) (e : Ex Hc H) (hp : H p = some (.lst xs)) (hl : i < xs.length) (k : ∀ H1, Go Hc H Hc H1 → D.nx σ (upd H1 p (.lst (xs.set i v)))) : tAsg te (gSub to ti rSetL) D σ H :=
  hv Hc H (Ex.refl _) e _ fun v1 B1 H1 g1 e1 => ho B1 H1 g1.up g1.sub _ fun v2 B2 H2 g2 e2 => hi B2 H2 (g1.up.trans g2.up) g2.sub _ fun v3 B3 H3 g3 e3 =>
    ⟨p, xs, (i : Nat), i, e2, e3, ((g1.trans g2).trans g3).ex _ _ hp, by unfold ixN; rw [if_pos (by omega), if_pos (by omega)]; rfl, by rw [e1]; exact k _ ((g1.trans g2).trans g3).back⟩
theorem q_setL (hv : EvV te σ Hc v) (ho : EvV to σ Hc (.ref p)) (hi : EvV ti σ Hc (vN i)) (e : Ex Hc H) (hp : H p = some (.lst xs)) (hl : i < xs.length) (k : ∀ H1, Go Hc H Hc H1 → tz D σ (upd H1 p (.lst (xs.set i v)))) : tSeq (tAsg te (gSub to ti rSetL)) tz D σ H := s_setL (D := { D with nx := tz D }) hv ho hi e hp hl k
/-- l.append(v) -/
theorem s_app (ho : EvV to σ Hc (.ref p)) (ha : EvP ta σ Hc P) (e : Ex Hc H) (hp : H p = some (.lst xs)) (hl : xs.length ≤ 100000) (k : ∀ v B H1, Go Hc H B H1 → P v B → D.nx σ (upd H1 p (.lst (xs ++ [v])))) : tDrop (tBM K "list" rAppend to (tCons ta tNil)) D σ H :=
  ho Hc H (Ex.refl _) e _ fun v1 B1 H1 g1 e1 => ⟨by rw [e1]; exact .inl ⟨rfl, xs, sl_of (g1.ex _ _ hp)⟩, ha B1 H1 g1.up g1.sub _ fun v B2 H2 g2 pv => ⟨p, xs, v, e1, rfl, (g1.trans g2).ex _ _ hp, Nat.lt_of_le_of_lt hl (by decide), k v B2 H2 (g1.trans g2) pv⟩⟩
theorem q_app (ho : EvV to σ Hc (.ref p)) (ha : EvP ta σ Hc P) (e : Ex Hc H) (hp : H p = some (.lst xs)) (hl : xs.length ≤ 100000) (k : ∀ v B H1, Go Hc H B H1 → P v B → tz D σ (upd H1 p (.lst (xs ++ [v])))) : tSeq (tDrop (tBM K "list" rAppend to (tCons ta tNil))) tz D σ H := s_app (D := { D with nx := tz D }) ho ha e hp hl k
theorem vi_var {i : Nat} (h : σ[i]? = some (some v)) : ValIs (tVar i) σ H v := fun Q q => ⟨v, h, q⟩
theorem vi_last {ti : TE} (ho : ValIs to σ H (.ref p)) (hi : ValIs ti σ H (.int (-1))) (hp : H p = some (.lst xs)) (h : xs[xs.length - 1]? = some v) : ValIs (tOp (rIxL K) to ti) σ H v := fun Q q => ho _ (hi _ ⟨p, xs, -1, v, rfl, rfl, sl_of hp, atI_last h, q⟩)
theorem vi_neg1 : ValIs (tUn (rU fun i => .int (-i)) (tC (.int 1))) σ H (.int (-1)) := fun Q q => ⟨1, rfl, q⟩
theorem ar_nil : ArgsAre tNil σ H [] := fun Q q => q
theorem ar_cons {tr : TA} (h : ValIs te σ H v) (hr : ArgsAre tr σ H xs) : ArgsAre (tCons te tr) σ H (v :: xs) := fun Q q => h _ (hr _ q)
/-- a call whose arguments are at hand -/
def At (te : TE) (σ : L2.St) (B H : Hp) (P : V → Hp → Prop) : Prop := ∀ Q : VK, (∀ v B2 H2, Go B H B2 H2 → P v B2 → Q v H2) → te σ H Q
theorem at_call {sp : Sp} {E : XK} {tr : TA} {B : Hp} (h : ArgsAre tr σ H xs) (e : Ex B H) (hs : SpP sp (xs ++ []) B P) : At (tCall sp [] E tr) σ B H P := fun Q q => h _ (hs B H (Ex.refl _) e Q q E)
theorem s_appAt {B : Hp} (ho : ValIs to σ H (.ref p)) (ha : At ta σ B H P) (hp : H p = some (.lst xs)) (hl : xs.length ≤ 100000) (k : ∀ v B2 H1, Go B H B2 H1 → P v B2 → D.nx σ (upd H1 p (.lst (xs ++ [v])))) : tDrop (tBM K "list" rAppend to (tCons ta tNil)) D σ H :=
  ho _ ⟨.inl ⟨rfl, xs, sl_of hp⟩, ha _ fun v B2 H2 g2 pv => ⟨p, xs, v, rfl, rfl, g2.ex _ _ hp, Nat.lt_of_le_of_lt hl (by decide), k v B2 H2 g2 pv⟩⟩
/-- len of a dict with tuple keys -/
theorem v_lenD {kvs : List (List Key × V)} (ha : EvV ta σ Hc (.ref p)) (hp : Hc p = some (.dT kvs)) : EvV (tCB rLenT (tCons ta tNil)) σ Hc (vN kvs.length) := fun B H a b Q q =>
  ha B H a b _ fun v B1 H1 g1 e => ⟨p, kvs, by rw [e], g1.sub _ _ (g1.up _ _ (a _ _ hp)), q _ B1 H1 g1 rfl⟩
end
section
variable {P : Program} {w : World} {K : PySem.W.Frag} {mg : Str → Option Value} {base : Heap} {C : Addr} (T : Top K mg C)
include T
theorem cal_goals_of : Cal P w K mg base "goals_of" ["arrangement"] 1 sp_goals_of := by
  refine T.d_goals_of.cal sc_goals_of (fun vs H Q E h => ?_) (fun _ _ _ _ _ _ us hl => match us, hl with | [_], _ => rfl) (fun f cdv A outer s H vs Q E hr h => ?_)
  · obtain ⟨B, n, v, row, g, rfl, _⟩ := h
    rfl
  · obtain ⟨B, n, v, row, g, rfl, ⟨p, rfl, hp⟩, G, ex, qq⟩ := h
    have hlen : (row.map vN).length = n := by rw [List.length_map, G.len]
    have h40 := G.le
    refine ⟨_, (pss_cons (ps_set (i := 1) sc_goals_of.nd rfl (Or.inl rfl) (pe_op op_rep (pe_lst (pa_cons pe_int pa_nil)) (pe_callB call_len_seq (by rfl) T.b_len PySem.boot_len (pa_cons (pv 0) pa_nil))))
    (pss_cons (ps_for PassesOwn.never rfl (pi_enumT (by rfl) T.b_enumerate (pa_cons (pv 0) pa_nil)) (pg_tup rfl (pgs_cons (pg_name (i := 2) sc_goals_of.nd rfl (Or.inl rfl)) (pgs_cons (pg_name (i := 3) sc_goals_of.nd rfl (Or.inl rfl)) pgs_nil)))
      (pss_one (ps_asg (pv 2) (pg_sub (pv 1) (pv 3) set_list))))
    (pss_one (ps_ret (pe_callTy call_tuple_of (by rfl) T.b_tuple (by decide +kernel) (pa_cons (pv 1) pa_nil)))))), ?_⟩
    refine q_asgF (f_rep (n := n) (v := vN 0) (av_cons v_c av_nil) (v_lenT (t_var rfl hp) hlen) (by omega)) ex fun p1 H1 g1 hp1 hp2 => ?_
    have B1 : B p1 = none := ex.none hp1
    let F : Nat → List V := fun i => (List.range n).map fun z => vN (if g z < i then g z else 0)
    have F0 : List.replicate n (vN 0) = F 0 := by
      refine List.ext_getElem? fun i => ?_
      show _ = ((List.range n).map _)[i]?
      rw [List.getElem?_map, List.getElem?_replicate]
      by_cases hi : i < n
      · rw [if_pos hi, List.getElem?_range hi]; rfl
      · rw [if_neg hi, List.getElem?_eq_none (by rw [List.length_range]; omega)]; rfl
    have q_for : ∀ {D : Ends} {σ : L2.St} {wi : TI} {g : TG} {tb tz : TS} {H : Hp}, tFor wi g tb { D with nx := tz D } σ H → tSeq (tFor wi g tb) tz D σ H := fun h => h
    refine q_for (s_for (fun i σ1 B2 H2 => (∃ o1 o2, σ1 = [some (.ref p), some (.ref p1), o1, o2]) ∧ Go B H B2 H2 ∧ B2 p1 = none ∧ H2 p1 = some (.lst (F i))) (i_enum (t_var rfl hp).st) g1.sub (fun B2 H2 g2 => ⟨⟨_, _, rfl⟩, g1.trans g2, g2.off p1 B1 (by rw [hp2]; simp), by rw [← F0]; exact g2.ex _ _ hp2⟩) (fun i σ1 B2 H2 x B3 H3 hi e2 e3 hW g3 hY => ?_) (fun σ1 B2 H2 e2 e3 hW => ?_))
    · obtain ⟨⟨o1, o2, rfl⟩, gg, Bp, hf⟩ := hW
      obtain ⟨Tt, u, rfl, hu, hT⟩ := hY
      rw [hlen] at hi
      refine (g_pair hT (S := fun σ2 B => σ2 = [some (.ref p), some (.ref p1), some (vN i), some u]) fun _ _ => rfl) B3 H3 (Ex.refl _) g3.sub _ fun σ2 B4 H4 g4 e => ?_
      subst e
      obtain ⟨z, hz, hgz, hrz⟩ := G.back hi
      rw [List.getElem?_map, hrz] at hu
      have hu := (Option.some.inj hu).symm
      subst hu
      have g34 := g3.trans g4
      have hf4 := g34.ex _ _ hf
      have Bp4 := g34.off p1 Bp (by rw [hf]; simp)
      refine s_setL (i := z) (v_var rfl) (v_var rfl) (v_var rfl) g34.sub hf4 (by show z < ((List.range n).map _).length; rw [List.length_map, List.length_range]; exact hz) fun H5 g5 => ?_
      have gz := ((gg.trans g34).trans g5).mut (l := p1) (o := .lst ((F i).set z (vN i))) hp1 Bp4
      refine ⟨B4, g34.up, gz.sub, ⟨_, _, rfl⟩, gz, Bp4, ?_⟩
      rw [upd_same]
      congr 2
      refine List.ext_getElem? fun k => ?_
      show ((F i).set z (vN i))[k]? = ((List.range n).map _)[k]?
      rw [List.getElem?_set]
      have hFl : (F i).length = n := by show ((List.range n).map _).length = n; rw [List.length_map, List.length_range]
      by_cases hk : k < n
      · have rhs : ((List.range n).map fun z => vN (if g z < i + 1 then g z else 0))[k]? = some (vN (if g k < i + 1 then g k else 0)) := by rw [List.getElem?_map, List.getElem?_range hk]; rfl
        have lhs : (F i)[k]? = some (vN (if g k < i then g k else 0)) := by
          show ((List.range n).map fun z => vN (if g z < i then g z else 0))[k]? = _
          rw [List.getElem?_map, List.getElem?_range hk]; rfl
        rw [rhs, lhs]
        by_cases hzk : z = k
        · subst hzk
          rw [if_pos rfl, if_pos (by rw [hFl]; exact hz), hgz, if_pos (by omega)]
        · rw [if_neg hzk]
          have : g k ≠ i := fun e => hzk (by
            have h1 := G.at_ k hk
            rw [e, hrz] at h1
            exact Option.some.inj h1)
          by_cases hl : g k < i
          · rw [if_pos hl, if_pos (by omega)]
          · rw [if_neg hl, if_neg (by omega)]
      · have hzk : z ≠ k := by omega
        rw [if_neg hzk, List.getElem?_eq_none (by rw [hFl]; omega), List.getElem?_eq_none (by rw [List.length_map, List.length_range]; omega)]
    · obtain ⟨⟨o1, o2, rfl⟩, gg, Bp, hf⟩ := hW
      rw [hlen] at hf
      refine s_retF (f_tupOf (l_var rfl hf)) (Ex.refl _) fun p3 H3 g3 h1 h2 => ?_
      have gz := ((gg.trans (g3.hid e3))).shown h2 (gg.there _ h1)
      refine qq _ _ _ gz ⟨p3, rfl, ?_⟩
      rw [upd_same, List.map_map]
      congr 2
      show (List.range n).map _ = (List.range n).map _
      refine List.map_congr_left fun z hz => ?_
      show vN (if g z < n then g z else 0) = vN (g z)
      rw [if_pos (G.lt (List.mem_range.mp hz))]
theorem cal_inversions_of : Cal P w K mg base "inversions_of" ["arrangement"] 2 sp_inversions_of := by
  refine T.d_inversions_of.cal sc_inversions_of (fun vs H Q E h => ?_) (fun _ _ _ _ _ _ us hl => match us, hl with | [_], _ => rfl) (fun f cdv A outer s H vs Q E hr h => ?_)
  · obtain ⟨B, n, v, row, g, rfl, _⟩ := h
    rfl
  · obtain ⟨B, n, v, row, g, rfl, hrow, G, ex, qq⟩ := h
    have h40 := G.le
    refine ⟨_, (pss_cons (ps_set (i := 1) sc_inversions_of.nd rfl (by first | exact Or.inl rfl | exact Or.inr rfl) ((cal_goals_of T).pe hr (by decide) rfl (pa_cons (pv 0) pa_nil)))
    (pss_cons (ps_set (i := 2) sc_inversions_of.nd rfl (by first | exact Or.inl rfl | exact Or.inr rfl) (pe_callB call_len_seq (by rfl) T.b_len PySem.boot_len (pa_cons (pv 1) pa_nil)))
    (pss_one (ps_ret (pe_callTy call_tuple_of (by rfl) T.b_tuple (by decide +kernel) (pa_cons (pe_lc2 (tt1 := tTest (tOp (rI0 fun i j => .bl (decide (j < i))) (tOp (rIxT K) (tVar 1) (tVar 3)) (tOp (rIxT K) (tVar 1) (tVar 4)))) (own := [("x", 3), ("z", 4)]) (vs1 := [4]) rfl sc_inversions_of.nd (pi_range1 (by rfl) T.b_range (pa_cons (pv 2) pa_nil)) (blkOk_by (own := [("x", 3), ("z", 4)]) (N := N_inversions_of) (sc := defScope s_inversions_of) (by decide +kernel)) (by decide) (fun _ _ _ _ _ => (pg_name (i := 3) sc_inversions_of.nd rfl (Or.inl rfl))) (fun _ _ _ _ _ => pts_nil) (fun _ _ _ _ _ => (pi_range2 (by rfl) T.b_range (pa_cons (pe_op op_add (pv 3) pe_int) (pa_cons (pv 2) pa_nil)))) (fun _ _ _ _ _ => (pg_name (i := 4) sc_inversions_of.nd rfl (Or.inl rfl))) (fun _ _ _ _ _ => (pts_one (pt_cmpR op_gt (pe_ix ix_tup (pv 1) (pv 3) (fun _ _ => rfl)) (pe_ix ix_tup (pv 1) (pv 4) (fun _ _ => rfl)) (nomark _)))) (fun _ _ _ _ _ => (pe_tup (pa_cons (pv 3) (pa_cons (pv 4) pa_nil))))) pa_nil)))))), ?_⟩
    refine q_asg (P := fun u B => IsRow B u ((List.range n).map g)) (e_call (av_cons (v_var rfl) av_nil) fun vs B' e5 e => ?_) ex fun v1 B1 H1 g1 h1 => ?_
    · rw [e]
      exact fun B1 H1 a b Q q E => ⟨B1, n, v, row, g, rfl, hrow.up (e5.trans a), G, b, fun v2 B2 H2 g h => q _ B2 H2 g h⟩
    obtain ⟨p, rfl, hp⟩ := h1
    have hlen : (((List.range n).map g).map vN).length = n := by rw [List.length_map, List.length_map, List.length_range]
    have hat : ∀ i, i < n → (((List.range n).map g).map vN)[i]? = some (vN (g i)) := fun i hi => by rw [List.getElem?_map, List.getElem?_map, List.getElem?_range hi]; rfl
    refine q_asg (v_lenT (n := n) (t_var rfl hp) hlen) g1.sub fun v2 B2 H2 g2 e2 => ?_
    subst e2
    have hp2 := g2.up _ _ hp
    refine s_ret (P := fun u B => ∃ a vs, u = .ref a ∧ B a = some (.tup vs) ∧ Seq2 (IsPr B) vs (Sw.invList g n)) (e_tupOfP (PL := fun vs B => Seq2 (IsPr B) vs (Sw.invList g n)) ?_ fun vs B B' e h => h.imp fun _ _ h => h.up e) g2.sub fun v3 B3 H3 g3 h3 => qq _ _ _ ((g1.trans g2).trans g3) h3
    refine e_lc2 (n := n) (Y := fun i x _ => x = vN i) (Y1 := fun i j x _ => x = vN (i + 1 + j)) (fun i => n - (i + 1)) (fun i j => decide (g (i + 1 + j) < g i)) (fun i j => (i, i + 1 + j)) (fun c v B => IsPr B v c) (i_rng1 (m := n) (av_cons (v_var rfl) av_nil) (by omega)) (by omega) (fun i hi => by omega) (fun i x B' hi e5 hx => g_name fun B6 e6 => ⟨rfl, t_yes, i_rng2 (lo := i + 1) (hi := n) (av_cons (v_addN (v_var (by rw [hx]; rfl)) (v_c (v := .int (1 : Nat)))) (av_cons (v_var rfl) av_nil)) (by omega) (by omega), fun j x1 B7 hj e7 hx1 => g_name fun B8 e8 => ⟨rfl, ?_, fun _ => ?_⟩⟩) (fun c v B B' e h => h.up e) fun p3 xs B e3 h3 h4 => ⟨p3, xs, rfl, h3, h4⟩
    · subst hx hx1
      have hp8 := (e5.trans (e6.trans (e7.trans e8))) _ _ hp2
      refine EvT.is (t_test (v_I0 (v_ixT (t_var rfl hp8) (v_var rfl) (atI_nat (hat i hi))) (v_ixT (t_var rfl hp8) (v_var rfl) (atI_nat (hat (i + 1 + j) (by omega)))))) (decide_eq_decide.mpr (by omega))
    · subst hx hx1
      exact (e_tupV (xs := [vN i, vN (i + 1 + j)]) (av_cons (v_var rfl) (av_cons (v_var rfl) av_nil)) (by simp)).wk fun u B _ ⟨p, h1, h2⟩ => ⟨p, h1, h2⟩
theorem cal_all_choices : Cal P w K mg base "all_choices" ["item", "last"] 1 sp_all_choices := by
  refine T.d_all_choices.cal sc_all_choices (fun vs H Q E h => ?_) (fun _ _ _ _ _ _ us hl => match us, hl with | [_, _], _ => rfl) (fun f cdv A outer s H vs Q E hr h => ?_)
  · obtain ⟨B, x, w, rfl, _⟩ := h
    rfl
  · obtain ⟨B, x, w, rfl, ⟨h40x, h40⟩, ex, qq⟩ := h
    refine ⟨_, (pss_one (ps_ret (pe_lc2 (wi1 := iTup K (tTup (tCons (tC (.str "left")) (tCons (tC (.str "stay")) tNil)))) (own := [("y", 2), ("way", 3)]) (vs1 := [3]) rfl sc_all_choices.nd (pi_range2 (by rfl) T.b_range (pa_cons (pe_op op_add (pv 0) pe_int) (pa_cons (pv 1) pa_nil))) (blkOk_by (own := [("y", 2), ("way", 3)]) (N := N_all_choices) (sc := defScope s_all_choices) (by decide +kernel)) (by decide) (fun _ _ _ _ _ => (pg_name (i := 2) sc_all_choices.nd rfl (Or.inl rfl))) (fun _ _ _ _ _ => pts_nil) (fun _ _ _ _ _ => (pi_tup (pe_tup (pa_cons (pe_gl (v := .str "left") T.g_LEFT (fun t => ⟨t, rfl⟩) rfl) (pa_cons (pe_gl (v := .str "stay") T.g_STAY (fun t => ⟨t, rfl⟩) rfl) pa_nil))))) (fun _ _ _ _ _ => (pg_name (i := 3) sc_all_choices.nd rfl (Or.inl rfl))) (fun _ _ _ _ _ => pts_nil) (fun _ _ _ _ _ => (pe_tup (pa_cons (pv 2) (pa_cons (pv 3) pa_nil))))))), ?_⟩
    refine s_ret (P := fun u B => ∃ a vs, u = .ref a ∧ B a = some (.lst vs) ∧ Seq2 (IsC B) vs (Sw.allCh x w)) ?_ ex fun v3 B3 H3 g3 h3 => qq _ _ _ g3 h3
    refine e_lc2 (n := w - (x + 1)) (Y := fun i v _ => v = vN (x + 1 + i)) (Y1 := fun i j v _ => v = .str (word (j == 0)) ) (fun i => 2) (fun i j => true) (fun i j => (x + 1 + i, j == 0)) (fun c v B => IsC B v c) (i_rng2 (lo := x + 1) (hi := w) (av_cons (v_addN (v_var rfl) (v_c (v := .int (1 : Nat)))) (av_cons (v_var rfl) av_nil)) (by omega) (by omega)) (by omega) (fun i hi => by omega) (fun i v B' hi e5 hx => g_name fun B6 e6 => ⟨rfl, t_yes, (i_tup (e_tupV (xs := [.str "left", .str "stay"]) (av_cons v_c (av_cons v_c av_nil)) (by simp)).st).wk ?_, fun j x1 B7 hj e7 hx1 => g_name fun B8 e8 => ⟨rfl, t_yes, fun _ => ?_⟩⟩) (fun c v B B' e h => h.up e) fun p3 xs B e3 h3 h4 => ⟨p3, xs, rfl, h3, ?_⟩
    · intro j v B7 hj _ hv
      match j, hj with
      | 0, _ => exact (Option.some.inj hv).symm
      | 1, _ => exact (Option.some.inj hv).symm
    · subst hx hx1
      exact (e_tupV (xs := [vN (x + 1 + i), .str (word (j == 0))]) (av_cons (v_var rfl) (av_cons (v_var rfl) av_nil)) (by simp)).wk fun u B _ ⟨p, h1, h2⟩ => ⟨p, h1, h2⟩
    · exact h4
end
end Sk

/-! sequence_to, arrangement_for. -/
namespace Sk
open PySem PySem.Spec PyProof.Rows L2
section
variable {K : PySem.W.Frag} {σ : L2.St} {Hc H : Hp} {ta tb tl : TE} {P1 : V → Hp → Prop} {D : Ends} {tz tb' : TS} {i j : Nat} {o : HO} {wi : TI} {g : TG}
theorem i_tupS {α : Type} {L : List α} {Pv : Hp → V → α → Prop} (up : ∀ B B' v c, Ex B B' → Pv B v c → Pv B' v c) (hl : EvP tl σ Hc fun u B => ∃ p xs, u = .ref p ∧ B p = some (.tup xs) ∧ Seq2 (Pv B) xs L) : EvI (iTup K tl) σ Hc L.length fun i x B => ∃ c, L[i]? = some c ∧ Pv B x c := fun B H a b R q =>
  hl B H a b _ fun v B1 H1 g1 ⟨p, xs, e, hp, hs⟩ => ⟨p, e, ⟨xs, st_of (g1.sub _ _ hp)⟩, q _ B1 H1 g1
    ⟨fun i H hi h => ⟨xs, xs[i]'(by rw [hs.len]; exact hi), st_of (h _ _ hp), List.getElem?_eq_getElem _⟩, fun H h => ⟨xs, st_of (h _ _ hp), by rw [hs.len]; exact Nat.le_refl _⟩, fun i B2 H x H' hi h1 h2 y => by
      obtain ⟨e1, e2⟩ := y
      subst e1
      obtain ⟨c, h3, h4⟩ := hs.back (e2 xs (st_of ((h1.trans h2) _ _ hp)))
      exact ⟨B2, .refl h2, c, h3, up _ _ _ _ h1 h4⟩⟩⟩
theorem i_lstS {α : Type} {L : List α} {Pv : Hp → V → α → Prop} (up : ∀ B B' v c, Ex B B' → Pv B v c → Pv B' v c) (hl : EvP tl σ Hc fun u B => ∃ p xs, u = .ref p ∧ B p = some (.lst xs) ∧ Seq2 (Pv B) xs L) : EvI (iList K tl) σ Hc L.length fun i x B => ∃ c, L[i]? = some c ∧ Pv B x c := fun B H a b R q =>
  hl B H a b _ fun v B1 H1 g1 ⟨p, xs, e, hp, hs⟩ => ⟨p, e, ⟨xs, sl_of (g1.sub _ _ hp)⟩, q _ B1 H1 g1
    ⟨fun i H hi h => ⟨xs, xs[i]'(by rw [hs.len]; exact hi), sl_of (h _ _ hp), List.getElem?_eq_getElem _⟩, fun H h => ⟨xs, sl_of (h _ _ hp), by rw [hs.len]; exact Nat.le_refl _⟩, fun i B2 H x H' hi h1 h2 y => by
      obtain ⟨e1, e2⟩ := y
      subst e1
      obtain ⟨c, h3, h4⟩ := hs.back (e2 xs (sl_of ((h1.trans h2) _ _ hp)))
      exact ⟨B2, .refl h2, c, h3, up _ _ _ _ h1 h4⟩⟩⟩
theorem q_parF (h1 : EvP ta σ Hc P1) (h2 : ∀ v B, Ex Hc B → P1 v B → EvF tb σ B o) (e : Ex Hc H) (k : ∀ v p B1 H2, Go Hc H B1 H2 → P1 v B1 → H p = none → B1 p = none → H2 p = some o → tz D ((σ.set i (some v)).set j (some (.ref p))) H2) : tSeq (tPar i j (tCons ta (tCons tb tNil))) tz D σ H :=
  h1 Hc H (Ex.refl _) e _ fun v B1 H1 g1 p1 => h2 v B1 g1.up p1 B1 H1 (Ex.refl _) g1.sub _ fun p H2 g2 hn hp => ⟨v, _, rfl, k v p B1 H2 (g1.trans g2) p1 (g1.there _ hn) (g1.sub.none hn) hp⟩
theorem q_for {n : Nat} {Y : Nat → V → Hp → Prop} (W : Nat → L2.St → Hp → Hp → Prop) (hi : EvI wi σ Hc n Y) (e : Ex Hc H) (h0 : ∀ B H1, Go Hc H B H1 → W 0 σ B H1)
    (step : ∀ i σ1 B1 H1 x B2 H2, i < n → Ex Hc B1 → Ex B1 H1 → W i σ1 B1 H1 → Go B1 H1 B2 H2 → Y i x B2 → g x σ1 H2 (tb' { D with nx := Nxt (W (i + 1)) B1, ct := Nxt (W (i + 1)) B1, bk := tz D }))
    (done : ∀ σ1 B1 H1, Ex Hc B1 → Ex B1 H1 → W n σ1 B1 H1 → tz D σ1 H1) : tSeq (tFor wi g tb') tz D σ H := s_for (D := { D with nx := tz D }) W hi e h0 step done
theorem q_while {t : TT} {B0 : Hp} (W : Nat → L2.St → Hp → Hp → Prop) {m0 : Nat} (e : Ex B0 H) (h0 : W m0 σ B0 H)
    (step : ∀ m σ1 B1 H1, Ex B0 B1 → Ex B1 H1 → W m σ1 B1 H1 → ∃ b, EvT t σ1 H1 b ∧ (b = false → ∀ H2, Go B1 H1 B1 H2 → tz D σ1 H2) ∧
      (b = true → ∀ H2, Go B1 H1 B1 H2 → tb' { D with nx := fun σ2 H3 => ∃ m', m' < m ∧ Nxt (W m') B1 σ2 H3, ct := fun σ2 H3 => ∃ m', m' < m ∧ Nxt (W m') B1 σ2 H3, bk := tz D } σ1 H2)) : tSeq (tWhile t tb') tz D σ H := s_while (D := { D with nx := tz D }) W e h0 step
end
theorem len_pairs (n : Nat) : ∀ m, ((List.range m).flatMap fun u => (List.range n).map fun v => (u, v)).length = m * n
  | 0 => by simp
  | m + 1 => by
    rw [List.range_succ, List.flatMap_append, List.length_append, len_pairs n m, Nat.succ_mul]
    simp
abbrev prK (c : Nat × Nat) : List Key := [.inl (c.1 : Int), .inl (c.2 : Int)]
theorem prK_inj {c d : Nat × Nat} (h : prK c = prK d) : c = d := by
  obtain ⟨a, b⟩ := c
  obtain ⟨a', b'⟩ := d
  injection h with h1 h2
  injection h2 with h2 _
  have h1 := Int.ofNat.inj (Sum.inl.inj h1)
  have h2 := Int.ofNat.inj (Sum.inl.inj h2)
  have h1 : a = a' := h1
  have h2 : b = b' := h2
  rw [h1, h2]
def sp_sequence_to : Sp := fun vs H Q _ => ∃ (B : Hp) (n x q w : Nat) (rk : Nat → Nat → Nat) (σ : Nat → Bool) (v : V), vs = [v] ∧ IsRow B v (Sw.arr n x w σ) ∧ Sw.Ways n rk x q w σ ∧ n ≤ 40 ∧ Ex B H ∧ ∀ v1 B1 H1 seq, Go B H B1 H1 → IsRow B1 v1 seq → Sw.Valid n rk seq → Sw.it (Sw.rowAfter n seq) q = x → seq.length ≤ 2000 → Q v1 H1
def sp_arrangement_for : Sp := fun vs H Q _ => ∃ (B : Hp) (n x q w : Nat) (τ : Nat → Bool) (pd : Addr) (kvs : List (Key × V)), vs = [vN n, vN x, vN q, vN w, .ref pd] ∧ B pd = some (.dK kvs) ∧ (∀ y, x < y → y < w → valV kvs (.inl (y : Int)) = some (.str (word (τ y)))) ∧ (x < w ∧ w < n ∧ n ≤ 40) ∧ Ex B H ∧ ∀ v1 B1 H1, Go B H B1 H1 → IsRow B1 v1 (Sw.arr n x w τ) → Q v1 H1
section
variable {P : Program} {w : World} {K : PySem.W.Frag} {mg : Str → Option Value} {base : Heap} {C : Addr} (T : Top K mg C)
include T
theorem cal_sequence_to : Cal P w K mg base "sequence_to" ["arrangement"] 3 sp_sequence_to := by
  refine T.d_sequence_to.cal sc_sequence_to (fun vs H Q E h => ?_) (fun _ _ _ _ _ _ us hl => match us, hl with | [_], _ => rfl) (fun f cdv A outer s H vs Q E hr h => ?_)
  · obtain ⟨B, n, x, q, w, rk, τ, v, rfl, _⟩ := h
    rfl
  · obtain ⟨B, n, x, q, w, rk, τ, v, rfl, hrow, W, h40, ex, qq⟩ := h
    have hu := hu_of hr
    have hxq := W.xq
    have hqw := W.qw
    have hwn := W.wn
    have G : Arr n (Sw.arr n x w τ) (Sw.goal x q w τ) := ⟨by omega, h40, W.arr_len.1, fun z hz => W.arr_goal hz⟩
    refine ⟨_, (pss_cons (ps_setDcT (i := 1) hu (own := [("pair", 2)]) rfl sc_sequence_to.nd rfl rfl (swD_true rfl rfl rfl (by decide +kernel)) (pi_tup ((cal_inversions_of T).pe hr (by decide) rfl (pa_cons (pv 0) pa_nil))) (blkOk_by (own := [("pair", 2)]) (N := N_sequence_to) (sc := defScope s_sequence_to) (by decide +kernel)) (fun _ _ _ _ _ => (pg_name (i := 2) sc_sequence_to.nd rfl (Or.inl rfl))) (fun _ _ _ _ _ => pts_nil) (fun _ _ _ _ _ => (pv 2)) (fun _ _ _ _ _ => pe_bl))
    (pss_cons (ps_par (i := 3) (j := 4) (by rfl) sc_sequence_to.nd rfl rfl (by decide) rfl rfl (pa_cons (pe_tupRg rfl (by rfl) T.b_tuple (prg_1 (by rfl) T.b_range (pe_callB call_len_seq (by rfl) T.b_len PySem.boot_len (pa_cons (pv 0) pa_nil)))) (pa_cons (pe_lst pa_nil) pa_nil)) (by rfl))
    (pss_cons (ps_while PassesOwn.never (pt_cmpR op_lt (pe_callB call_len_seq (by rfl) T.b_len PySem.boot_len (pa_cons (pv 4) pa_nil)) (pe_callB call_len_dT (by rfl) T.b_len PySem.boot_len (pa_cons (pv 1) pa_nil)) (nomark _))
      (pss_one (ps_for PassesOwn.never rfl (pi_range1 (by rfl) T.b_range (pa_cons (pe_op op_sub (pe_callB call_len_seq (by rfl) T.b_len PySem.boot_len (pa_cons (pv 3) pa_nil)) pe_int) pa_nil)) (pg_name (i := 5) sc_sequence_to.nd rfl (Or.inl rfl))
        (pss_one (ps_if (pt_cmp (pc_din hu (pe_slice sl_tupA (pv 3) (po_some (pv 5)) (po_some (pe_op op_add (pv 5) pe_int))) (pv 1))) (pss_cons (ps_set (i := 3) sc_sequence_to.nd rfl (Or.inl rfl) ((cal_swapped T).pe hr (by decide) rfl (pa_cons (pv 3) (pa_cons (pv 5) pa_nil))))
          (pss_one (ps_expr (pe_bm PySem.F.plainAttrs_list PySem.F.slot_list_append PySem.F.type_list_append mt_append (pv 4) (pa_cons (pv 5) pa_nil))))) pss_nil)))))
    (pss_one (ps_ret (pe_callTy call_tuple_of (by rfl) T.b_tuple (by decide +kernel) (pa_cons (pv 4) pa_nil))))))), ?_⟩
    generalize hL : Sw.invList (Sw.goal x q w τ) n = L
    have hnd : L.Nodup := by rw [← hL]; exact Sw.invList_nodup
    have hLle : L.length ≤ 2000 := by
      have h1 := Sw.nodup_len hnd (m := (List.range n).flatMap fun u => (List.range n).map fun v => (u, v)) fun c hc => by
        obtain ⟨u, v⟩ := c
        rw [← hL] at hc
        obtain ⟨h1, h2, _⟩ := Sw.invList_mem.mp hc
        exact List.mem_flatMap.mpr ⟨u, List.mem_range.mpr (by omega), List.mem_map.mpr ⟨v, List.mem_range.mpr h2, rfl⟩⟩
      have h2 : ((List.range n).flatMap fun u => (List.range n).map fun v => (u, v)).length = n * n := len_pairs n n
      have h3 : n * n ≤ 40 * 40 := Nat.mul_le_mul h40 h40
      omega
    refine q_asg (P := fun u B => ∃ p kvs, u = .ref p ∧ B p = some (.dT kvs) ∧ kvs.length = L.length ∧ ∀ c, (valV kvs (prK c)).isSome = decide (c ∈ L)) ?_ ex fun v1 B1 H1 g1 ⟨pd, kvs, e1, hd, hkl, hdin⟩ => ?_
    · refine e_dcT (n := L.length) (Y := fun i x B => ∃ c, L[i]? = some c ∧ IsPr B x c) (fun i => prK (L.getD i (0, 0))) (fun i v _ => v = .bl true) (i_tupS (fun _ _ _ _ e h => h.up e) (e_call (av_cons (v_var rfl) av_nil) fun vs B' e5 e => ?_)) (by omega) (fun i j hi hj e => ?_) (fun i x B hi e ⟨c, hc, hx⟩ => g_name fun B6 e6 => ⟨rfl, t_yes, e_var rfl fun B7 e7 => ?_, v_c⟩) (fun _ _ _ _ _ _ h => h) fun p kvs B e h1 h2 h3 => ⟨p, kvs, rfl, h1, ?_, fun c => ?_⟩
      · rw [e]
        exact fun B1 H1 a b Q q E => ⟨B1, n, v, _, _, rfl, hrow.up (e5.trans a), G, b, fun v2 B2 H2 g h => q _ B2 H2 g (by rw [← hL]; exact h)⟩
      · have e := prK_inj e
        rw [List.getD_eq_getElem?_getD, List.getD_eq_getElem?_getD, List.getElem?_eq_getElem hi, List.getElem?_eq_getElem hj] at e
        have e : L[i] = L[j] := e
        rcases Nat.lt_trichotomy i j with c | c | c
        · exact absurd e (List.pairwise_iff_getElem.mp hnd _ _ hi hj c)
        · exact c
        · exact absurd e.symm (List.pairwise_iff_getElem.mp hnd _ _ hj hi c)
      · rw [List.getD_eq_getElem?_getD, hc]
        exact hx.up (e6.trans e7)
      · have := congrArg List.length h2
        rw [List.length_map, List.length_map, List.length_range] at this
        exact this
      · by_cases hc : c ∈ L
        · obtain ⟨i, hi, e⟩ := List.getElem_of_mem hc
          obtain ⟨v, hv, _⟩ := h3 i hi
          rw [List.getD_eq_getElem?_getD, List.getElem?_eq_getElem hi] at hv
          have hv : valV kvs (prK L[i]) = some v := hv
          rw [e] at hv
          rw [hv, decide_eq_true hc]; rfl
        · rw [decide_eq_false hc, valV_none]
          · rfl
          · rw [h2]
            intro hm
            obtain ⟨i, hi, e⟩ := List.mem_map.mp hm
            have hi := List.mem_range.mp hi
            have e := prK_inj e
            rw [List.getD_eq_getElem?_getD, List.getElem?_eq_getElem hi] at e
            exact hc (e ▸ List.getElem_mem hi)
    subst e1
    obtain ⟨pa, rfl, hpa⟩ := hrow.up g1.up
    have hlen : ((Sw.arr n x w τ).map vN).length = n := by rw [List.length_map, G.len]
    refine q_parF (P1 := fun u B => IsRow B u (List.range n)) (o := .lst []) ((e_tupRg1 (n := n) (v_lenT (t_var rfl hpa) hlen) (by omega)).wk fun u B _ ⟨p, h1, h2⟩ => ⟨p, h1, h2⟩) (fun _ B2 _ _ => f_lst av_nil (by simp)) g1.sub fun hv0 pf Bs Hs gs hrow0 hfn Bf hf => ?_
    have gs0 := g1.trans gs
    have H0f : H pf = none := g1.there _ hfn
    refine q_while (B0 := Bs) (m0 := L.length) (fun m σ1 B1 H1 => ∃ row fnd hv o2 o5, σ1 = [some (.ref pa), some (.ref pd), o2, some hv, some (.ref pf), o5] ∧ Go B H B1 H1 ∧ IsRow B1 hv row ∧ B1 pf = none ∧ H1 pf = some (.lst (fnd.map vN)) ∧ Sw.Going n rk (Sw.goal x q w τ) row fnd ∧ m = L.length - fnd.length) gs.sub ⟨List.range n, [], hv0, none, none, rfl, gs0, hrow0, Bf, hf, Sw.Going.start, rfl⟩ fun m σ1 B1 H1 e1 e2 hW => ?_
    obtain ⟨row, fnd, hv, o2, o5, rfl, gg, hrow1, Bf1, hf1, hG, rfl⟩ := hW
    have hd1 : H1 pd = some (.dT kvs) := e2 _ _ (e1 _ _ (gs.up _ _ hd))
    have hfl : fnd.length ≤ L.length := by rw [← hL]; exact hG.le
    refine ⟨decide (fnd.length < L.length), EvT.is (t_test (v_I0 (v_lenL (n := fnd.length) (l_var rfl hf1) (List.length_map _)) (v_lenD (v_var rfl) hd1))) (decide_eq_decide.mpr (by rw [hkl]; omega)), fun hb H2 g2 => ?_, fun hb H2 g2 => ?_⟩
    · have hb := of_decide_eq_false hb
      obtain ⟨h1, h2, h3⟩ := hG.brings W (by rw [hL]; omega)
      have hf2 := g2.ex _ _ hf1
      refine s_retF (f_tupOf (l_var rfl hf2)) (Ex.refl _) fun p3 H3 g3 hn3 hp3 => ?_
      have gz := (((gg.trans g2).trans (g3.hid g2.sub))).shown hp3 ((gg.trans g2).there _ hn3)
      exact qq _ _ _ fnd gz ⟨p3, rfl, upd_same⟩ h1 (by rw [← h2]; exact h3) (by omega)
    · have hb := of_decide_eq_true hb
      obtain ⟨ph, rfl, hph⟩ := id hrow1
      have hrl := hG.len
      refine s_for (Hc := B1) (fun i σ2 B3 H3 => ∃ row' fnd' hv' o2 o5, σ2 = [some (.ref pa), some (.ref pd), o2, some hv', some (.ref pf), o5] ∧ Go B H B3 H3 ∧ IsRow B3 hv' row' ∧ B3 pf = none ∧ H3 pf = some (.lst (fnd'.map vN)) ∧ Sw.Going n rk (Sw.goal x q w τ) row' fnd' ∧ fnd.length ≤ fnd'.length ∧ (fnd'.length = fnd.length → row' = row ∧ ∀ p, p < i → (Sw.it row p, Sw.it row (p + 1)) ∉ L))
        (i_rng1 (m := n - 1) (av_cons (v_subN (k := n - 1) (j := 1) (v_lenT (n := n) (t_var rfl hph) (by rw [List.length_map, hrl])) v_c (by omega)) av_nil) (by omega)) g2.sub (fun B3 H3 g3 => ⟨row, fnd, _, _, _, rfl, (gg.trans g2).trans g3, hrow1.up g3.up, g3.off pf Bf1 (by rw [g2.ex _ _ hf1]; simp), g3.ex _ _ (g2.ex _ _ hf1), hG, Nat.le_refl _, fun _ => ⟨rfl, fun p h => absurd h (Nat.not_lt_zero _)⟩⟩) (fun i σ2 B3 H3 v B4 H4 hi e3 e4 hW g4 hv => ?_) (fun σ2 B3 H3 e3 e4 hW => ?_)
      · obtain ⟨row', fnd', hv', o2', o5', rfl, gg3, hrow3, Bf3, hf3, hG3, hle, hsame⟩ := hW
        subst hv
        have hrl3 := hG3.len
        obtain ⟨ph3, rfl, hph3⟩ := id hrow3
        have hf4 := g4.ex _ _ hf3
        have Bf4 := g4.off pf Bf3 (by rw [hf3]; simp)
        have hph4 := g4.up _ _ hph3
        have hd4 : B4 pd = some (.dT kvs) := (e1.trans (e3.trans g4.up)) _ _ (gs.up _ _ hd)
        have hcut : cutV (row'.map vN) (some (i : Int)) (some ((i + 2 : Nat) : Int)) = [vN (Sw.it row' i), vN (Sw.it row' (i + 1))] := by
          rw [cut_mid (by omega) (by rw [List.length_map]; omega)]
          have e2 : i + 2 - i = 2 := by omega
          rw [e2]
          refine List.ext_getElem? fun k => ?_
          rw [List.getElem?_take, List.getElem?_drop, List.getElem?_map]
          match k with
          | 0 => rw [if_pos (by omega), Sw.of_it (by omega : i + 0 < row'.length)]; rfl
          | 1 => rw [if_pos (by omega), Sw.of_it (by omega : i + 1 < row'.length)]; rfl
          | k + 2 => rw [if_neg (by omega)]; rfl
        refine s_if (t_B (v_dinT (k := prK (Sw.it row' i, Sw.it row' (i + 1))) ((e_slA (t_var rfl hph4) (o_some (i := (i : Nat)) (v_var rfl)) (o_some (i := ((i + 2 : Nat) : Int)) (v_addN (v_var rfl) (v_c (v := .int (2 : Nat))))) hcut).wk fun u B _ ⟨p, h1, h2⟩ => ⟨p, h1, h2⟩) (v_var rfl) (.inl hd4))) g4.sub (fun z B5 H5 g5 => ?_) (fun z B5 H5 g5 => ?_)
        · rw [hdin] at z
          have hin := of_decide_eq_true z
          refine q_asg (P := fun u B => IsRow B u (Sw.swapL row' i)) (e_call (av_cons (v_var rfl) (av_cons (v_var rfl) av_nil)) fun vs B' e5 e => ?_) g5.sub fun v6 B6 H6 g6 h6 => ?_
          · rw [e]
            exact fun B1 H1 a b Q q E => ⟨B1, i, _, row', rfl, hrow3.up (g4.up.trans (g5.up.trans (e5.trans a))), by omega, by omega, b, fun v2 B2 H2 g h => q _ B2 H2 g h⟩
          have hf6 := g6.ex _ _ (g5.ex _ _ hf4)
          have Bf6 := g6.off pf (g5.off pf Bf4 (by rw [hf4]; simp)) (by rw [g5.ex _ _ hf4]; simp)
          refine s_app (P := fun u _ => u = vN i) (v_var rfl) (v_var rfl) g6.sub hf6 (by rw [List.length_map]; have := hG3.le; rw [hL] at this; omega) fun v7 B7 H7 g7 ev => ?_
          subst ev
          have Bf7 := g7.off pf Bf6 (by rw [hf6]; simp)
          have gz := (gg3.trans (g4.trans (g5.trans (g6.trans g7)))).mut (l := pf) (o := .lst (fnd'.map vN ++ [vN i])) H0f Bf7
          refine ⟨B7, g4.up.trans (g5.up.trans (g6.up.trans g7.up)), gz.sub, Sw.swapL row' i, fnd' ++ [i], _, _, _, rfl, gz, h6.up g7.up, Bf7, by rw [upd_same, List.map_append]; rfl, hG3.next W (by omega) (by rw [hL]; exact hin), by rw [List.length_append]; omega, fun h => ?_⟩
          rw [List.length_append, List.length_singleton] at h
          omega
        · rw [hdin] at z
          have hnin := of_decide_eq_false z
          refine ⟨B5, g4.up.trans g5.up, g5.sub, row', fnd', _, _, _, rfl, gg3.trans (g4.trans g5), hrow3.up (g4.up.trans g5.up), g5.off pf Bf4 (by rw [hf4]; simp), g5.ex _ _ hf4, hG3, hle, fun h => ?_⟩
          obtain ⟨h1, h2⟩ := hsame h
          subst h1
          refine ⟨rfl, fun p hp => ?_⟩
          by_cases hpi : p = i
          · subst hpi; exact hnin
          · exact h2 p (by omega)
      · obtain ⟨row', fnd', hv', o2', o5', rfl, gg3, hrow3, Bf3, hf3, hG3, hle, hsame⟩ := hW
        have hlt : fnd.length < fnd'.length := by
          refine Nat.lt_of_le_of_ne hle fun h => ?_
          obtain ⟨h1, h2⟩ := hsame h.symm
          refine hG.more W (by rw [hL]; exact hb) fun p hp => ?_
          rw [hL]
          exact h2 p (by omega)
        exact ⟨L.length - fnd'.length, by omega, B3, e3, e4, row', fnd', hv', _, _, rfl, gg3, hrow3, Bf3, hf3, hG3, rfl⟩
theorem cal_arrangement_for : Cal P w K mg base "arrangement_for" ["size", "item", "person", "last", "chosen"] 1 sp_arrangement_for := by
  refine T.d_arrangement_for.cal sc_arrangement_for (fun vs H Q E h => ?_) (fun _ _ _ _ _ _ us hl => match us, hl with | [_, _, _, _, _], _ => rfl) (fun f cdv A outer s H vs Q E hr h => ?_)
  · obtain ⟨B, n, x, q, w, τ, pd, kvs, rfl, _⟩ := h
    rfl
  · obtain ⟨B, n, x, q, w, τ, pd, kvs, rfl, hd, hall, ⟨hxw, hwn, h40⟩, ex, qq⟩ := h
    have hu := hu_of hr
    refine ⟨_, (pss_cons (ps_set (i := 5) sc_arrangement_for.nd rfl (Or.inl rfl) (pe_op op_cat (pe_lc (own := [("y", 6)]) rfl sc_arrangement_for.nd (pi_range2 (by rfl) T.b_range (pa_cons (pe_op op_add (pv 1) pe_int) (pa_cons (pv 3) pa_nil))) (blkOk_by (own := [("y", 6)]) (N := N_arrangement_for) (sc := defScope s_arrangement_for) (by decide +kernel)) (fun _ _ _ _ _ => (pg_name (i := 6) sc_arrangement_for.nd rfl (Or.inl rfl))) (fun _ _ _ _ _ => (pts_one (pt_cmpR op_eq (pe_dget hu (pv 4) (pv 6) (fun _ _ => rfl)) (pe_gl (v := .str "left") T.g_LEFT (fun t => ⟨t, rfl⟩) rfl) (nomark _)))) (fun _ _ _ _ _ => (pv 6))) (pe_lst (pa_cons (pv 3) pa_nil))))
    (pss_cons (ps_setLc (i := 7) (own := [("y", 6)]) rfl sc_arrangement_for.nd rfl rfl (sw_true rfl rfl rfl (by decide +kernel)) (pi_range2 (by rfl) T.b_range (pa_cons (pe_op op_add (pv 1) pe_int) (pa_cons (pv 3) pa_nil))) (blkOk_by (own := [("y", 6)]) (N := N_arrangement_for) (sc := defScope s_arrangement_for) (by decide +kernel)) (fun _ _ _ _ _ => (pg_name (i := 6) sc_arrangement_for.nd rfl (Or.inl rfl))) (fun _ _ _ _ _ => (pts_one (pt_cmpR op_eq (pe_dget hu (pv 4) (pv 6) (fun _ _ => rfl)) (pe_gl (v := .str "stay") T.g_STAY (fun t => ⟨t, rfl⟩) rfl) (nomark _)))) (fun _ _ _ _ _ => (pv 6)))
    (pss_one (ps_ret (pe_callTy call_tuple_of (by rfl) T.b_tuple (by decide +kernel) (pa_cons (pe_op op_cat (pe_op op_cat (pe_op op_cat (pe_op op_cat (pe_listRg rfl (by rfl) T.b_list (prg_1 (by rfl) T.b_range (pv 1))) (pv 5)) (pe_lst (pa_cons (pv 1) pa_nil))) (pv 7)) (pe_listRg rfl (by rfl) T.b_list (prg_2 (by rfl) T.b_range (pe_op op_add (pv 3) pe_int) (pv 0)))) pa_nil)))))), ?_⟩
    have lc : ∀ {B' : Hp} {s5 s7 : Option V} (wd : Str) (bb : Nat → Bool), Ex B B' → (∀ i, i < w - (x + 1) → decide (V.str (word (τ (x + 1 + i))) = V.str wd) = bb i) → EvLst (tLc (iRng2 (tCons (tOp rAdd (tVar 1) (tC (.int 1))) (tCons (tVar 3) tNil))) (gName 6) (tTest (tOp rEq (tDGet (tVar 4) (tVar 6)) (tC (.str wd)))) (tVar 6) [6]) [some (vN n), some (vN x), some (vN q), some (vN w), some (.ref pd), s5, none, s7] B' (((List.range (w - (x + 1))).filter bb).map fun i => vN (x + 1 + i)) := fun {B' s5 s7} wd bb eB hb => by
      refine e_lcV (n := w - (x + 1)) bb (fun i => vN (x + 1 + i)) (i_rng2 (lo := x + 1) (hi := w) (av_cons (v_addN (v_var rfl) (v_c (v := .int (1 : Nat)))) (av_cons (v_var rfl) av_nil)) (by omega) (by omega)) (by omega) (fun _ => rfl) (fun i v B2 hi e hv => ?_) (fun i v B2 hi e hv _ => v_var (by rw [hv]; rfl))
      subst hv
      exact EvT.is (t_test (v_eq (e_dget (p := pd) (kvs := kvs) (k := .inl ((x + 1 + i : Nat) : Int)) (e_var rfl fun B3 e3 => ⟨rfl, .inl ((eB.trans (e.trans e3)) _ _ hd)⟩) (v_var rfl) (hall _ (by omega) (by omega)) fun _ _ => rfl) v_c rfl)) (hb i hi)
    have hl1 : ∀ f : Nat → Bool, ((List.range (w - (x + 1))).filter f).length ≤ 40 := fun f => by
      have := List.length_filter_le f (List.range (w - (x + 1)))
      rw [List.length_range] at this
      omega
    refine q_asg (e_catL (xs := (((List.range (w - (x + 1))).filter fun i => τ (x + 1 + i)).map fun i => vN (x + 1 + i))) (ys := [vN w]) (lc "left" _ (Ex.refl _) fun i _ => word_left _) (e_lstV (av_cons (v_var rfl) av_nil) (by simp)) (by rw [List.length_map]; have := hl1 fun i => τ (x + 1 + i); simp only [List.length_singleton]; omega)) ex fun v1 B1 H1 g1 ⟨p5, e5, h5⟩ => ?_
    subst e5
    refine q_asg (lc "stay" (fun i => !τ (x + 1 + i)) g1.up fun i _ => word_stay _) g1.sub fun v2 B2 H2 g2 ⟨p7, e7, h7⟩ => ?_
    subst e7
    have h52 := g2.up _ _ h5
    have lA := hl1 fun i => τ (x + 1 + i)
    have lB := hl1 fun i => !τ (x + 1 + i)
    refine s_ret (P := fun u B => IsRow B u (Sw.arr n x w τ)) ((e_tupOf (e_catL (e_catL (e_catL (e_catL (e_lstRg1 (n := x) (v_var rfl) (by omega)) (l_var rfl h52) ?_) (e_lstV (xs := [vN x]) (av_cons (v_var rfl) av_nil) (by simp)) ?_) (l_var rfl h7) ?_) (e_lstRg2 (lo := w + 1) (hi := n) (v_addN (v_var rfl) (v_c (v := .int (1 : Nat)))) (v_var rfl) (by omega) (by omega)) ?_)).wk fun u B _ ⟨p, h1, h2⟩ => ⟨p, h1, ?_⟩) g2.sub fun v3 B3 H3 g3 h3 => qq _ _ _ (g1.trans (g2.trans g3)) h3
    all_goals try (simp only [List.length_append, List.length_map, List.length_range, List.length_singleton]; omega)
    rw [h2]
    unfold Sw.arr Sw.leftOf Sw.stayOf
    simp only [List.map_append, List.map_map]
    rfl
end
end Sk

/-! implications, implied_by, path_to. -/
namespace Sk
open PySem PySem.Spec PyProof.Rows L2
theorem f_revL {K : PySem.W.Frag} {σ : L2.St} {Hc : Hp} {ta : TE} {xs : List V} (h : EvLst ta σ Hc xs) : EvF (tRevL K ta) σ Hc (.lst xs.reverse) := fun B H a b Q q =>
  h B H a b _ fun v B1 H1 g1 ⟨p, e, hp⟩ => ⟨p, xs, e, sl_of (g1.sub _ _ hp), fun l hl => q _ _ (g1.back.new hl) (g1.there l hl) upd_same⟩
theorem kept_filter {α : Type} (L : List α) (d0 : α) (p : α → Bool) : ((List.range L.length).filter fun i => p (L.getD i d0)).map (fun i => L.getD i d0) = L.filter p := by
  have h : (List.range L.length).map (fun i => L.getD i d0) = L := by
    refine List.ext_getElem? fun i => ?_
    rw [List.getElem?_map]
    by_cases hi : i < L.length
    · rw [List.getElem?_range hi, List.getElem?_eq_getElem hi]
      show some (L.getD i d0) = _
      rw [List.getD_eq_getElem?_getD, List.getElem?_eq_getElem hi]; rfl
    · rw [List.getElem?_eq_none (by rw [List.length_range]; omega), List.getElem?_eq_none (by omega)]; rfl
  conv => rhs; rw [← h, List.filter_map]
  rfl
/-- the links of the choices -/
def IsLinks (H : Hp) (v : V) (n : Nat) (R : List (List Nat)) (x q w : Nat) : Prop := ∃ a kvs, v = .ref a ∧ H a = some (.dT kvs) ∧ ∀ d, Sw.rng x w d → ∃ lp xs, valV kvs (keyC d.1 d.2) = some (.ref lp) ∧ H lp = some (.lst xs) ∧ Seq2 (IsC H) xs ((Sw.allCh x w).filter fun e => Sw.imp n (rkOf R) x q w d e)
theorem IsLinks.up {H H' : Hp} {v : V} {n : Nat} {R : List (List Nat)} {x q w : Nat} (h : IsLinks H v n R x q w) (e : Ex H H') : IsLinks H' v n R x q w :=
  let ⟨a, kvs, h1, h2, h3⟩ := h
  ⟨a, kvs, h1, e _ _ h2, fun d hd => let ⟨lp, xs, h4, h5, h6⟩ := h3 d hd; ⟨lp, xs, h4, e _ _ h5, h6.imp fun _ _ h => h.up e⟩⟩
theorem keyC_inj {c d : Sw.Ch} (h : keyC c.1 c.2 = keyC d.1 d.2) : c = d := by
  obtain ⟨a, b⟩ := c
  obtain ⟨a', b'⟩ := d
  injection h with e1 e2
  injection e2 with e2 _
  have e1 : a = a' := Int.ofNat.inj (Sum.inl.inj e1)
  have e2 := Sum.inr.inj e2
  have := word_inj b b'
  rw [e2, beq_self_eq_true] at this
  rw [e1, of_decide_eq_true this.symm]
def ParV (H : Hp) (v : V) : Option Sw.Ch → Prop
  | none => v = .non
  | some p => IsC H v p
theorem ParV.up {H H' : Hp} {v : V} {o : Option Sw.Ch} (h : ParV H v o) (e : Ex H H') : ParV H' v o := by
  cases o with
  | none => exact h
  | some p => exact IsC.up h e
/-- what a search has found -/
def DictF (H : Hp) (kvs : List (List Key × V)) (F : List (Sw.Ch × Option Sw.Ch)) : Prop := kvs.map (·.1) = (Sw.keys F).map (fun c => keyC c.1 c.2) ∧ ∀ c o, (c, o) ∈ F → ∃ pv, valV kvs (keyC c.1 c.2) = some pv ∧ ParV H pv o
theorem DictF.up {H H' : Hp} {kvs : List (List Key × V)} {F : List (Sw.Ch × Option Sw.Ch)} (h : DictF H kvs F) (e : Ex H H') : DictF H' kvs F := ⟨h.1, fun c o hm => let ⟨pv, h1, h2⟩ := h.2 c o hm; ⟨pv, h1, h2.up e⟩⟩
theorem DictF.mem {H : Hp} {kvs : List (List Key × V)} {F : List (Sw.Ch × Option Sw.Ch)} (h : DictF H kvs F) (c : Sw.Ch) : (valV kvs (keyC c.1 c.2)).isSome = decide (c ∈ Sw.keys F) := by
  by_cases hc : c ∈ Sw.keys F
  · rw [decide_eq_true hc]
    obtain ⟨⟨c', o⟩, hm, e⟩ := List.mem_map.mp hc
    have e : c' = c := e
    subst e
    obtain ⟨pv, h1, _⟩ := h.2 _ _ hm
    rw [h1]; rfl
  · rw [decide_eq_false hc, valV_none]
    · rfl
    · rw [h.1]
      intro hm
      obtain ⟨d, hd, e⟩ := List.mem_map.mp hm
      exact hc (keyC_inj e ▸ hd)
def sp_implications (C : Addr) : Sp := fun vs H Q _ => ∃ (B : Hp) (c : Addr) (n x q w : Nat) (R : List (List Nat)), vs = [.ref c] ∧ IsCh C B c R x q w ∧ Nums n x q w R ∧ Ex B H ∧ ∀ v1 B1 H1, Go B H B1 H1 → IsLinks B1 v1 n R x q w → Q v1 H1
def sp_implied_by : Sp := fun vs H Q _ => ∃ (B : Hp) (n x q w : Nat) (R : List (List Nat)) (u v : V) (root : Sw.Ch), vs = [u, v] ∧ IsLinks B u n R x q w ∧ IsC B v root ∧ Sw.rng x w root ∧ w ≤ 40 ∧ Ex B H ∧
  ∀ p B1 H1 kvs F, Go B H B1 H1 → B1 p = some (.dT kvs) → DictF B1 kvs F → Sw.Part n (rkOf R) x q w root F → Sw.Closed n (rkOf R) x q w F → Q (.ref p) H1
def sp_path_to : Sp := fun vs H Q _ => ∃ (B : Hp) (n x q w : Nat) (R : List (List Nat)) (p : Addr) (v : V) (kvs : List (List Key × V)) (root c : Sw.Ch) (F : List (Sw.Ch × Option Sw.Ch)), vs = [.ref p, v] ∧ Rd B p (.dT kvs) ∧ DictF B kvs F ∧ Sw.Part n (rkOf R) x q w root F ∧ c ∈ Sw.keys F ∧ IsC B v c ∧ w ≤ 40 ∧ Ex B H ∧
  ∀ p1 B1 H1 us cs, Go B H B1 H1 → B1 p1 = some (.lst us) → Seq2 (IsC B1) us cs → Sw.Path n (rkOf R) x q w root c cs → cs.length ≤ 200 → Q (.ref p1) H1
section
variable {P : Program} {w : World} {K : PySem.W.Frag} {mg : Str → Option Value} {base : Heap} {C : Addr} (T : Top K mg C)
include T
theorem cal_implications : Cal P w K mg base "implications" ["choices"] 6 (sp_implications C) := by
  refine T.d_implications.cal sc_implications (fun vs H Q E h => ?_) (fun _ _ _ _ _ _ us hl => match us, hl with | [_], _ => rfl) (fun f cdv A outer s H vs Q E hr h => ?_)
  · obtain ⟨B, c, n, x, q, w, R, rfl, _⟩ := h
    rfl
  · obtain ⟨B, c, n, x, q, w, R, rfl, hC, N, ex, qq⟩ := h
    have hu := hu_of hr
    have hn := N.G.le
    have hxq := N.xq
    have hqw := N.qw
    have hwn := N.wn
    refine ⟨_, (pss_cons (ps_set (i := 1) sc_implications.nd rfl (by first | exact Or.inl rfl | exact Or.inr rfl) ((cal_all_choices T).pe hr (by decide) rfl (pa_cons (pe_fld (pv 0) rfl) (pa_cons (pe_fld (pv 0) rfl) pa_nil))))
    (pss_one (ps_ret (pe_dcT (tv := tLc (iList K (tVar 1)) (gName 2) (tB (tMeth C "implies" (sp_implies C) [] E0 (tVar 0) (tCons (tVar 3) (tCons (tVar 2) tNil)))) (tVar 2) [2]) hu (own := [("one", 3)]) rfl sc_implications.nd (pi_list (pv 1)) (blkOk_by (own := [("one", 3)]) (N := N_implications) (sc := defScope s_implications) (by decide +kernel)) (fun _ _ _ _ _ => (pg_name (i := 3) sc_implications.nd rfl (by first | exact Or.inl rfl | exact Or.inr rfl))) (fun _ _ _ _ _ => pts_nil) (fun _ _ _ _ _ => (pv 3)) (fun _ _ _ _ _ => (pe_lc (own := [("other", 2)]) rfl sc_implications.nd (pi_list (pv 1)) (blkOk_by (own := [("other", 2)]) (N := N_implications) (sc := cS [(".0", .local), ("one", .cell), ("choices", .cell), ("some", .cell)]) (by decide +kernel)) (fun _ _ _ _ _ => (pg_name (i := 2) sc_implications.nd rfl (by first | exact Or.inl rfl | exact Or.inr rfl))) (fun _ _ _ _ _ => (pts_one (pt_val ((mal_implies T).pe T.cl hr (by decide) (pv 0) (pa_cons (pv 3) (pa_cons (pv 2) pa_nil)))))) (fun _ _ _ _ _ => (pv 2)))))))), ?_⟩
    have h0 : ∃ kn, IsCh0 C B c kn R x q w := let ⟨kn, h, _⟩ := hC; ⟨kn, h⟩
    refine q_asg (P := fun u B => ∃ a vs, u = .ref a ∧ B a = some (.lst vs) ∧ Seq2 (IsC B) vs (Sw.allCh x w)) (e_call (av_cons (IsCh.fld h0 T.cl rfl T.nf_item fun _ _ => rfl) (av_cons (IsCh.fld h0 T.cl rfl T.nf_last fun _ _ => rfl) av_nil)) fun vs B' e5 e => ?_) ex fun v1 B1 H1 g1 ⟨p1, us, ev, hp1, hus⟩ => ?_
    · rw [e]
      exact fun B1 H1 a b Q q E => ⟨B1, x, _, rfl, ⟨by omega, by omega⟩, b, fun v2 B2 H2 g h => q _ B2 H2 g h⟩
    subst ev
    have hLl : (Sw.allCh x w).length ≤ 80 := by rw [Sw.allCh_len]; omega
    refine s_ret (P := fun u B => IsLinks B u n R x q w) ?_ g1.sub fun v2 B2 H2 g2 h2 => qq _ _ _ (g1.trans g2) h2
    have walk : ∀ {B' : Hp} {s2 s3 : Option V}, Ex B1 B' → EvI (iList K (tVar 1)) [some (.ref c), some (.ref p1), s2, s3] B' (Sw.allCh x w).length fun i v B => ∃ d, (Sw.allCh x w)[i]? = some d ∧ IsC B v d := fun eB => i_lstS (fun _ _ _ _ e h => h.up e) (e_var rfl fun B3 e3 => ⟨p1, us, rfl, (eB.trans e3) _ _ hp1, hus.imp fun _ _ h => h.up (eB.trans e3)⟩)
    refine e_dcT (fun i => keyC ((Sw.allCh x w).getD i (0, true)).1 ((Sw.allCh x w).getD i (0, true)).2) (fun i v B => ∃ lp xs, v = .ref lp ∧ B lp = some (.lst xs) ∧ Seq2 (IsC B) xs ((Sw.allCh x w).filter fun e => Sw.imp n (rkOf R) x q w ((Sw.allCh x w).getD i (0, true)) e)) (walk (Ex.refl _)) (by omega) (fun i j hi hj e => ?_) (fun i v B' hi e ⟨d, hd, hv⟩ => g_name fun B6 e6 => ⟨rfl, t_yes, e_var rfl fun B7 e7 => ?_, ?_⟩) (fun i v B B' _ e ⟨lp, xs, h1, h2, h3⟩ => ⟨lp, xs, h1, e _ _ h2, h3.imp fun _ _ h => h.up e⟩) fun p kvs B e h1 h2 h3 => ⟨p, kvs, rfl, h1, fun d hd => ?_⟩
    · have e := keyC_inj e
      rw [List.getD_eq_getElem?_getD, List.getD_eq_getElem?_getD, List.getElem?_eq_getElem hi, List.getElem?_eq_getElem hj] at e
      have e : (Sw.allCh x w)[i] = (Sw.allCh x w)[j] := e
      rcases Nat.lt_trichotomy i j with c | c | c
      · exact absurd e (List.pairwise_iff_getElem.mp Sw.allCh_nodup _ _ hi hj c)
      · exact c
      · exact absurd e.symm (List.pairwise_iff_getElem.mp Sw.allCh_nodup _ _ hj hi c)
    · rw [List.getD_eq_getElem?_getD, hd]
      obtain ⟨a, h1, h2⟩ := hv.up (e6.trans e7)
      exact ⟨a, h1, h2⟩
    · have hgd : (Sw.allCh x w).getD i (0, true) = d := by rw [List.getD_eq_getElem?_getD, hd]; rfl
      rw [hgd]
      have hrd := Sw.allCh_mem.mp (List.mem_of_getElem? hd)
      refine e_lc (fun j v B => IsC B v ((Sw.allCh x w).getD j (0, true))) (fun j => Sw.imp n (rkOf R) x q w d ((Sw.allCh x w).getD j (0, true))) (walk (e.trans e6)) (by omega) (fun j v2 B8 hj e8 ⟨d2, hd2, hv2⟩ => g_name fun B9 e9 => ⟨rfl, t_B ?_, fun _ => e_var rfl fun B10 e10 => ?_⟩) (fun j v B B' _ e h => h.up e) fun p3 xs B e3 h3 h4 => ⟨p3, xs, rfl, h3, ?_⟩
      · have hgd2 : (Sw.allCh x w).getD j (0, true) = d2 := by rw [List.getD_eq_getElem?_getD, hd2]; rfl
        rw [hgd2]
        have hrd2 := Sw.allCh_mem.mp (List.mem_of_getElem? hd2)
        have eB := g1.up.trans (e.trans (e6.trans (e8.trans e9)))
        obtain ⟨kn, ⟨dx, tb, hI, hT⟩, _⟩ := hC.up eB
        refine e_meth (v_var rfl) hI rfl (av_cons (v_var rfl) (av_cons (v_var rfl) av_nil)) fun vs B2 e2 ev => ?_
        subst ev
        exact fun B3 H3 a b Q q E => ⟨B3, c, n, x, _, w, R, v, v2, d, d2, rfl, hC.up (eB.trans (e2.trans a)), N, hv.up (e6.trans (e8.trans (e9.trans (e2.trans a)))), hv2.up (e9.trans (e2.trans a)), hrd.1, Nat.le_of_lt hrd.2, hrd2.1, Nat.le_of_lt hrd2.2, b, fun B4 H4 g => q _ B4 H4 g rfl⟩
      · rw [List.getD_eq_getElem?_getD, hd2]
        exact hv2.up (e9.trans e10)
      · rw [← kept_filter (Sw.allCh x w) (0, true) fun e => Sw.imp n (rkOf R) x q w d e]
        exact h4.map fun _ _ h => h
    · have hm := Sw.allCh_mem.mpr hd
      obtain ⟨i, hi, e⟩ := List.getElem_of_mem hm
      obtain ⟨v, hv, lp, xs, rfl, h5, h6⟩ := h3 i hi
      have hgd : (Sw.allCh x w).getD i (0, true) = d := by rw [List.getD_eq_getElem?_getD, List.getElem?_eq_getElem hi, e]; rfl
      rw [hgd] at hv h6
      exact ⟨lp, xs, hv, h5, h6⟩
theorem cal_path_to : Cal P w K mg base "path_to" ["found", "choice"] 1 sp_path_to := by
  refine T.d_path_to.cal sc_path_to (fun vs H Q E h => ?_) (fun _ _ _ _ _ _ us hl => match us, hl with | [_, _], _ => rfl) (fun f cdv A outer s H vs Q E hr h => ?_)
  · obtain ⟨B, n, x, q, w, R, p, v, kvs, root, c, F, rfl, _⟩ := h
    rfl
  · obtain ⟨B, n, x, q, w, R, p, v, kvs, root, c, F, rfl, hd, hF, Pt, hc, hv, h40, ex, qq⟩ := h
    have hu := hu_of hr
    refine ⟨_, (pss_cons (ps_set (i := 2) sc_path_to.nd rfl (Or.inl rfl) (pe_lst (pa_cons (pv 1) pa_nil)))
    (pss_cons (ps_while PassesOwn.never (pt_cmpR op_notN (pe_dget hu (pv 0) (pe_ix ix_list (pv 2) (pe_un un_neg pe_int) (fun _ _ => rfl)) (fun _ _ => rfl)) pe_non (nomark _))
      (pss_one (ps_expr (pe_bm PySem.F.plainAttrs_list PySem.F.slot_list_append PySem.F.type_list_append mt_append (pv 2) (pa_cons (pe_dget hu (pv 0) (pe_ix ix_list (pv 2) (pe_un un_neg pe_int) (fun _ _ => rfl)) (fun _ _ => rfl)) pa_nil)))))
    (pss_one (ps_ret (pe_revL (pv 2)))))), ?_⟩
    refine q_asgF (f_lst (xs := [v]) (av_cons (v_var rfl) av_nil) (by simp)) ex fun pp H1 g1 hpn hpp => ?_
    have Bp : B pp = none := ex.none hpn
    obtain ⟨⟨c', o0⟩, hm0, e0⟩ := List.mem_map.mp hc
    have e0 : c' = c := e0
    subst e0
    obtain ⟨i0, hi0, ei0⟩ := List.getElem_of_mem hm0
    refine q_while (B0 := B) (m0 := i0) (fun m σ1 B1 H1 => ∃ us cs cur o vc, σ1 = [some (.ref p), some v, some (.ref pp)] ∧ Go B H B1 H1 ∧ B1 pp = none ∧ H1 pp = some (.lst us) ∧ Seq2 (IsC B1) us cs ∧ F[m]? = some (cur, o) ∧ us[us.length - 1]? = some vc ∧ IsC B1 vc cur ∧ Sw.Path n (rkOf R) x q w cur c' cs.reverse ∧ cs.length + m ≤ 150) g1.sub ⟨[v], [c'], c', o0, v, rfl, g1, Bp, hpp, Seq2.cons hv Seq2.nil, by rw [List.getElem?_eq_getElem hi0, ei0], rfl, hv, .one _ (Pt.rng hc), by have := Pt.len_le; simp only [List.length_singleton]; omega⟩ fun m σ1 B1 H1 e1 e2 hW => ?_
    obtain ⟨us, cs, cur, o, vc, rfl, gg, Bp1, hp1, hs, hFm, hlast, hvc, hP, hlen⟩ := hW
    obtain ⟨pv, hpv, hpar⟩ := hF.2 cur o (List.mem_of_getElem? hFm)
    have rdv : ∀ {B' : Hp}, Ex H1 B' → EvV (tDGet (tVar 0) (tOp (rIxL K) (tVar 2) (tUn (rU fun i => .int (-i)) (tC (.int 1))))) [some (.ref p), some v, some (.ref pp)] B' pv := fun eB => by
      refine e_dgetT (p := p) (kvs := kvs) (k := keyC cur.1 cur.2) (e_var rfl fun B3 e3 => ⟨rfl, ((e1.trans e2).trans (eB.trans e3)).rd hd⟩) (EvP.ofV (v_ixL (l_var rfl (eB _ _ hp1)) (v_un v_c) (atI_last hlast)) fun B3 e3 => ?_) hpv fun _ _ => rfl
      obtain ⟨a, h1, h2⟩ := hvc.up (e2.trans (eB.trans e3))
      exact ⟨a, h1, h2⟩
    have lus : us.length = cs.length := hs.len
    refine ⟨_, t_test (v_notN (rdv (Ex.refl _))), fun hb H2 g2 => ?_, fun hb H2 g2 => ?_⟩
    · have hnon : pv = .non := by
        by_cases h : pv = .non
        · exact h
        · rw [decide_eq_false h] at hb; cases hb
      have hroot : cur = root := by
        cases o with
        | some p' =>
          obtain ⟨a, h1, _⟩ := hpar
          rw [hnon] at h1; cases h1
        | none =>
          rcases Pt.par m cur none hFm with h | ⟨p', j, h, _⟩
          · subst h
            rw [Pt.head] at hFm
            exact (congrArg Prod.fst (Option.some.inj hFm)).symm
          · cases h
      subst hroot
      have hp2 := g2.ex _ _ hp1
      refine s_retF (f_revL (l_var rfl hp2)) (Ex.refl _) fun p3 H3 g3 hn3 hp3 => ?_
      have gz := (((gg.trans g2).trans (g3.hid g2.sub))).shown hp3 ((gg.trans g2).there _ hn3)
      refine qq _ _ _ us.reverse cs.reverse gz upd_same ?_ hP (by rw [List.length_reverse]; omega)
      have eB1 : Ex B1 (upd B1 p3 (.lst us.reverse)) := Ex.shown (g2.sub.trans (g3.hid g2.sub).ex) hp3
      refine ⟨by rw [List.length_reverse, List.length_reverse, lus], fun i u y h1 h2 => ?_⟩
      have hi := (List.getElem?_eq_some_iff.mp h1).1
      rw [List.length_reverse] at hi
      rw [List.getElem?_reverse hi] at h1
      rw [List.getElem?_reverse (by omega), ← lus] at h2
      exact (hs.at_ _ _ _ h1 h2).up eB1
    · have hnon : pv ≠ .non := fun h => by
        rw [h, decide_eq_true rfl] at hb; cases hb
      cases o with
      | none => exact absurd hpar hnon
      | some p' =>
        rcases Pt.par m cur (some p') hFm with h | ⟨p'', j, h, hjm, ⟨o', hj⟩, himp, hrng⟩
        · subst h
          rw [Pt.head] at hFm
          have := congrArg Prod.snd (Option.some.inj hFm)
          cases this
        · have h := Option.some.inj h
          subst h
          have hp2 := g2.ex _ _ hp1
          refine s_app (Hc := H2) (P := fun u _ => u = pv) (v_var rfl) (rdv g2.ex) (Ex.refl _) hp2 (by omega) fun u B3 H3 g3 ev => ?_
          subst ev
          have g3' := g3.hid g2.sub
          have gz := ((gg.trans g2).trans g3').mut (l := pp) (o := .lst (us ++ [u])) hpn Bp1
          refine ⟨j, hjm, B1, Ex.refl _, gz.sub, us ++ [u], cs ++ [p'], p', o', u, rfl, gz, Bp1, upd_same, hs.snoc (hpar.up e1), hj, ?_, hpar.up e1, ?_, ?_⟩
          · rw [List.length_append, List.length_singleton, List.getElem?_append_right (by omega)]
            rw [show us.length + 1 - 1 - us.length = 0 by omega]; rfl
          · rw [List.reverse_append]
            exact .cons (Pt.rng (List.mem_map.mpr ⟨(p', o'), List.mem_of_getElem? hj, rfl⟩)) himp hP
          · rw [List.length_append, List.length_singleton]; omega
end
end Sk

/-! implied_by. -/
namespace Sk
open PySem PySem.Spec PyProof.Rows L2
section
variable {K : PySem.W.Frag} {σ : L2.St} {Hc H : Hp} {ta tb te tk tv : TE} {P : V → Hp → Prop} {D : Ends} {tz : TS} {i j : Nat} {o : HO}
theorem dp_chs {H : Hp} : ∀ {us : List V} {cs : List Sw.Ch}, Seq2 (IsC H) us cs → DpAll K H us (cs.map dC)
  | [], [], _ => .nil
  | u :: us, c :: cs, h => .cons (h.at_ 0 u c rfl rfl).dp (dp_chs ⟨by have := h.len; simp only [List.length_cons] at this; omega, fun i v x h1 h2 => h.at_ (i + 1) v x h1 h2⟩)
  | [], c :: cs, h => by have := h.len; simp at this
  | u :: us, [], h => by have := h.len; simp at this
theorem shape_chs : ∀ cs : List Sw.Ch, PyData.canLayAll0 (cs.map dC) = true ∧ PyData.depthAll (cs.map dC) ≤ 2
  | [] => ⟨rfl, Nat.zero_le _⟩
  | c :: cs => by
    obtain ⟨h1, h2⟩ := shape_chs cs
    have h3 := dC_shaped c
    unfold SeqAt.shaped at h3
    rw [Bool.and_eq_true] at h3
    have h4 : PyData.depth (dC c) ≤ 2 := by
      rw [PyData.depth, PyData.depthAll, PyData.depthAll, PyData.depthAll, PyData.depth, PyData.depth]; decide
    constructor
    · rw [List.map_cons, PyData.canLayAll0, h1, h3.1]; rfl
    · rw [List.map_cons, PyData.depthAll]
      omega
theorem shaped_chs (cs : List Sw.Ch) : SeqAt.shaped (.list (cs.map dC)) = true := by
  obtain ⟨h1, h2⟩ := shape_chs cs
  unfold SeqAt.shaped
  rw [PyData.canLay0, PyData.depth, h1]
  exact Bool.and_eq_true_iff.mpr ⟨rfl, decide_eq_true (by omega)⟩
/-- a list of choices beside [] -/
theorem v_neNilC {us : List V} {cs : List Sw.Ch} (h : EvP ta σ Hc fun u B => ∃ p, u = .ref p ∧ B p = some (.lst us) ∧ Seq2 (IsC B) us cs) : EvV (tOp (rNeD K) ta (tLst tNil)) σ Hc (.bl (!decide (cs = []))) := by
  refine EvV.is (v_neD (d := .list (cs.map dC)) (e := .list []) (h.wk fun v B _ ⟨p, h1, h2, h3⟩ => ?_) ((e_lstV (xs := []) av_nil (by simp)).wk fun v B _ ⟨p, h1, h2⟩ => ?_) (shaped_chs cs) (by rfl)) ?_
  · subst h1
    exact ⟨.lst (sl_of h2) (dp_chs h3), fun B' e => .lst (sl_of (e _ _ h2)) (dp_chs (h3.imp fun _ _ h => h.up e))⟩
  · subst h1
    exact fun B' e => .lst (sl_of (e _ _ h2)) .nil
  · cases cs with
    | nil => rfl
    | cons a l => rfl
/-- {k: v}, hidden -/
theorem f_disp1 {k : List Key} {v : V} (hk : EvP tk σ Hc fun u B => ∃ b, u = .ref b ∧ B b = some (.tup (k.map kV))) (hv : EvV tv σ Hc v) : EvF (tDisp1T tk tv) σ Hc (.dT [(k, v)]) := fun B H a b Q q p hp => by
  have hB := b.none hp
  have gn : Go B H B (upd H p (.dT [])) := (GoF.refl b).new hp
  refine hk B _ a gn.sub _ fun y B1 H1 g1 ⟨kb, e1, h1⟩ => hv B1 H1 (a.trans g1.up) g1.sub _ fun z B2 H2 g2 e2 => ?_
  subst e2
  have g12 := g1.trans g2
  refine ⟨k, kb, e1, g2.sub _ _ (g2.up _ _ h1), g12.ex _ _ upd_same, ?_⟩
  have hB2 := g12.off p hB (by rw [upd_same]; simp)
  exact q _ _ ((gn.trans g12).mut hp hB2).back hp upd_same
theorem q_parFF (h1 : EvF ta σ Hc o) (h2 : EvP tb σ Hc P) (e : Ex Hc H) (k : ∀ p v B2 H2, Go Hc H B2 H2 → P v B2 → H p = none → B2 p = none → H2 p = some o → tz D ((σ.set i (some (.ref p))).set j (some v)) H2) : tSeq (tPar i j (tCons ta (tCons tb tNil))) tz D σ H :=
  h1 Hc H (Ex.refl _) e _ fun p H1 g1 hn hp => h2 Hc H1 (Ex.refl _) g1.sub _ fun v B2 H2 g2 pv => ⟨_, v, rfl, k p v B2 H2 (g1.trans g2) pv hn (g2.off p (e.none hn) (by rw [hp]; simp)) (g2.ex _ _ hp)⟩
end
section
variable {P : Program} {w : World} {K : PySem.W.Frag} {mg : Str → Option Value} {base : Heap} {C : Addr} (T : Top K mg C)
include T
theorem cal_implied_by : Cal P w K mg base "implied_by" ["links", "choice"] 1 sp_implied_by := by
  refine T.d_implied_by.cal sc_implied_by (fun vs H Q E h => ?_) (fun _ _ _ _ _ _ us hl => match us, hl with | [_, _], _ => rfl) (fun f cdv A outer s H vs Q E hr h => ?_)
  · obtain ⟨B, n, x, q, w, R, u, v, root, rfl, _⟩ := h
    rfl
  · obtain ⟨B, n, x, q, w, R, u, v, root, rfl, hL, hv, hrr, h40, ex, qq⟩ := h
    have hu := hu_of hr
    have hu0 := hr.units
    refine ⟨_, (pss_cons (ps_par (i := 2) (j := 3) (by rfl) sc_implied_by.nd rfl rfl (by decide) rfl rfl (pa_cons (pe_disp1T hu (pv 1) pe_non) (pa_cons (pe_lst (pa_cons (pv 1) pa_nil)) pa_nil)) (by rfl))
    (pss_cons (ps_while PassesOwn.never (pt_cmpR (op_neD hu0) (pv 3) (pe_lst pa_nil) (nomark _))
      (pss_cons (ps_set (i := 4) sc_implied_by.nd rfl (Or.inl rfl) (pe_lst pa_nil))
      (pss_cons (ps_for PassesOwn.never rfl (pi_list (pv 3)) (pg_name (i := 5) sc_implied_by.nd rfl (Or.inl rfl))
        (pss_one (ps_for PassesOwn.never rfl (pi_list (pe_dget hu (pv 0) (pv 5) (fun _ _ => rfl))) (pg_name (i := 6) sc_implied_by.nd rfl (Or.inl rfl))
          (pss_one (ps_if (pt_cmp (pc_dnotin hu (pv 6) (pv 2))) (pss_cons (ps_dput hu (pv 2) (pv 6) (pv 5) rfl)
            (pss_one (ps_expr (pe_bm PySem.F.plainAttrs_list PySem.F.slot_list_append PySem.F.type_list_append mt_append (pv 4) (pa_cons (pv 6) pa_nil))))) pss_nil)))))
      (pss_one (ps_set (i := 3) sc_implied_by.nd rfl (Or.inl rfl) (pv 4))))))
    (pss_one (ps_ret (pv 2))))), ?_⟩
    obtain ⟨pl, lks, rfl, hpl, hlk⟩ := id hL
    refine q_parFF (P := fun y B => ∃ p, y = .ref p ∧ B p = some (.lst [v])) (f_disp1 (k := keyC root.1 root.2) (e_var rfl fun B' e => let ⟨a, h1, h2⟩ := hv.up e; ⟨a, h1, h2⟩) v_c) (e_lstV (av_cons (v_var rfl) av_nil) (by simp)) ex (fun pf vfr Bs Hs gs ⟨pfr, efr, hfr⟩ hfn Bf hf => ?_)
    subst efr
    have DF0 : DictF Bs [(keyC root.1 root.2, .non)] [(root, none)] := ⟨rfl, fun c o hm => by
      have hm := List.mem_singleton.mp hm
      cases hm
      exact ⟨.non, by rw [show [(keyC root.1 root.2, V.non)] = [] ++ [(keyC root.1 root.2, V.non)] from rfl, valV_snoc (by simp), if_pos rfl], rfl⟩⟩
    let N := 2 * (w - (x + 1))
    refine q_while (B0 := Bs) (m0 := 2 * N + 1) (fun m σ1 B1 H1 => ∃ kvs F Lf us pfr s4 s5 s6, σ1 = [some (.ref pl), some v, some (.ref pf), some (.ref pfr), s4, s5, s6] ∧ Go B H B1 H1 ∧ B1 pf = none ∧ H1 pf = some (.dT kvs) ∧ DictF B1 kvs F ∧ Sw.Part n (rkOf R) x q w root F ∧ B1 pfr = some (.lst us) ∧ Seq2 (IsC B1) us Lf ∧ (∀ c ∈ Lf, c ∈ Sw.keys F) ∧ (∀ c ∈ Sw.keys F, c ∉ Lf → ∀ d, Sw.rng x w d → Sw.imp n (rkOf R) x q w c d = true → d ∈ Sw.keys F) ∧ 2 * (N - F.length) + (if Lf = [] then 0 else 1) ≤ m)
      gs.sub ⟨_, [(root, none)], [root], [v], pfr, _, _, _, rfl, gs, Bf, hf, DF0, Sw.Part.start hrr, hfr, Seq2.cons (hv.up gs.up) Seq2.nil, fun c h => h, fun c h hn => absurd h hn, by simp only [List.length_singleton]; rw [if_neg (by simp)]; omega⟩ fun m σ1 B1 H1 e1 e2 hW => ?_
    obtain ⟨kvs, F, Lf, us, pfr1, s4, s5, s6, rfl, gg, Bf1, hf1, hDF, hP, hfr1, hs, hin, hcl, hm⟩ := hW
    refine ⟨!decide (Lf = []), t_test (v_neNilC (e_var rfl fun B' e => ⟨pfr1, rfl, e _ _ (e2 _ _ hfr1), hs.imp fun _ _ h => h.up (e2.trans e)⟩)), fun hb H2 g2 => ?_, fun hb H2 g2 => ?_⟩
    · have hnil : Lf = [] := by
        by_cases h : Lf = []
        · exact h
        · rw [decide_eq_false h] at hb; cases hb
      have hf2 := g2.ex _ _ hf1
      have gz := (gg.trans g2).shown hf2 hfn
      refine s_ret (Hc := upd B1 pf (.dT kvs)) (P := fun u _ => u = .ref pf) (v_var rfl) gz.sub fun u B3 H3 g3 ev => ?_
      rw [ev]
      have eB : Ex B1 (upd B1 pf (.dT kvs)) := Ex.shown (g2.sub) hf2
      refine qq pf B3 H3 kvs F (gz.trans g3) (g3.up _ _ upd_same) (hDF.up (eB.trans g3.up)) hP fun c hc d hd hi => hcl c hc (by rw [hnil]; simp) d hd hi
    · have hne : Lf ≠ [] := fun h => by
        rw [h, decide_eq_true rfl] at hb; cases hb
      have hf2 := g2.ex _ _ hf1
      refine q_asgF (f_lst (xs := []) av_nil (by simp)) g2.sub fun pg H3 g3 hgn hg => ?_
      have Bg : B1 pg = none := g2.sub.none hgn
      have gg3 := (gg.trans g2).trans g3
      have H0g : H pg = none := (gg.trans g2).there _ hgn
      have hf3 := g3.ex _ _ hf2
      have nfg : pf ≠ pg := fun z => by
        subst z
        rw [hf2] at hgn; cases hgn
      refine q_for (Hc := B1) (fun i σ2 B4 H4 => ∃ kvs' F' Lg ug s5 s6, σ2 = [some (.ref pl), some v, some (.ref pf), some (.ref pfr1), some (.ref pg), s5, s6] ∧ Go B H B4 H4 ∧ B4 pf = none ∧ H4 pf = some (.dT kvs') ∧ DictF B4 kvs' F' ∧ Sw.Part n (rkOf R) x q w root F' ∧ B4 pg = none ∧ H4 pg = some (.lst ug) ∧ Seq2 (IsC B4) ug Lg ∧ (∀ c, c ∈ Sw.keys F' ↔ c ∈ Sw.keys F ∨ c ∈ Lg) ∧ F'.length = F.length + Lg.length ∧ (∀ k c, k < i → Lf[k]? = some c → ∀ d, Sw.rng x w d → Sw.imp n (rkOf R) x q w c d = true → d ∈ Sw.keys F'))
        (i_lstS (L := Lf) (Pv := IsC) (fun _ _ _ _ e h => h.up e) (e_var rfl fun B' e => ⟨pfr1, us, rfl, e _ _ hfr1, hs.imp fun _ _ h => h.up e⟩)) g3.sub (fun B4 H4 g4 => ⟨kvs, F, [], [], _, _, rfl, gg3.trans g4, g4.off pf Bf1 (by rw [hf3]; simp), g4.ex _ _ hf3, hDF.up g4.up, hP, g4.off pg Bg (by rw [hg]; simp), g4.ex _ _ hg, Seq2.nil, fun c => by simp, rfl, fun k c h => absurd h (Nat.not_lt_zero _)⟩) (fun i σ2 B4 H4 vx B5 H5 hi e4 e4' hW g5 hY => ?_) (fun σ2 B4 H4 e4 e4' hW => ?_)
      · obtain ⟨kvs', F', Lg, ug, s5', s6', rfl, gg4, Bf4, hf4, hDF4, hP4, Bg4, hg4, hs4, hkeys, hFl, hproc⟩ := hW
        obtain ⟨one, hone, hvx⟩ := hY
        have hone_mem := hin one (List.mem_of_getElem? hone)
        have hrone := hP.rng hone_mem
        obtain ⟨lp, lxs, hlv, hlp, hls⟩ := hlk one hrone
        have eB5 : Ex B B5 := gg4.up.trans g5.up
        have hf5 := g5.ex _ _ hf4
        have Bf5 := g5.off pf Bf4 (by rw [hf4]; simp)
        have hg5 := g5.ex _ _ hg4
        have Bg5 := g5.off pg Bg4 (by rw [hg4]; simp)
        show tFor _ _ _ _ _ _
        refine s_for (Hc := B5) (fun j σ3 B6 H6 => ∃ kvs' F' Lg ug s6, σ3 = [some (.ref pl), some v, some (.ref pf), some (.ref pfr1), some (.ref pg), some vx, s6] ∧ Go B H B6 H6 ∧ B6 pf = none ∧ H6 pf = some (.dT kvs') ∧ DictF B6 kvs' F' ∧ Sw.Part n (rkOf R) x q w root F' ∧ B6 pg = none ∧ H6 pg = some (.lst ug) ∧ Seq2 (IsC B6) ug Lg ∧ (∀ c, c ∈ Sw.keys F' ↔ c ∈ Sw.keys F ∨ c ∈ Lg) ∧ F'.length = F.length + Lg.length ∧ (∀ k c, k < i → Lf[k]? = some c → ∀ d, Sw.rng x w d → Sw.imp n (rkOf R) x q w c d = true → d ∈ Sw.keys F') ∧ (∀ k d, k < j → ((Sw.allCh x w).filter fun e => Sw.imp n (rkOf R) x q w one e)[k]? = some d → d ∈ Sw.keys F'))
          (i_lstS (L := (Sw.allCh x w).filter fun e => Sw.imp n (rkOf R) x q w one e) (Pv := IsC) (fun _ _ _ _ e h => h.up e) (e_dgetT (p := pl) (kvs := lks) (k := keyC one.1 one.2) (v := .ref lp) (e_var rfl fun B' e => ⟨rfl, .inl ((eB5.trans e) _ _ hpl)⟩) (e_var rfl fun B' e => let ⟨a, h1, h2⟩ := hvx.up e; ⟨a, h1, h2⟩) hlv fun B' e => ⟨lp, lxs, rfl, (eB5.trans e) _ _ hlp, hls.imp fun _ _ h => h.up (eB5.trans e)⟩)) g5.sub (fun B6 H6 g6 => ⟨kvs', F', Lg, ug, _, rfl, gg4.trans (g5.trans g6), g6.off pf Bf5 (by rw [hf5]; simp), g6.ex _ _ hf5, hDF4.up (g5.up.trans g6.up), hP4, g6.off pg Bg5 (by rw [hg5]; simp), g6.ex _ _ hg5, hs4.imp fun _ _ h => h.up (g5.up.trans g6.up), hkeys, hFl, hproc, fun k d h => absurd h (Nat.not_lt_zero _)⟩) (fun j σ3 B6 H6 vo B7 H7 hj e6 e6' hW g7 hY => ?_) (fun σ3 B6 H6 e6 e6' hW => ?_)
        · obtain ⟨kvs6, F6, Lg6, ug6, s66, rfl, gg6, Bf6, hf6, hDF6, hP6, Bg6, hg6, hs6, hkeys6, hFl6, hproc6, hj6⟩ := hW
          obtain ⟨other, hother, hvo⟩ := hY
          have hom := List.mem_filter.mp (List.mem_of_getElem? hother)
          have hro := Sw.allCh_mem.mp hom.1
          have hio : Sw.imp n (rkOf R) x q w one other = true := hom.2
          have hf7 := g7.ex _ _ hf6
          have Bf7 := g7.off pf Bf6 (by rw [hf6]; simp)
          have hg7 := g7.ex _ _ hg6
          have Bg7 := g7.off pg Bg6 (by rw [hg6]; simp)
          have hvx7 := hvx.up (e6.trans g7.up)
          refine s_if (Hc := H7) (t_B (v_dninT (k := keyC other.1 other.2) (e_var rfl fun B' e => let ⟨a, h1, h2⟩ := hvo.up (g7.sub.trans e); ⟨a, h1, h2⟩) (v_var rfl) (.inl hf7))) (Ex.refl _) (fun z B8 H8 g8 => ?_) (fun z B8 H8 g8 => ?_)
          · have g8' := g8.hid g7.sub
            rw [hDF6.mem] at z
            have hnew : other ∉ Sw.keys F6 := by simpa using z
            have hf8 := g8'.ex _ _ hf7
            have hg8 := g8'.ex _ _ hg7
            have hkl : kvs6.length = F6.length := by
              have := congrArg List.length hDF6.1
              rw [List.length_map, List.length_map, List.length_map] at this
              exact this
            have hF6 := hP6.len_le
            refine q_dputT (Hc := B7) (P := fun u _ => u = vx) (k := keyC other.1 other.2) (v_var rfl) (v_var rfl) (e_var rfl fun B' e => let ⟨a, h1, h2⟩ := hvo.up e; ⟨a, h1, h2⟩) g8'.sub hf8 (by omega) fun u9 B9x B9 H9 g9 _ ev => ?_
            subst ev
            have Bf9 := g9.off pf Bf7 (by rw [hf8]; simp)
            have Bg9 := g9.off pg Bg7 (by rw [hg8]; simp)
            have hg9 := g9.ex _ _ hg8
            have gA := ((gg6.trans (g7.trans g8')).trans g9).mut (l := pf) (o := .dT (putK kvs6 (keyC other.1 other.2) u9)) hfn Bf9
            refine s_app (Hc := B9) (P := fun u _ => u = vo) (v_var rfl) (v_var rfl) gA.sub (by rw [upd_ne nfg.symm]; exact hg9) (by rw [hs6.len]; omega) fun u10 B10 H10 g10 ev => ?_
            subst ev
            have Bf10 := g10.off pf Bf9 (by rw [upd_same]; simp)
            have Bg10 := g10.off pg Bg9 (by rw [upd_ne nfg.symm, hg9]; simp)
            have gB := (gA.trans g10).mut (l := pg) (o := .lst (ug6 ++ [u10])) H0g Bg10
            have eU : Ex B7 B10 := g9.up.trans g10.up
            have hknew : keyC other.1 other.2 ∉ kvs6.map (·.1) := by
              rw [hDF6.1]
              intro hm
              obtain ⟨d, hd, e⟩ := List.mem_map.mp hm
              exact hnew (keyC_inj e ▸ hd)
            have hone6 : one ∈ Sw.keys F6 := (hkeys6 one).mpr (.inl hone_mem)
            refine ⟨B10, g7.up.trans eU, gB.sub, putK kvs6 (keyC other.1 other.2) u9, F6 ++ [(other, some one)], Lg6 ++ [other], ug6 ++ [u10], _, rfl, gB, Bf10, by rw [upd_ne nfg]; exact g10.ex _ _ upd_same, ⟨?_, fun c o hm => ?_⟩, hP6.add hone6 hnew hro hio, Bg10, upd_same, (hs6.imp fun _ _ h => h.up (g7.up.trans eU)).snoc (hvo.up eU), fun c => ?_, by rw [List.length_append, List.length_append, hFl6]; simp only [List.length_singleton]; omega, fun k c hk hc d hd hi => ?_, fun k d hk hd => ?_⟩
            · rw [putK_new _ (valV_none hknew), List.map_append, hDF6.1]
              show _ = ((F6 ++ [(other, some one)]).map (·.1)).map _
              rw [List.map_append, List.map_append]; rfl
            · rw [valV_put]
              rcases List.mem_append.mp hm with hm | hm
              · obtain ⟨pv, h1, h2⟩ := hDF6.2 c o hm
                have hne : keyC c.1 c.2 ≠ keyC other.1 other.2 := fun e => by
                  have e := keyC_inj (c := c) (d := other) e
                  have hcm : c ∈ Sw.keys F6 := List.mem_map.mpr ⟨(c, o), hm, rfl⟩
                  exact hnew (e ▸ hcm)
                exact ⟨pv, by rw [if_neg hne]; exact h1, h2.up (g7.up.trans eU)⟩
              · have hm := List.mem_singleton.mp hm
                cases hm
                exact ⟨u9, if_pos rfl, hvx7.up eU⟩
            · show c ∈ (F6 ++ [(other, some one)]).map (·.1) ↔ _
              rw [List.map_append, List.mem_append]
              show c ∈ Sw.keys F6 ∨ c ∈ [other] ↔ _
              rw [hkeys6, List.mem_append, or_assoc]
            · show d ∈ (F6 ++ [(other, some one)]).map (·.1)
              rw [List.map_append]
              exact List.mem_append_left _ (hproc6 k c hk hc d hd hi)
            · show d ∈ (F6 ++ [(other, some one)]).map (·.1)
              rw [List.map_append]
              by_cases hkj : k = j
              · subst hkj
                rw [hother] at hd
                rw [← Option.some.inj hd]
                exact List.mem_append_right _ (List.mem_singleton.mpr rfl)
              · exact List.mem_append_left _ (hj6 k d (by omega) hd)
          · have g8' := g8.hid g7.sub
            rw [hDF6.mem] at z
            have hold : other ∈ Sw.keys F6 := by simpa using z
            have hf8 := g8'.ex _ _ hf7
            have hg8 := g8'.ex _ _ hg7
            refine ⟨B7, g7.up, g8'.sub, kvs6, F6, Lg6, ug6, _, rfl, gg6.trans (g7.trans g8'), Bf7, hf8, hDF6.up g7.up, hP6, Bg7, hg8, hs6.imp fun _ _ h => h.up g7.up, hkeys6, hFl6, hproc6, fun k d hk hd => ?_⟩
            by_cases hkj : k = j
            · subst hkj
              rw [hother] at hd
              rw [← Option.some.inj hd]; exact hold
            · exact hj6 k d (by omega) hd
        · obtain ⟨kvs6, F6, Lg6, ug6, s66, rfl, gg6, Bf6, hf6, hDF6, hP6, Bg6, hg6, hs6, hkeys6, hFl6, hproc6, hj6⟩ := hW
          refine ⟨B6, g5.up.trans e6, e6', kvs6, F6, Lg6, ug6, _, _, rfl, gg6, Bf6, hf6, hDF6, hP6, Bg6, hg6, hs6, hkeys6, hFl6, fun k c hk hc d hd hi => ?_⟩
          by_cases hki : k = i
          · subst hki
            rw [hone] at hc
            have hc := Option.some.inj hc
            subst hc
            have hm : d ∈ (Sw.allCh x w).filter fun e => Sw.imp n (rkOf R) x q w one e := List.mem_filter.mpr ⟨Sw.allCh_mem.mpr hd, hi⟩
            obtain ⟨k, hk, e⟩ := List.getElem_of_mem hm
            exact hj6 k d hk (by rw [List.getElem?_eq_getElem hk, e])
          · exact hproc6 k c (by omega) hc d hd hi
      · obtain ⟨kvs', F', Lg, ug, s5', s6', rfl, gg4, Bf4, hf4, hDF4, hP4, Bg4, hg4, hs4, hkeys, hFl, hproc⟩ := hW
        refine s_asg (Hc := B4) (P := fun u _ => u = .ref pg) (v_var rfl) e4' fun u B5 H5 g5 ev => ?_
        subst ev
        have hg5 := g5.ex _ _ hg4
        have Bg5 := g5.off pg Bg4 (by rw [hg4]; simp)
        have hf5 := g5.ex _ _ hf4
        have Bf5 := g5.off pf Bf4 (by rw [hf4]; simp)
        have gz := (gg4.trans g5).shown hg5 H0g
        have eB5 : Ex B4 (upd B5 pg (.lst ug)) := g5.up.trans (Ex.shown g5.sub hg5)
        have hle := hP4.len_le
        have hN : N = 2 * (w - (x + 1)) := rfl
        refine ⟨2 * (N - F'.length) + (if Lg = [] then 0 else 1), ?_, upd B5 pg (.lst ug), e4.trans eB5, gz.sub, kvs', F', Lg, ug, pg, _, _, _, rfl, gz, by rw [upd_ne nfg]; exact Bf5, hf5, hDF4.up eB5, hP4, upd_same, hs4.imp fun _ _ h => h.up eB5, fun c hc => (hkeys c).mpr (.inr hc), fun c hc hnl d hd hi => ?_, Nat.le_refl _⟩
        · rw [if_neg hne] at hm
          by_cases hLg : Lg = []
          · rw [if_pos hLg]
            subst hLg
            rw [List.length_nil] at hFl
            rw [hFl]; omega
          · rw [if_neg hLg]
            have : 1 ≤ Lg.length := List.length_pos_iff.mpr hLg
            omega
        · rcases (hkeys c).mp hc with h | h
          · by_cases hcl' : c ∈ Lf
            · obtain ⟨k, hk, e⟩ := List.getElem_of_mem hcl'
              exact hproc k c hk (by rw [List.getElem?_eq_getElem hk, e]) d hd hi
            · exact (hkeys d).mpr (.inl (hcl c h hcl' d hd hi))
          · exact absurd h hnl
end
end Sk

/-! A list beside []; walks over the keys of a dict of choices. -/
namespace Sk
open PySem PySem.Spec PyProof.Rows L2
def rEqNil (K : PySem.W.Frag) : R2 := fun x y H Q => ∃ p p2 xs, x = .ref p ∧ y = .ref p2 ∧ SqL K H p xs ∧ SqL K H p2 [] ∧ Q (.bl (decide (xs = []))) H
theorem op_eqNil {X : Cx} (hu : X.A.units + 64 < cLine) : OpR X (compareOp .Eq) (rEqNil X.K) := by
  intro pins s σ H x y v u Q I rx ry h
  obtain ⟨p, p2, xs, rfl, rfl, h1, h2, q⟩ := h
  obtain rfl : v = Value.ref p := rx
  obtain rfl : u = Value.ref p2 := ry
  obtain ⟨its, rv, hl, _⟩ := I.list h1
  obtain ⟨its2, rv2, hl2, _⟩ := I.list h2
  have e1 := rv.length
  have e2 := rv2.length
  have hu' : X.A.units < cLine := by omega
  by_cases hx : xs = []
  · subst hx
    refine SeqAt.eq_listAt (e := fun _ => true) hl.isList hl2.isList (by simp at e1 e2 ⊢; omega) hu' (fun j h1 _ => absurd h1 (by simp at e1 ⊢; omega)) ⟨.bl (decide (([] : List V) = [])), H, I, ?_, q⟩
    have e3 : its.toArray.size = 0 := by rw [List.size_toArray, ← e1]; rfl
    rw [e3]; rfl
  · refine SeqAt.eq_list_lengthsAt hl.isList hl2.isList ?_ hu' ⟨.bl (decide (xs = [])), H, I, ?_, q⟩
    · have : xs.length ≠ 0 := fun h => hx (List.length_eq_zero_iff.mp h)
      simp at e1 e2 ⊢
      omega
    · rw [decide_eq_false hx]; rfl
theorem v_eqNilA {K : PySem.W.Frag} {σ : L2.St} {Hc : Hp} {ta : TE} {xs : List V} (h : EvLst ta σ Hc xs) : EvV (tOp (rEqNil K) ta (tLst tNil)) σ Hc (.bl (decide (xs = []))) :=
  e_op h (fun _ _ e _ => e_lstV (xs := []) av_nil (by simp)) fun x y B1 B2 e1 e2 ⟨p, ep, hp⟩ ⟨p2, ep2, hp2⟩ B H e b Q q => ⟨p, p2, xs, ep, ep2, sl_of ((e2.trans (e.trans b)) _ _ hp), sl_of ((e.trans b) _ _ hp2), q _ B H (.refl b) rfl⟩
theorem upd_upd {H : Hp} {d : Addr} {u f : HO} : upd (upd H d f) d u = upd H d u := funext fun b => by
  by_cases h : b = d
  · subst h; rw [upd_same, upd_same]
  · rw [upd_ne h, upd_ne h, upd_ne h]
theorem upd_self {H : Hp} {d : Addr} {u : HO} (h : H d = some u) : upd H d u = H := funext fun b => by
  by_cases e : b = d
  · subst e; rw [upd_same, h]
  · rw [upd_ne e]
theorem upd_comm {H : Hp} {d e : Addr} {u f : HO} (h : d ≠ e) : upd (upd H d u) e f = upd (upd H e f) d u := funext fun b => by
  by_cases h1 : b = d
  · subst h1; rw [upd_ne h, upd_same, upd_same]
  · by_cases h2 : b = e
    · subst h2; rw [upd_same, upd_ne h1, upd_same]
    · rw [upd_ne h2, upd_ne h1, upd_ne h1, upd_ne h2]
theorem GoF.unlock {B H Hu H1 : Hp} {d : Addr} {u f : HO} (g : Go B H B Hu) (hd : H d = some u) (e : Ex (upd Hu d f) H1) (t : ∀ b, H1 b = none → upd Hu d f b = none) (eB : Ex B H) : Go B H B (upd H1 d u) := by
  have k : ∀ b o, H b = some o → upd H1 d u b = some o := fun b o h => by
    by_cases hb : b = d
    · subst hb
      rw [hd] at h
      rw [upd_same]; exact h
    · rw [upd_ne hb]
      exact e b o (by rw [upd_ne hb]; exact g.ex b o h)
  refine ⟨Ex.refl _, fun b o h => k b o (eB b o h), fun b o _ h => k b o h, fun _ h _ => h, fun b h => ?_⟩
  by_cases hb : b = d
  · subst hb; rw [upd_same] at h; cases h
  · rw [upd_ne hb] at h
    have := t b h
    rw [upd_ne hb] at this
    exact g.there b this
def clean (F : List (Sw.Ch × Option Sw.Ch)) : Bool := (Sw.keys F).all fun c => !decide (Sw.opp c ∈ Sw.keys F)
/-- any([opposite(one) in found for one in found]) -/
theorem t_anyOpp {K : PySem.W.Frag} {σ : L2.St} {Hc : Hp} {d : Addr} {kvs : List (List Key × V)} {F : List (Sw.Ch × Option Sw.Ch)} (hs : (wipe σ [8])[7]? = some (some (.ref d))) (hs7 : σ[7]? = some (some (.ref d))) (hw : ∀ x, wipe ((wipe σ [8]).set 8 (some x)) [8] = wipe σ [8]) (h8 : 8 < (wipe σ [8]).length) (hd : Hc d = some (.dT kvs)) (hF : DictF Hc kvs F) (hl : F.length ≤ 1000) :
    EvT (tB (tCB (rAny K) (tCons (tLockE (tLc (iKeys (tVar 7)) (gName 8) tYes (tDIn (tCall sp_opposite [] E0 (tCons (tVar 8) tNil)) (tVar 7)) [8])) tNil))) σ Hc (!clean F) := fun B H a b Q q => by
  have hdH : H d = some (.dT kvs) := b _ _ (a _ _ hd)
  have hkl : kvs.length = F.length := by
    have := congrArg List.length hF.1
    rw [List.length_map, List.length_map, List.length_map] at this
    exact this
  refine ⟨d, .dT kvs, hdH, by first | trivial | exact rfl, fun od => ?_⟩
  refine ⟨.ref d, hs7, d, od, rfl, .inr ⟨kvs, upd_same, fun D hD => ?_⟩⟩
  have hDd : D ≠ d := fun z => by subst z; rw [upd_same] at hD; cases hD
  have hDH : H D = none := by rw [upd_ne hDd] at hD; exact hD
  let bs : Nat → List Bool := fun i => ((Sw.keys F).take i).map fun c => decide (Sw.opp c ∈ Sw.keys F)
  refine ⟨fun i m H' => m = kvs.length - i ∧ i ≤ kvs.length ∧ ∃ Hu, H' = upd Hu d (.frz od (.dT kvs)) ∧ Hu d = some (.dT kvs) ∧ Go B H B Hu ∧ Hu D = some (.lst ((bs i).map V.bl)), ⟨kvs.length, by simp, Nat.zero_le _, upd H D (.lst []), by rw [upd_comm hDd], by rw [upd_ne hDd.symm]; exact hdH, (GoF.refl b).new hDH, upd_same⟩, ?_⟩
  rintro i m H' ⟨rfl, hin, Hu, rfl, hud, gu, huD⟩
  by_cases hlt : i < kvs.length
  · refine .inr ⟨⟨upd_same, hlt⟩, fun H'' => i + 1 ≤ kvs.length ∧ ∃ Hu, H'' = upd Hu d (.frz od (.dT kvs)) ∧ Hu d = some (.dT kvs) ∧ Go B H B Hu ∧ Hu D = some (.lst ((bs (i + 1)).map V.bl)), fun H'' h => ⟨kvs.length - (i + 1), by omega, rfl, h⟩, fun x H2 y => ?_⟩
    obtain ⟨rfl, k, v, kq, hki, rfl, hkq⟩ := y
    have hik : i < (Sw.keys F).length := by rw [List.length_map, ← hkl]; exact hlt
    have hk : k = keyC (Sw.keys F)[i].1 (Sw.keys F)[i].2 := by
      have h1 : (kvs.map (·.1))[i]? = some k := by rw [List.getElem?_map, hki]; rfl
      rw [hF.1, List.getElem?_map, List.getElem?_eq_getElem hik] at h1
      exact (Option.some.inj h1).symm
    have hIC : IsC (upd Hu d (.frz od (.dT kvs))) (.ref kq) (Sw.keys F)[i] := ⟨kq, rfl, by rw [hkq, hk]; rfl⟩
    refine ⟨hw _, ⟨.ref kq, by rw [List.getElem?_set_self h8], ?_⟩⟩
    refine ⟨_, .ref kq, (Sw.keys F)[i], rfl, hIC, Ex.refl _, fun v1 B1 H1 g1 hv1 => ?_⟩
    have hd1 : H1 d = some (.frz od (.dT kvs)) := g1.ex _ _ upd_same
    obtain ⟨ob, rfl, hob⟩ := hv1
    refine ⟨.ref d, by rw [List.getElem?_set_ne (by decide)]; exact hs, d, _, rfl, .inr ⟨kvs, keyC (Sw.opp (Sw.keys F)[i]).1 (Sw.opp (Sw.keys F)[i]).2, ob, .inr ⟨od, hd1⟩, rfl, g1.sub _ _ hob, rfl⟩, ?_⟩
    have hD1 : H1 D = some (.lst ((bs i).map V.bl)) := g1.ex _ _ (by rw [upd_ne hDd]; exact huD)
    have bl : (bs i).length = i := by
      show (((Sw.keys F).take i).map _).length = i
      rw [List.length_map, List.length_take]; omega
    refine ⟨(bs i).map V.bl, hD1, ?_, hlt, upd (upd H1 d (.dT kvs)) D (.lst ((bs i).map V.bl ++ [.bl ((valV kvs (keyC (Sw.opp (Sw.keys F)[i]).1 (Sw.opp (Sw.keys F)[i]).2)).isSome)])), ?_, by rw [upd_ne hDd.symm, upd_same], ?_, ?_⟩
    · rw [List.length_map, bl]
      exact Nat.lt_of_le_of_lt (by omega : i ≤ 100000) (by decide)
    · rw [upd_comm hDd, upd_upd, upd_self hd1]
    · exact (gu.unlock hdH g1.ex g1.there b).mut hDH (b.none hDH)
    · rw [upd_same, hF.mem]
      congr 2
      show _ = ((((Sw.keys F).take (i + 1)).map _)).map _
      rw [List.take_succ, List.getElem?_eq_getElem hik, List.map_append, List.map_append]; rfl
  · have ei : i = kvs.length := by omega
    subst ei
    refine .inl ⟨⟨upd_same, Nat.le_refl _⟩, upd_same, ?_⟩
    rw [upd_upd, upd_self hud]
    have hall : bs kvs.length = (Sw.keys F).map fun c => decide (Sw.opp c ∈ Sw.keys F) := by
      show ((Sw.keys F).take kvs.length).map _ = _
      rw [List.take_of_length_le (by rw [List.length_map, hkl]; exact Nat.le_refl _)]
    refine ⟨D, bs kvs.length, rfl, sl_of huD, _, rfl, ?_⟩
    have : (bs kvs.length).any id = !clean F := by
      rw [hall]
      unfold clean
      rw [List.any_map, Bool.eq_iff_iff]
      simp
    rw [this]
    exact q B Hu gu
end Sk

/-! solved. -/
namespace Sk
open PySem PySem.Spec PyProof.Rows L2
theorem s_forKeys {σ : L2.St} {H : Hp} {D : Ends} {td : TE} {g : TG} {tb : TS} {d : Addr} {kvs : List (List Key × V)} {F : List (Sw.Ch × Option Sw.Ch)} (Wk : Nat → L2.St → Hp → Prop) (hd : H d = some (.dT kvs)) (hF : kvs.map (·.1) = (Sw.keys F).map fun c => keyC c.1 c.2)
    (htd : ∀ od (Q : VK), Q (.ref d) (upd H d (.frz od (.dT kvs))) → td σ (upd H d (.frz od (.dT kvs))) Q) (h0 : Wk 0 σ H) (hWd : ∀ i σ1 Hu, Wk i σ1 Hu → Hu d = some (.dT kvs))
    (step : ∀ i σ1 Hu od q c, (Sw.keys F)[i]? = some c → Wk i σ1 Hu → IsC (upd Hu d (.frz od (.dT kvs))) (.ref q) c → g (.ref q) σ1 (upd Hu d (.frz od (.dT kvs))) (tb { nx := fun σ' H' => ∃ Hu', H' = upd Hu' d (.frz od (.dT kvs)) ∧ Wk (i + 1) σ' Hu', ct := fun σ' H' => ∃ Hu', H' = upd Hu' d (.frz od (.dT kvs)) ∧ Wk (i + 1) σ' Hu', bk := fun σ' H' => H' d = some (.frz od (.dT kvs)) ∧ D.nx σ' (upd H' d (.dT kvs)), rt := fun v H' => H' d = some (.frz od (.dT kvs)) ∧ D.rt v (upd H' d (.dT kvs)) }))
    (done : ∀ σ1 Hu, Wk (Sw.keys F).length σ1 Hu → D.nx σ1 Hu) : tLock (tFor (iKeys td) g tb) D σ H := by
  have hkl : kvs.length = (Sw.keys F).length := by
    have := congrArg List.length hF
    rw [List.length_map, List.length_map] at this
    exact this
  refine ⟨d, .dT kvs, hd, by first | trivial | exact rfl, fun od => htd od _ ⟨d, od, rfl, .inr ⟨kvs, upd_same, ?_⟩⟩⟩
  refine ⟨fun i m σ1 H' => m = kvs.length - i ∧ i ≤ kvs.length ∧ ∃ Hu, H' = upd Hu d (.frz od (.dT kvs)) ∧ Wk i σ1 Hu, ⟨kvs.length, by simp, Nat.zero_le _, H, rfl, h0⟩, ?_⟩
  rintro i m σ1 H' ⟨rfl, hin, Hu, rfl, hW⟩
  have hud := hWd _ _ _ hW
  by_cases hlt : i < kvs.length
  · refine .inr ⟨⟨upd_same, hlt⟩, fun σ' H' => ∃ Hu', H' = upd Hu' d (.frz od (.dT kvs)) ∧ Wk (i + 1) σ' Hu', fun σ' H' h => ⟨kvs.length - (i + 1), by omega, rfl, hlt, h⟩, fun x H2 y => ?_⟩
    obtain ⟨rfl, k, v, kq, hki, rfl, hkq⟩ := y
    have hik : i < (Sw.keys F).length := by rw [← hkl]; exact hlt
    have hk : k = keyC (Sw.keys F)[i].1 (Sw.keys F)[i].2 := by
      have h1 : (kvs.map (·.1))[i]? = some k := by rw [List.getElem?_map, hki]; rfl
      rw [hF, List.getElem?_map, List.getElem?_eq_getElem hik] at h1
      exact (Option.some.inj h1).symm
    exact step i σ1 Hu od kq _ (List.getElem?_eq_getElem hik) hW ⟨kq, rfl, by rw [hkq, hk]; rfl⟩
  · have ei : i = kvs.length := by omega
    subst ei
    refine .inl ⟨⟨upd_same, Nat.le_refl _⟩, upd_same, ?_⟩
    show D.nx σ1 (upd (upd Hu d _) d _)
    rw [upd_upd, upd_self hud]
    rw [hkl] at hW
    exact done σ1 Hu hW
theorem e_dnewK {σ : L2.St} {Hc : Hp} : EvP tDNewK σ Hc fun u B => ∃ p, u = .ref p ∧ B p = some (.dK []) := fun B H a b Q q p hp => q _ _ _ ((GoF.refl b).laid hp) ⟨p, rfl, upd_same⟩
theorem e_tup2 {σ : L2.St} {Hc : Hp} {ta tb : TE} {P1 P2 : V → Hp → Prop} (h1 : EvP ta σ Hc P1) (h2 : ∀ v B, Ex Hc B → P1 v B → EvP tb σ B P2) : EvP (tTup (tCons ta (tCons tb tNil))) σ Hc fun u B => ∃ p v w B1 B2, u = .ref p ∧ B p = some (.tup [v, w]) ∧ P1 v B1 ∧ Ex Hc B1 ∧ Ex B1 B2 ∧ P2 w B2 ∧ Ex B2 B := fun B H a b Q q =>
  h1 B H a b _ fun v B1 H1 g1 p1 => h2 v B1 (a.trans g1.up) p1 B1 H1 (Ex.refl _) g1.sub _ fun w B2 H2 g2 p2 => ⟨by show 2 ≤ sizeLine; decide, fun p hp => q _ _ _ ((g1.trans g2).laid hp) ⟨p, v, w, B1, B2, rfl, upd_same, p1, a.trans g1.up, g2.up, p2, Ex.new (g2.sub.none hp)⟩⟩
theorem opp_of {d e : Sw.Ch} (h1 : e.1 = d.1) (h2 : e.2 ≠ d.2) : Sw.opp d = e := by
  obtain ⟨a, b⟩ := d
  obtain ⟨a', b'⟩ := e
  have h1 : a' = a := h1
  have h2 : b' ≠ b := h2
  subst h1
  cases b <;> cases b'
  · exact absurd rfl h2
  · rfl
  · rfl
  · exact absurd rfl h2
theorem inl_ne {a b : Nat} (h : a ≠ b) : (Sum.inl (a : Int) : Key) ≠ Sum.inl (b : Int) := fun z => h (by have := Sum.inl.inj z; omega)
def colV (o : Option Bool) : Option V := o.map fun b => .str (word b)
/-- what solved answers -/
inductive Solved (n x q w : Nat) (R : List (List Nat)) (B : Hp) : V → V → Prop
  | yes (pd : Addr) (kvs : List (Key × V)) (τ : Nat → Bool) : B pd = some (.dK kvs) → (∀ y, x < y → y < w → valV kvs (.inl (y : Int)) = some (.str (word (τ y)))) → (∀ y z, x < y → y < w → x < z → z < w → Sw.clash n (rkOf R) x q w (y, τ y) (z, τ z) = false) → Solved n x q w R B (.ref pd) .non
  | no (v : V) (wp : Addr) (us : List V) (cs : List Sw.Ch) : B wp = some (.tup us) → Seq2 (IsC B) us cs → Sw.IsWalk n (rkOf R) x q w cs → cs.length ≤ 400 → Solved n x q w R B v (.ref wp)
theorem Solved.up {u v : V} {n x q w : Nat} {R : List (List Nat)} {B B' : Hp} {u v : V} (h : Solved n x q w R B u v) (e : Ex B B') : Solved n x q w R B' u v := by
  cases h with
  | yes pd kvs τ h1 h2 h3 => exact .yes pd kvs τ (e _ _ h1) h2 h3
  | no v wp us cs h1 h2 h3 h4 => exact .no _ wp us cs (e _ _ h1) (h2.imp fun _ _ h => h.up e) h3 h4
def sp_solved (C : Addr) : Sp := fun vs H Q _ => ∃ (B : Hp) (c : Addr) (n x q w : Nat) (R : List (List Nat)), vs = [.ref c] ∧ IsCh C B c R x q w ∧ Nums n x q w R ∧ Ex B H ∧ ∀ a u v B1 H1, Go B H B1 H1 → B1 a = some (.tup [u, v]) → Solved n x q w R B1 u v → Q (.ref a) H1
section
variable {P : Program} {w₀ : World} {K : PySem.W.Frag} {mg : Str → Option Value} {base : Heap} {C : Addr} (T : Top K mg C)
include T
theorem cal_solved : Cal P w₀ K mg base "solved" ["choices"] 7 (sp_solved C) := by
  refine T.d_solved.cal sc_solved (fun vs H Q E h => ?_) (fun _ _ _ _ _ _ us hl => match us, hl with | [_], _ => rfl) (fun f cdv A outer s H vs Q E hr h => ?_)
  · obtain ⟨B, c, n, x, q, w, R, rfl, _⟩ := h
    rfl
  · obtain ⟨B, c, n, x, q', w, R, rfl, hC, N, ex, qq⟩ := h
    have hu := hu_of hr
    have hu0 := hr.units
    have hn := N.G.le
    have hxq := N.xq
    have hqw := N.qw
    have hwn := N.wn
    refine ⟨_, (pss_cons (ps_asg (pe_tup (pa_cons pe_dnewK (pa_cons ((cal_implications T).pe hr (by decide) rfl (pa_cons (pv 0) pa_nil)) pa_nil))) (pg_tup rfl (pgs_cons (pg_name (i := 1) sc_solved.nd rfl (Or.inl rfl)) (pgs_cons (pg_name (i := 2) sc_solved.nd rfl (by first | exact Or.inl rfl | exact Or.inr rfl)) pgs_nil))))
    (pss_cons (ps_for PassesOwn.never rfl (pi_range2 (by rfl) T.b_range (pa_cons (pe_op op_add (pe_fld (pv 0) rfl) pe_int) (pa_cons (pe_fld (pv 0) rfl) pa_nil))) (pg_name (i := 3) sc_solved.nd rfl (by first | exact Or.inl rfl | exact Or.inr rfl))
      (pss_cons (ps_if (pt_cmp (pc_din hu (pv 3) (pv 1))) (pss_one (ps_continue)) pss_nil)
      (pss_cons (ps_setLc (i := 4) (own := [("way", 5)]) rfl sc_solved.nd rfl rfl (sw_true rfl rfl rfl (by decide +kernel)) (pi_tup (pe_tup (pa_cons (pe_gl (v := .str "left") T.g_LEFT (fun t => ⟨t, rfl⟩) rfl) (pa_cons (pe_gl (v := .str "stay") T.g_STAY (fun t => ⟨t, rfl⟩) rfl) pa_nil)))) (blkOk_by (own := [("way", 5)]) (N := N_solved) (sc := defScope s_solved) (by decide +kernel)) (fun _ _ _ _ _ => (pg_name (i := 5) sc_solved.nd rfl (Or.inl rfl))) (fun _ _ _ _ _ => pts_nil) (fun _ _ _ _ _ => ((cal_implied_by T).pe hr (by decide) rfl (pa_cons (pv 2) (pa_cons (pe_tup (pa_cons (pv 3) (pa_cons (pv 5) pa_nil))) pa_nil)))))
      (pss_cons (ps_setLc (tt := tNot (tB (tCB (rAny K) (tCons (tLockE (tLc (iKeys (tVar 7)) (gName 8) tYes (tDIn (tCall sp_opposite [] E0 (tCons (tVar 8) tNil)) (tVar 7)) [8])) tNil)))) (i := 6) (own := [("found", 7)]) rfl sc_solved.nd rfl rfl (sw_true rfl rfl rfl (by decide +kernel)) (pi_list (pv 4)) (blkOk_by (own := [("found", 7)]) (N := N_solved) (sc := defScope s_solved) (by decide +kernel)) (fun _ _ _ _ _ => (pg_name (i := 7) sc_solved.nd rfl (by first | exact Or.inl rfl | exact Or.inr rfl))) (fun _ _ _ _ _ => (pts_one (pt_not (pt_val (pe_callB (cr_any rfl) (by rfl) T.b_any (by decide +kernel) (pa_cons (pe_lock (pe_lc (own := [("one", 8)]) rfl sc_solved.nd (pi_keys (pv 7)) (blkOk_by (own := [("one", 8)]) (N := N_solved) (sc := cS [(".0", .local), ("found", .cell), ("any", .globalImplicit)]) (by decide +kernel)) (fun _ _ _ _ _ => (pg_name (i := 8) sc_solved.nd rfl (by first | exact Or.inl rfl | exact Or.inr rfl))) (fun _ _ _ _ _ => pts_nil) (fun _ _ _ _ _ => (pe_cmp (pc_din hu ((cal_opposite T).pe hr (by decide) rfl (pa_cons (pv 8) pa_nil)) (pv 7)) rfl)))) pa_nil)))))) (fun _ _ _ _ _ => (pv 7)))
      (pss_cons (ps_if (pt_cmpR (op_eqNil hu0) (pv 6) (pe_lst pa_nil) (nomark _)) (pss_cons (ps_par (i := 9) (j := 10) (by rfl) sc_solved.nd rfl rfl (by decide) rfl rfl (pa_cons ((cal_path_to T).pe hr (by decide) rfl (pa_cons (pe_ix ix_list (pv 4) pe_int (fun _ _ => rfl)) (pa_cons (pe_tup (pa_cons (pv 3) (pa_cons (pe_gl (v := .str "stay") T.g_STAY (fun t => ⟨t, rfl⟩) rfl) pa_nil))) pa_nil))) (pa_cons ((cal_path_to T).pe hr (by decide) rfl (pa_cons (pe_ix ix_list (pv 4) pe_int (fun _ _ => rfl)) (pa_cons (pe_tup (pa_cons (pv 3) (pa_cons (pe_gl (v := .str "left") T.g_LEFT (fun t => ⟨t, rfl⟩) rfl) pa_nil))) pa_nil))) pa_nil)) (by rfl))
        (pss_one (ps_ret (pe_tup (pa_cons pe_dnewK (pa_cons (pe_callTy call_tuple_of (by rfl) T.b_tuple (by decide +kernel) (pa_cons (pe_op op_cat (pv 9) (pe_slice sl_list (pv 10) (po_some pe_int) po_none)) pa_nil)) pa_nil)))))) pss_nil)
      (pss_one (ps_lock (ps_for PassesOwn.never rfl (pi_keys (pe_ix ix_list (pv 6) pe_int (fun _ _ => rfl))) (pg_tup rfl (pgs_cons (pg_name (i := 11) sc_solved.nd rfl (Or.inl rfl)) (pgs_cons (pg_name (i := 5) sc_solved.nd rfl (Or.inl rfl)) pgs_nil)))
        (pss_one (ps_dput hu (pv 1) (pv 11) (pv 5) rfl))))))))))
    (pss_one (ps_ret (pe_tup (pa_cons (pv 1) (pa_cons pe_non pa_nil))))))), ?_⟩
    have h0 : ∃ kn, IsCh0 C B c kn R x q' w := let ⟨kn, h, _⟩ := hC; ⟨kn, h⟩
    refine fun pc hpc => ?_
    have Bc : B pc = none := ex.none hpc
    have gn : Go B H B (upd H pc (.dK [])) := (GoF.refl ex).new hpc
    refine (e_call (sp := sp_implications C) (dvs := []) (E := E0) (tr := tCons (tVar 0) tNil) (P := fun u B => IsLinks B u n R x q' w) (av_cons (v_var rfl) av_nil) fun vs B' e5 e => ?_) B _ (Ex.refl _) gn.sub _ fun lk B1 H1 g1 hlk => ⟨by show 2 ≤ sizeLine; decide, fun pt hpt => ?_⟩
    · rw [e]
      exact fun B1 H1 a b Q q E => ⟨B1, c, n, x, q', w, R, rfl, hC.up (e5.trans a), N, b, fun v2 B2 H2 g h => q _ B2 H2 g h⟩
    have Bc1 := g1.off pc Bc (by rw [upd_same]; simp)
    have hc1 := g1.ex _ _ upd_same
    have gl := (gn.trans g1).laid hpt (o := .tup [.ref pc, lk])
    have hne : pc ≠ pt := fun z => by
      subst z
      rw [hc1] at hpt; cases hpt
    refine ⟨pt, [.ref pc, lk], rfl, st_of upd_same, rfl, .ref pc, [lk], rfl, lk, [], rfl, rfl, ?_⟩
    have hlk2 := hlk.up (Ex.new (g1.sub.none hpt) (o := .tup [.ref pc, lk]))
    have Bc2 : upd B1 pt (.tup [.ref pc, lk]) pc = none := by rw [upd_ne hne]; exact Bc1
    have hc2 : upd H1 pt (.tup [.ref pc, lk]) pc = some (.dK []) := by rw [upd_ne hne]; exact hc1
    generalize upd B1 pt (.tup [.ref pc, lk]) = Bs at gl hlk2 Bc2
    generalize upd H1 pt (.tup [.ref pc, lk]) = Hs at gl hc2
    have h0s : ∃ kn, IsCh0 C Bs c kn R x q' w := let ⟨kn, h, _⟩ := hC.up gl.up; ⟨kn, h⟩
    refine q_for (Hc := Bs) (fun i σ1 B3 H3 => ∃ kvs Ch s3 s4 s5 s6 s7 s8 s9 s10 s11, σ1 = [some (.ref c), some (.ref pc), some lk, s3, s4, s5, s6, s7, s8, s9, s10, s11] ∧ Go B H B3 H3 ∧ B3 pc = none ∧ H3 pc = some (.dK kvs) ∧ (∀ z : Nat, valV kvs (.inl (z : Int)) = colV (Ch z)) ∧ Sw.Chosen n (rkOf R) x q' w Ch (x + 1 + i) ∧ kvs.length ≤ 200 * i)
      (i_rng2 (lo := x + 1) (hi := w) (av_cons (v_addN (IsCh.fld h0s T.cl rfl T.nf_item fun _ _ => rfl) (v_c (v := .int (1 : Nat)))) (av_cons (IsCh.fld h0s T.cl rfl T.nf_last fun _ _ => rfl) av_nil)) (by omega) (by omega)) gl.sub (fun B3 H3 g3 => ⟨[], fun _ => none, _, _, _, _, _, _, _, _, _, rfl, gl.trans g3, g3.off pc Bc2 (by rw [hc2]; simp), g3.ex _ _ hc2, fun z => rfl, Sw.Chosen.start, Nat.zero_le _⟩) (fun i σ1 B3 H3 v B4 H4 hi e3 e3' hW g4 hv => ?_) (fun σ1 B3 H3 e3 e3' hW => ?_)
    · obtain ⟨kvs, Ch, s3, s4, s5, s6, s7, s8, s9, s10, s11, rfl, gg, Bc3, hc3, hcol, hCh, hkl⟩ := hW
      subst hv
      have hc4 := g4.ex _ _ hc3
      have Bc4 := g4.off pc Bc3 (by rw [hc3]; simp)
      have gg4 := gg.trans g4
      refine q_when (Hc := H4) (t_B (v_din (k := .inl ((x + 1 + i : Nat) : Int)) (v_var rfl) (v_var rfl) (.inl hc4))) (Ex.refl _) (fun z B5 H5 g5 => ?_) (fun z B5 H5 g5 => ?_)
      · have g5' := g5.hid g4.sub
        rw [hcol] at z
        obtain ⟨b, hb⟩ : ∃ b, Ch (x + 1 + i) = some b := by
          cases h : Ch (x + 1 + i) with
          | some b => exact ⟨b, rfl⟩
          | none => rw [h] at z; cases z
        exact ⟨B4, g4.up, g5'.sub, kvs, Ch, _, _, _, _, _, _, _, _, _, rfl, gg4.trans g5', Bc4, g5'.ex _ _ hc4, hcol, hCh.skip hb, by omega⟩
      have g5' := g5.hid g4.sub
      have gg5 := gg4.trans g5'
      have hc5 := g5'.ex _ _ hc4
      have hnone : Ch (x + 1 + i) = none := by
        rw [hcol] at z
        cases h : Ch (x + 1 + i) with
        | none => rfl
        | some b => rw [h] at z; cases z
      have hlk4 := hlk2.up (e3.trans g4.up)
      -- the two closures
      have hcl := e_lc (σ := [some (.ref c), some (.ref pc), some lk, some (vN (x + 1 + i)), s4, s5, s6, s7, s8, s9, s10, s11]) (Hc := B4) (n := 2) (vs := [5]) (g := gName 5) (tt := tYes) (te := tCall sp_implied_by [] E0 (tCons (tVar 2) (tCons (tTup (tCons (tVar 3) (tCons (tVar 5) tNil))) tNil))) (wi := iTup K (tTup (tCons (tC (.str "left")) (tCons (tC (.str "stay")) tNil))))
        (P := fun u B => ∃ p v0 v1 k0 k1 F0 F1 p0 p1, u = .ref p ∧ B p = some (.lst [v0, v1]) ∧ v0 = .ref p0 ∧ v1 = .ref p1 ∧ B p0 = some (.dT k0) ∧ B p1 = some (.dT k1) ∧ DictF B k0 F0 ∧ DictF B k1 F1 ∧ Sw.Part n (rkOf R) x q' w (x + 1 + i, true) F0 ∧ Sw.Part n (rkOf R) x q' w (x + 1 + i, false) F1 ∧ Sw.Closed n (rkOf R) x q' w F0 ∧ Sw.Closed n (rkOf R) x q' w F1)
        (fun j v B => ∃ p kf F, v = .ref p ∧ B p = some (.dT kf) ∧ DictF B kf F ∧ Sw.Part n (rkOf R) x q' w (x + 1 + i, j == 0) F ∧ Sw.Closed n (rkOf R) x q' w F) (fun _ => true)
        (i_tup (e_tupV (xs := [.str "left", .str "stay"]) (av_cons v_c (av_cons v_c av_nil)) (by simp)).st) (by omega) (fun j v B6 hj e6 hv => g_name fun B7 e7 => ⟨rfl, t_yes, fun _ => ?_⟩) (fun j v B B' _ e ⟨p, kf, F, h1, h2, h3, h4, h5⟩ => ⟨p, kf, F, h1, e _ _ h2, h3.up e, h4, h5⟩) (fun p xs B e hp hs => ?_)
      rotate_left
      · have hv : v = .str (word (j == 0)) := by
          match j, hj with
          | 0, _ => exact (Option.some.inj hv).symm
          | 1, _ => exact (Option.some.inj hv).symm
        subst hv
        refine e_call (PA := fun vs B => ∃ v', vs = [lk, v'] ∧ IsC B v' (x + 1 + i, j == 0)) (a_cons (P := fun a _ => a = lk) (PR := fun vs B => ∃ v', vs = [v'] ∧ IsC B v' (x + 1 + i, j == 0)) (v_var rfl) (fun a B8 e8 _ => a_one (P := fun v' B2 => IsC B2 v' (x + 1 + i, j == 0)) ((e_tupV (xs := [vN (x + 1 + i), .str (word (j == 0))]) (av_cons (v_var rfl) (av_cons (v_var rfl) av_nil)) (by simp)).wk fun u B _ ⟨p, h1, h2⟩ => ⟨p, h1, h2⟩) (fun v' B2 _ h => ⟨v', rfl, h⟩) fun v' B1 B2 e h => h.up e) fun a as B1 B2 _ _ h1 ⟨v', h2, h3⟩ => ⟨v', by rw [h1, h2], h3⟩) fun vs B2 e2' ⟨v', ev, hv'⟩ => ?_
        subst ev
        exact fun B3 H3 a b Q q E => ⟨B3, n, x, q', w, R, lk, v', (x + 1 + i, j == 0), rfl, hlk4.up (e6.trans (e7.trans (e2'.trans a))), hv'.up a, ⟨by show x < x + 1 + i; omega, by show x + 1 + i < w; omega⟩, by omega, b, fun p B4 H4 kf F g h1 h2 h3 h4 => q _ B4 H4 g ⟨p, kf, F, rfl, h1, h2, h3, h4⟩⟩
      · rw [kept_all] at hs
        have h2 : xs.length = 2 := hs.len
        match xs, h2 with
        | [v0, v1], _ =>
          obtain ⟨p0, k0, F0, a1, a2, a3, a4, a5⟩ := hs.at_ 0 v0 0 rfl rfl
          obtain ⟨p1, k1, F1, b1, b2, b3, b4, b5⟩ := hs.at_ 1 v1 1 rfl rfl
          exact ⟨p, v0, v1, k0, k1, F0, F1, p0, p1, rfl, hp, a1, b1, a2, b2, a3, b3, a4, b4, a5, b5⟩
      refine q_asg hcl g5'.sub fun u6 B6 H6 g6 ⟨pcl, v0, v1, k0, k1, F0, F1, p0, p1, e6, hpcl, ev0, ev1, hp0, hp1, hF0, hF1, P0, P1, cl0, cl1⟩ => ?_
      subst e6 ev0 ev1
      have lF0 := P0.len_le
      have lF1 := P1.len_le
      have hc6 := g6.ex _ _ hc5
      have Bc6 := g6.off pc Bc4 (by rw [hc5]; simp)
      have gg6 := gg5.trans g6
      let fg : Nat → Bool := fun j => if j = 0 then clean F0 else clean F1
      let fv : Nat → V := fun j => if j = 0 then .ref p0 else .ref p1
      have hgd := e_lcV (σ := [some (.ref c), some (.ref pc), some lk, some (vN (x + 1 + i)), some (.ref pcl), s5, s6, s7, s8, s9, s10, s11]) (Hc := B6) (n := 2) (vs := [7]) (j := 7) (tt := tNot (tB (tCB (rAny K) (tCons (tLockE (tLc (iKeys (tVar 7)) (gName 8) tYes (tDIn (tCall sp_opposite [] E0 (tCons (tVar 8) tNil)) (tVar 7)) [8])) tNil)))) (te := tVar 7) (wi := iList K (tVar 4)) fg fv (i_list (l_var rfl hpcl).sl) (by omega) (fun x => rfl) (fun j v B7 hj e7 hv => ?_) (fun j v B7 hj e7 hv _ => v_var ?_)
      rotate_left
      · match j, hj with
        | 0, _ =>
          have hv := (Option.some.inj hv).symm
          subst hv
          exact EvT.is (t_not (t_anyOpp rfl rfl (fun _ => rfl) (by show 8 < 12; decide) (e7 _ _ hp0) (hF0.up e7) (by omega))) (Bool.not_not _)
        | 1, _ =>
          have hv := (Option.some.inj hv).symm
          subst hv
          exact EvT.is (t_not (t_anyOpp rfl rfl (fun _ => rfl) (by show 8 < 12; decide) (e7 _ _ hp1) (hF1.up e7) (by omega))) (Bool.not_not _)
      · match j, hj with
        | 0, _ => rw [← Option.some.inj hv]; rfl
        | 1, _ => rw [← Option.some.inj hv]; rfl
      refine q_asg hgd g6.sub fun u7 B7 H7 g7 ⟨pg, e7, hpg⟩ => ?_
      subst e7
      have hc7 := g7.ex _ _ hc6
      have Bc7 := g7.off pc Bc6 (by rw [hc6]; simp)
      have gg7 := gg6.trans g7
      have hPath : ∀ {B8 : Hp} {pj : Addr} {kj : List (List Key × V)} {Fj : List (Sw.Ch × Option Sw.Ch)} {b : Bool} {bi : Nat} {tstr : Str}, Ex B7 B8 → ([V.ref p0, V.ref p1][bi]? = some (.ref pj)) → tstr = word (!b) → B6 pj = some (.dT kj) → DictF B6 kj Fj → Sw.Part n (rkOf R) x q' w (x + 1 + i, b) Fj → (x + 1 + i, !b) ∈ Sw.keys Fj →
          EvP (tCall sp_path_to [] E0 (tCons (tOp (rIxL K) (tVar 4) (tC (.int (bi : Nat)))) (tCons (tTup (tCons (tVar 3) (tCons (tC (.str tstr)) tNil))) tNil))) [some (.ref c), some (.ref pc), some lk, some (vN (x + 1 + i)), some (.ref pcl), s5, some (.ref pg), s7, s8, s9, s10, s11] B8 fun u B => ∃ p us cs, u = .ref p ∧ B p = some (.lst us) ∧ Seq2 (IsC B) us cs ∧ Sw.Path n (rkOf R) x q' w (x + 1 + i, b) (x + 1 + i, !b) cs ∧ cs.length ≤ 200 := fun {B8 pj kj Fj b bi tstr} e8 hbi ht hk hF hP hm => by
        subst ht
        refine e_call (PA := fun vs B => ∃ v', vs = [.ref pj, v'] ∧ IsC B v' (x + 1 + i, !b)) (a_cons (P := fun a _ => a = .ref pj) (PR := fun vs B => ∃ v', vs = [v'] ∧ IsC B v' (x + 1 + i, !b)) (v_ixL (l_var rfl ((g7.up.trans e8) _ _ hpcl)) v_c (atI_nat hbi)) (fun a B9 e9 _ => a_one (P := fun v' B2 => IsC B2 v' (x + 1 + i, !b)) ((e_tupV (xs := [vN (x + 1 + i), .str (word (!b))]) (av_cons (v_var rfl) (av_cons v_c av_nil)) (by simp)).wk fun u B _ ⟨p, h1, h2⟩ => ⟨p, h1, h2⟩) (fun v' B2 _ h => ⟨v', rfl, h⟩) fun v' B1 B2 e h => h.up e) fun a as B1 B2 _ _ h1 ⟨v', h2, h3⟩ => ⟨v', by rw [h1, h2], h3⟩) fun vs B2 e2' ⟨v', ev, hv'⟩ => ?_
        subst ev
        have eB := g7.up.trans (e8.trans e2')
        exact fun B3 H3 a b' Q q E => ⟨B3, n, x, q', w, R, pj, v', kj, (x + 1 + i, b), (x + 1 + i, !b), Fj, rfl, .inl ((eB.trans a) _ _ hk), hF.up (eB.trans a), hP, hm, hv'.up a, by omega, b', fun p B4 H4 us cs g h1 h2 h3 h4 => q _ B4 H4 g ⟨p, us, cs, rfl, h1, h2, h3, h4⟩⟩
      have dirty : ∀ {F : List (Sw.Ch × Option Sw.Ch)} {b : Bool}, clean F = false → Sw.Part n (rkOf R) x q' w (x + 1 + i, b) F → Sw.Closed n (rkOf R) x q' w F → (x + 1 + i, !b) ∈ Sw.keys F := fun {F b} h hP hcl => by
        unfold clean at h
        rw [List.all_eq_false] at h
        obtain ⟨c, hc, h⟩ := h
        have h : Sw.opp c ∈ Sw.keys F := by simpa using h
        exact hP.root_opp hcl hc h
      have kk : kept 2 fg = (if clean F0 = true then [0] else []) ++ (if clean F1 = true then [1] else []) := by
        show (List.range 2).filter fg = _
        have : List.range 2 = [0, 1] := rfl
        rw [this, List.filter_cons, List.filter_cons, List.filter_nil]
        show (if clean F0 = true then _ else _) = _
        cases clean F0 <;> cases h1 : clean F1 <;> simp [fg, h1]
      refine q_when (t_test (v_eqNilA (l_var rfl hpg))) g7.sub (fun z B8 H8 g8 => ?_) (fun z B8 H8 g8 => ?_)
      · have z := of_decide_eq_true z
        rw [kk] at z
        have z0 : clean F0 = false := by
          cases h : clean F0 with
          | false => rfl
          | true => rw [h] at z; simp at z
        have z1 : clean F1 = false := by
          cases h : clean F1 with
          | false => rfl
          | true => rw [h] at z; simp at z
        refine q_par (hPath (b := true) (bi := 0) g8.up rfl rfl hp0 hF0 P0 (dirty z0 P0 cl0)) (fun v B9 e9 _ => hPath (b := false) (bi := 1) (g8.up.trans e9) rfl rfl hp1 hF1 P1 (dirty z1 P1 cl1)) g8.sub fun u1 u2 Ba Bb H9 g9 eab ⟨pa, ua, ca, ea, ha1, ha2, ha3, ha4⟩ ⟨pb, ub, cb, eb, hb1, hb2, hb3, hb4⟩ => ?_
        subst ea eb
        have la := ha2.len
        have lb := hb2.len
        have hcutb : cutV ub (some ((1 : Nat) : Int)) none = ub.drop 1 := by
          refine cut_drop ?_
          obtain ⟨r, hr'⟩ := hb3.head
          rw [lb, hr']
          simp
        refine s_ret (e_tup2 (P1 := fun _ _ => True) (P2 := fun u B => ∃ wp us cs, u = .ref wp ∧ B wp = some (.tup us) ∧ Seq2 (IsC B) us cs ∧ Sw.IsWalk n (rkOf R) x q' w cs ∧ cs.length ≤ 400) (e_dnewK.wk fun _ _ _ _ => trivial) fun _ Bc' ec _ => ?_) g9.sub fun v B10 H10 g10 ⟨p, v', w', B1', B2', e, hp, _, _, _, ⟨wp, us, cs, e2, h1, h2, h3, h4⟩, e3'⟩ => ?_
        · refine (e_tupOf (e_catL (xs := ua) (ys := ub.drop 1) (l_var rfl ((eab.trans ec) _ _ ha1)) (e_slL (l_var rfl (ec _ _ hb1)) (o_some (i := ((1 : Nat) : Int)) v_c) o_none hcutb) (by rw [List.length_drop]; omega))).wk fun u B e ⟨p, h1, h2⟩ => ⟨p, ua ++ ub.drop 1, ca ++ cb.drop 1, h1, h2, ?_, ?_, ?_⟩
          · have s1 : Seq2 (IsC B) ua ca := ha2.imp fun _ _ h => h.up (eab.trans (ec.trans e))
            have s2 : Seq2 (IsC B) ub cb := hb2.imp fun _ _ h => h.up (ec.trans e)
            refine ⟨by rw [List.length_append, List.length_append, List.length_drop, List.length_drop, la, lb], fun k v c h1 h2 => ?_⟩
            by_cases hk : k < ua.length
            · rw [List.getElem?_append_left hk] at h1
              rw [List.getElem?_append_left (by omega)] at h2
              exact s1.at_ k v c h1 h2
            · rw [List.getElem?_append_right (by omega), List.getElem?_drop] at h1
              rw [List.getElem?_append_right (by omega), List.getElem?_drop, ← la] at h2
              exact s2.at_ _ v c h1 h2
          · have := Sw.walk_of (c := (x + 1 + i, true)) ha3 hb3
            rw [← List.drop_one] at this
            exact this
          · rw [List.length_append, List.length_drop]; omega
        · subst e e2
          exact qq p v' _ B10 H10 (gg7.trans (g8.trans (g9.trans g10))) hp (.no v' wp us cs (e3' _ _ h1) (h2.imp fun _ _ h => h.up e3') h3 h4)
      · have z := of_decide_eq_false z
        obtain ⟨pd, kd, Fd, b, hgl, hpd, hFd, hPd, hcld, hclean⟩ : ∃ pd kd Fd b, ((kept 2 fg).map fv)[0]? = some (V.ref pd) ∧ B6 pd = some (.dT kd) ∧ DictF B6 kd Fd ∧ Sw.Part n (rkOf R) x q' w (x + 1 + i, b) Fd ∧ Sw.Closed n (rkOf R) x q' w Fd ∧ clean Fd = true := by
          rw [kk] at z ⊢
          cases h0 : clean F0 with
          | true => exact ⟨p0, k0, F0, true, rfl, hp0, hF0, P0, cl0, h0⟩
          | false =>
            cases h1 : clean F1 with
            | true => exact ⟨p1, k1, F1, false, rfl, hp1, hF1, P1, cl1, h1⟩
            | false => rw [h0, h1] at z; exact absurd rfl z
        have gg8 := gg7.trans g8
        have hc8 := g8.ex _ _ hc7
        have Bc8 := g8.off pc Bc7 (by rw [hc7]; simp)
        have hpd8 : B8 pd = some (.dT kd) := (g7.up.trans g8.up) _ _ hpd
        have npc : pc ≠ pd := fun e => by
          subst e
          rw [hpd8] at Bc8; cases Bc8
        have hpg8 := g8.up _ _ hpg
        have npg : pg ≠ pd := fun e => by
          subst e
          rw [hpd8] at hpg8; cases hpg8
        have lFd := hPd.len_le
        have nopp : ∀ c, c ∈ Sw.keys Fd → Sw.opp c ∉ Sw.keys Fd := fun c hc => by
          unfold clean at hclean
          have := List.all_eq_true.mp hclean c hc
          simpa using this
        refine s_forKeys (fun j σ1 Hu => ∃ kvs' t5 t7 t8 t11, σ1 = [some (.ref c), some (.ref pc), some lk, some (vN (x + 1 + i)), some (.ref pcl), t5, some (.ref pg), t7, t8, s9, s10, t11] ∧ Go B H B8 Hu ∧ Hu pc = some (.dK kvs') ∧ Hu pd = some (.dT kd) ∧ (∀ d, d ∈ (Sw.keys Fd).take j → valV kvs' (.inl (d.1 : Int)) = some (.str (word d.2))) ∧ (∀ z : Nat, (∀ b, (z, b) ∉ (Sw.keys Fd).take j) → valV kvs' (.inl (z : Int)) = colV (Ch z)) ∧ kvs'.length ≤ 200 * i + j)
          (g8.sub _ _ hpd8) hFd.1 (fun od Q k => ⟨.ref pg, rfl, pg, (kept 2 fg).map fv, 0, .ref pd, rfl, rfl, sl_of (by rw [upd_ne npg]; exact g8.sub _ _ hpg8), atI_nat (i := 0) hgl, k⟩) ⟨kvs, _, _, _, _, rfl, gg8, hc8, g8.sub _ _ hpd8, fun d hd => absurd hd (by simp), fun z _ => hcol z, by omega⟩ (fun j σ1 Hu h => let ⟨_, _, _, _, _, _, _, _, h, _⟩ := h; h) (fun j σ1 Hu od kq d hd hW hIC => ?_) (fun σ1 Hu hW => ?_)
        · obtain ⟨kvs', t5, t7, t8, t11, rfl, gu, hcu, hdu, hin, hout, hlen⟩ := hW
          obtain ⟨a, ea, ha⟩ := hIC
          injection ea with ea
          subst ea
          refine ⟨kq, [vN d.1, .str (word d.2)], rfl, st_of ha, rfl, vN d.1, [.str (word d.2)], rfl, .str (word d.2), [], rfl, rfl, ?_⟩
          refine ⟨.str (word d.2), rfl, .ref pc, rfl, vN d.1, rfl, pc, _, rfl, .inl ⟨kvs', .inl (d.1 : Int), by rw [upd_ne npc]; exact hcu, rfl, Nat.lt_of_le_of_lt (by
            have hj := (List.getElem?_eq_some_iff.mp hd).1
            rw [List.length_map] at hj
            omega : kvs'.length ≤ 100000) (by decide), rfl⟩, ?_⟩
          have hmd := List.mem_of_getElem? hd
          have tk : ∀ e : Sw.Ch, e ∈ (Sw.keys Fd).take (j + 1) ↔ e ∈ (Sw.keys Fd).take j ∨ e = d := fun e => by
            rw [List.take_succ, hd, List.mem_append]
            simp
          refine ⟨upd Hu pc (.dK (putK kvs' (.inl (d.1 : Int)) (.str (word d.2)))), (upd_comm npc).symm, _, _, _, _, _, rfl, gu.mut hpc Bc8, upd_same, by rw [upd_ne npc.symm]; exact hdu, fun e he => ?_, fun z hz => ?_, ?_⟩
          · rw [valV_put]
            by_cases h1 : e.1 = d.1
            · have h2 : e.2 = d.2 := by
                by_cases h2 : e.2 = d.2
                · exact h2
                · exfalso
                  have hem : e ∈ Sw.keys Fd := by
                    rcases (tk e).mp he with h | h
                    · exact List.mem_of_mem_take h
                    · rw [h]; exact hmd
                  refine nopp d hmd ?_
                  have : Sw.opp d = e := opp_of h1 h2
                  rw [this]; exact hem
              rw [h1, h2, if_pos rfl]
            · rw [if_neg (inl_ne h1)]
              rcases (tk e).mp he with h | h
              · exact hin e h
              · exact absurd (by rw [h]) h1
          · rw [valV_put, if_neg (fun e => by
              have e := Int.ofNat.inj (Sum.inl.inj e)
              have e : z = d.1 := e
              exact hz d.2 ((tk _).mpr (.inr (by rw [e]))))]
            exact hout z fun b hb => hz b ((tk _).mpr (.inl hb))
          · have := length_putK kvs' (.inl (d.1 : Int)) (.str (word d.2))
            omega
        · obtain ⟨kvs', t5, t7, t8, t11, rfl, gu, hcu, hdu, hin, hout, hlen⟩ := hW
          have tkall : (Sw.keys Fd).take (Sw.keys Fd).length = Sw.keys Fd := List.take_length
          rw [tkall] at hin hout
          have lk' : (Sw.keys Fd).length = Fd.length := List.length_map _
          refine ⟨B8, g4.up.trans (g6.up.trans (g7.up.trans g8.up)), gu.sub, kvs', fun z => if (z, true) ∈ Sw.keys Fd then some true else if (z, false) ∈ Sw.keys Fd then some false else Ch z, _, _, _, _, _, _, _, _, _, rfl, gu, Bc8, hcu, fun z => ?_, ?_, by omega⟩
          · show _ = colV (if (z, true) ∈ Sw.keys Fd then some true else if (z, false) ∈ Sw.keys Fd then some false else Ch z)
            by_cases h1 : (z, true) ∈ Sw.keys Fd
            · rw [if_pos h1]
              exact hin _ h1
            · rw [if_neg h1]
              by_cases h2 : (z, false) ∈ Sw.keys Fd
              · rw [if_pos h2]
                exact hin _ h2
              · rw [if_neg h2]
                exact hout z fun b hb => by cases b; exact h2 hb; exact h1 hb
          · have := hCh.add (b := b) hnone hPd hcld (C' := fun z => if (z, true) ∈ Sw.keys Fd then some true else if (z, false) ∈ Sw.keys Fd then some false else Ch z) (fun d hd => ?_) fun z hz => ?_
            · exact this
            · obtain ⟨z, bb⟩ := d
              cases bb with
              | true =>
                show (if (z, true) ∈ Sw.keys Fd then some true else if (z, false) ∈ Sw.keys Fd then some false else Ch z) = some true
                rw [if_pos hd]
              | false =>
                show (if (z, true) ∈ Sw.keys Fd then some true else if (z, false) ∈ Sw.keys Fd then some false else Ch z) = some false
                have hno : (z, true) ∉ Sw.keys Fd := nopp _ hd
                rw [if_neg hno, if_pos hd]
            · show (if (z, true) ∈ Sw.keys Fd then some true else if (z, false) ∈ Sw.keys Fd then some false else Ch z) = Ch z
              rw [if_neg (hz true), if_neg (hz false)]
    · obtain ⟨kvs, Ch, s3, s4, s5, s6, s7, s8, s9, s10, s11, rfl, gg, Bc3, hc3, hcol, hCh, hkl⟩ := hW
      have gz := gg.shown hc3 hpc
      have hx1 : x + 1 + (w - (x + 1)) = w := by omega
      rw [hx1] at hCh
      have htau : ∀ z, x < z → z < w → Ch z = some ((Ch z).getD true) := fun z h1 h2 => by
        obtain ⟨b, hb⟩ := hCh.below z h1 h2
        rw [hb]; rfl
      refine s_ret (e_tup2 (P1 := fun u _ => u = .ref pc) (P2 := fun u _ => u = .non) (v_var rfl) fun _ _ _ _ => v_c) gz.sub fun v B5 H5 g5 ⟨p, v', w', B1', B2', e, hp, e1, _, _, e2, _⟩ => ?_
      subst e e1 e2
      exact qq p _ _ B5 H5 (gz.trans g5) hp (.yes pc kvs (fun z => (Ch z).getD true) (g5.up _ _ upd_same) (fun y h1 h2 => by rw [hcol, htau y h1 h2]; rfl) (hCh.free htau))
end
end Sk

/-! reach_right, reach. -/
namespace Sk
open PySem PySem.Spec PyProof.Rows L2
/-- a reason for one last item -/
inductive IsRsn (n x q w : Nat) (R : List (List Nat)) (B : Hp) (r : Addr) : Prop
  | index : B r = some (.tup [.str "index"]) → Sw.leftIdx (rkOf R) x q w ≠ some (q - x) → IsRsn n x q w R B r
  | walk (wp : Addr) (us : List V) (cs : List Sw.Ch) : B r = some (.tup [.str "walk", .ref wp]) → B wp = some (.tup us) → Seq2 (IsC B) us cs → Sw.IsWalk n (rkOf R) x q w cs → cs.length ≤ 400 → Sw.leftIdx (rkOf R) x q w = some (q - x) → IsRsn n x q w R B r
theorem IsRsn.up {n x q w : Nat} {R : List (List Nat)} {B B' : Hp} {r : Addr} (h : IsRsn n x q w R B r) (e : Ex B B') : IsRsn n x q w R B' r := by
  cases h with
  | index h1 h2 => exact .index (e _ _ h1) h2
  | walk wp us cs h1 h2 h3 h4 h5 h6 => exact .walk wp us cs (e _ _ h1) (e _ _ h2) (h3.imp fun _ _ h => h.up e) h4 h5 h6
def IsEnt (n x q : Nat) (R : List (List Nat)) (B : Hp) (w : Nat) (u : V) : Prop := ∃ a r, u = .ref a ∧ B a = some (.tup [vN w, .ref r]) ∧ IsRsn n x q w R B r
theorem IsEnt.up {n x q w : Nat} {R : List (List Nat)} {B B' : Hp} {u : V} (h : IsEnt n x q R B w u) (e : Ex B B') : IsEnt n x q R B' w u := let ⟨a, r, h1, h2, h3⟩ := h; ⟨a, r, h1, e _ _ h2, h3.up e⟩
def IsBlk (n x q : Nat) (R : List (List Nat)) (B : Hp) (v : V) : Prop := ∃ bp us, v = .ref bp ∧ B bp = some (.tup us) ∧ us.length = n - q ∧ ∀ i u, us[i]? = some u → IsEnt n x q R B (q + i) u
theorem IsBlk.up {n x q : Nat} {R : List (List Nat)} {B B' : Hp} {v : V} (h : IsBlk n x q R B v) (e : Ex B B') : IsBlk n x q R B' v := let ⟨bp, us, h1, h2, h3, h4⟩ := h; ⟨bp, us, h1, e _ _ h2, h3, fun i u h => (h4 i u h).up e⟩
/-- what reach_right answers: word, value -/
inductive RAns (n x q : Nat) (R : List (List Nat)) (B : Hp) : V → V → Prop
  | seq (v : V) (s : List Nat) : IsRow B v s → Sw.Valid n (rkOf R) s → Sw.it (Sw.rowAfter n s) q = x → s.length ≤ 2000 → RAns n x q R B (.str "sequence") v
  | block (v : V) : IsBlk n x q R B v → RAns n x q R B (.str "block") v
theorem RAns.up {n x q : Nat} {R : List (List Nat)} {B B' : Hp} {u v : V} (h : RAns n x q R B u v) (e : Ex B B') : RAns n x q R B' u v := by
  cases h with
  | seq _ s h1 h2 h3 h4 => exact .seq _ s (h1.up e) h2 h3 h4
  | block _ h1 => exact .block _ (h1.up e)
def sp_reach_right : Sp := fun vs H Q _ => ∃ (B : Hp) (v : V) (n x q : Nat) (R : List (List Nat)), vs = [v, vN x, vN q] ∧ IsRk B v R ∧ Rkg n R ∧ x < q ∧ q < n ∧ Ex B H ∧ ∀ a u v1 B1 H1, Go B H B1 H1 → B1 a = some (.tup [u, v1]) → RAns n x q R B1 u v1 → Q (.ref a) H1
section
variable {P : Program} {w₀ : World} {K : PySem.W.Frag} {mg : Str → Option Value} {base : Heap} {C : Addr} (T : Top K mg C)
include T
theorem cal_reach_right : Cal P w₀ K mg base "reach_right" ["rankings", "item", "person"] 8 sp_reach_right := by
  refine T.d_reach_right.cal sc_reach_right (fun vs H Q E h => ?_) (fun _ _ _ _ _ _ us hl => match us, hl with | [_, _, _], _ => rfl) (fun f cdv A outer s H vs Q E hr h => ?_)
  · obtain ⟨B, v, n, x, q, R, rfl, _⟩ := h
    rfl
  · obtain ⟨B, v, n, x, q, R, rfl, hR, G, hxq, hqn, ex, qq⟩ := h
    have hn := G.le
    refine ⟨_, (pss_cons (ps_par (i := 3) (j := 4) (by rfl) sc_reach_right.nd rfl rfl (by decide) rfl rfl (pa_cons ((cal_rank_tables T).pe hr (by decide) rfl (pa_cons (pv 0) pa_nil)) (pa_cons (pe_lst pa_nil) pa_nil)) (by rfl))
    (pss_cons (ps_for PassesOwn.never rfl (pi_range2 (by rfl) T.b_range (pa_cons (pv 2) (pa_cons (pe_callB call_len_seq (by rfl) T.b_len PySem.boot_len (pa_cons (pv 0) pa_nil)) pa_nil))) (pg_name (i := 5) sc_reach_right.nd rfl (Or.inl rfl))
      (pss_cons (ps_set (i := 6) sc_reach_right.nd rfl (Or.inl rfl) ((mak_Choices T).pe hr (by decide) rfl T.g_Choices (pa_cons (pv 3) (pa_cons (pv 1) (pa_cons (pv 2) (pa_cons (pv 5) pa_nil))))))
      (pss_cons (ps_if (pt_not (pt_val ((mal_last_fits T).pe0 T.cl hr (by decide) (pv 6)))) (pss_cons (ps_expr (pe_bm PySem.F.plainAttrs_list PySem.F.slot_list_append PySem.F.type_list_append mt_append (pv 4) (pa_cons (pe_tup (pa_cons (pv 5) (pa_cons (pe_tup (pa_cons pe_str pa_nil)) pa_nil))) pa_nil)))
        (pss_one (ps_continue))) pss_nil)
      (pss_cons (ps_asg ((cal_solved T).pe hr (by decide) rfl (pa_cons (pv 6) pa_nil)) (pg_tup rfl (pgs_cons (pg_name (i := 7) sc_reach_right.nd rfl (Or.inl rfl)) (pgs_cons (pg_name (i := 8) sc_reach_right.nd rfl (Or.inl rfl)) pgs_nil))))
      (pss_cons (ps_if (pt_cmpR op_isN (pv 8) pe_non (nomark _)) (pss_one (ps_ret (pe_tup (pa_cons pe_str (pa_cons ((cal_sequence_to T).pe hr (by decide) rfl (pa_cons ((cal_arrangement_for T).pe hr (by decide) rfl (pa_cons (pe_callB call_len_seq (by rfl) T.b_len PySem.boot_len (pa_cons (pv 0) pa_nil)) (pa_cons (pv 1) (pa_cons (pv 2) (pa_cons (pv 5) (pa_cons (pv 7) pa_nil)))))) pa_nil)) pa_nil))))) pss_nil)
      (pss_one (ps_expr (pe_bm PySem.F.plainAttrs_list PySem.F.slot_list_append PySem.F.type_list_append mt_append (pv 4) (pa_cons (pe_tup (pa_cons (pv 5) (pa_cons (pe_tup (pa_cons pe_str (pa_cons (pv 8) pa_nil))) pa_nil))) pa_nil)))))))))
    (pss_one (ps_ret (pe_tup (pa_cons pe_str (pa_cons (pe_callTy call_tuple_of (by rfl) T.b_tuple (by decide +kernel) (pa_cons (pv 4) pa_nil)) pa_nil))))))), ?_⟩
    refine q_parF (P1 := fun u B => IsTab B u R) (o := .lst []) (e_call (av_cons (v_var rfl) av_nil) fun vs B' e5 e => ?_) (fun _ B2 _ _ => f_lst av_nil (by simp)) ex fun tb pb Bs Hs gs hT hbn Bb hb => ?_
    · rw [e]
      exact fun B1 H1 a b Q q E => ⟨B1, v, n, R, rfl, hR.up (e5.trans a), G, b, fun v2 B2 H2 g h => q _ B2 H2 g h⟩
    obtain ⟨pR, rus, rfl, hpR, hRs⟩ := id hR
    have hlenR : rus.length = n := by rw [hRs.len, G.len]
    refine q_for (Hc := Bs) (fun i σ1 B3 H3 => ∃ us s5 s6 s7 s8, σ1 = [some (.ref pR), some (vN x), some (vN q), some tb, some (.ref pb), s5, s6, s7, s8] ∧ Go B H B3 H3 ∧ B3 pb = none ∧ H3 pb = some (.lst us) ∧ us.length = i ∧ ∀ j u, us[j]? = some u → IsEnt n x q R B3 (q + j) u)
      (i_rng2 (lo := q) (hi := n) (av_cons (v_var rfl) (av_cons (v_lenT (n := n) (t_var rfl (gs.up _ _ hpR)) hlenR) av_nil)) (by omega) (by omega)) gs.sub (fun B3 H3 g3 => ⟨[], _, _, _, _, rfl, gs.trans g3, g3.off pb Bb (by rw [hb]; simp), g3.ex _ _ hb, rfl, fun j u h => by simp at h⟩) (fun i σ1 B3 H3 v B4 H4 hi e3 e3' hW g4 hv => ?_) (fun σ1 B3 H3 e3 e3' hW => ?_)
    · obtain ⟨us, s5, s6, s7, s8, rfl, gg, Bb3, hb3, hul, hent⟩ := hW
      subst hv
      have hb4 := g4.ex _ _ hb3
      have Bb4 := g4.off pb Bb3 (by rw [hb3]; simp)
      have N : Nums n x q (q + i) R := ⟨G, hxq, by omega, by omega⟩
      refine q_asg (P := fun u B => ∃ c, u = .ref c ∧ IsCh C B c R x q (q + i)) (e_make (av_cons (v_var rfl) (av_cons (v_var rfl) (av_cons (v_var rfl) (av_cons (v_var rfl) av_nil)))) (hT.up (e3.trans g4.up)) N) g4.sub fun u5 B5 H5 g5 ⟨c, ec, hC⟩ => ?_
      subst ec
      have hb5 := g5.ex _ _ hb4
      have Bb5 := g5.off pb Bb4 (by rw [hb4]; simp)
      have gg5 := gg.trans (g4.trans g5)
      obtain ⟨kn, ⟨dx, tb', hI, hT'⟩, _⟩ := id hC
      refine q_when (t_not (t_B (b := decide (Sw.leftIdx (rkOf R) x q (q + i) = some (q - x))) (e_meth (sp := sp_last_fits C) (v_var rfl) hI rfl av_nil fun vs B2 e2 ev => ?_))) g5.sub (fun z B6 H6 g6 => ?_) (fun z B6 H6 g6 => ?_)
      · rw [ev]
        exact fun B3 H3 a b Q q' E => ⟨B3, c, n, x, q, q + i, R, rfl, hC.up (e2.trans a), N, b, fun B4 H4 g => q' _ B4 H4 g rfl⟩
      · have hbad : Sw.leftIdx (rkOf R) x q (q + i) ≠ some (q - x) := by simpa using z
        refine q_app (P := fun u B => IsEnt n x q R B (q + i) u) (v_var rfl) ((e_tup2 (P1 := fun u _ => u = vN (q + i)) (P2 := fun u B => ∃ r, u = .ref r ∧ B r = some (.tup [.str "index"])) (v_var rfl) fun _ B' _ _ => e_tupV (xs := [.str "index"]) (av_cons v_c av_nil) (by simp)).wk fun u B _ ⟨p, v', w', B1', B2', e1, h1, h2, _, _, ⟨r, h3, h4⟩, h5⟩ => ⟨p, r, e1, by rw [h1, h2, h3], .index (h5 _ _ h4) hbad⟩) g6.sub (g6.ex _ _ hb5) (by omega) fun u7 B7 H7 g7 h7 => ?_
        have Bb7 := g7.off pb (g6.off pb Bb5 (by rw [hb5]; simp)) (by rw [g6.ex _ _ hb5]; simp)
        have gz := (gg5.trans (g6.trans g7)).mut (l := pb) (o := .lst (us ++ [u7])) hbn Bb7
        have eB := g4.up.trans (g5.up.trans (g6.up.trans g7.up))
        refine ⟨B7, eB, gz.sub, us ++ [u7], _, _, _, _, rfl, gz, Bb7, upd_same, by rw [List.length_append, hul]; rfl, fun j u hj => ?_⟩
        by_cases hji : j < us.length
        · rw [List.getElem?_append_left hji] at hj
          exact (hent j u hj).up eB
        · rw [List.getElem?_append_right (by omega)] at hj
          have e1 := (List.getElem?_eq_some_iff.mp hj).1
          rw [List.length_singleton] at e1
          have ej : j = i := by omega
          rw [show j - us.length = 0 by omega] at hj
          rw [← Option.some.inj hj, ej]
          exact h7
      have hgood : Sw.leftIdx (rkOf R) x q (q + i) = some (q - x) := by simpa using z
      refine q_asgG (P := fun y B => ∃ a u v, y = .ref a ∧ B a = some (.tup [u, v]) ∧ Solved n x q (q + i) R B u v) (e_call (av_cons (v_var rfl) av_nil) fun vs B' e5 e => ?_) g6.sub fun y B7 H7 g7 ⟨a, u, v, ey, ha, hS⟩ => ?_
      · rw [e]
        exact fun B1 H1 a b Q q' E => ⟨B1, c, n, x, q, q + i, R, rfl, hC.up (g6.up.trans (e5.trans a)), N, b, fun a u v B2 H2 g h1 h2 => q' _ B2 H2 g ⟨a, u, v, rfl, h1, h2⟩⟩
      subst ey
      have hb7 := g7.ex _ _ (g6.ex _ _ hb5)
      have Bb7 := g7.off pb (g6.off pb Bb5 (by rw [hb5]; simp)) (by rw [g6.ex _ _ hb5]; simp)
      have gg7 := gg5.trans (g6.trans g7)
      refine ⟨a, [u, v], rfl, st_of (g7.sub _ _ ha), rfl, u, [v], rfl, v, [], rfl, rfl, ?_⟩
      cases hS with
      | yes pd kvs τ hd hall hfree =>
        have W : Sw.Ways n (rkOf R) x q (q + i) τ := ⟨fun p y z h1 h2 h3 => G.inj p y z h1 h2 h3, hxq, by omega, by omega, hgood, hfree⟩
        refine q_when (EvT.is (b := true) (t_test (v_isN (v_var rfl))) (by rw [decide_eq_true rfl])) g7.sub (fun _ B8 H8 g8 => ?_) (fun z => by cases z)
        refine s_ret (e_tup2 (P1 := fun u _ => u = .str "sequence") (P2 := fun u B => ∃ s, IsRow B u s ∧ Sw.Valid n (rkOf R) s ∧ Sw.it (Sw.rowAfter n s) q = x ∧ s.length ≤ 2000) v_c fun _ B' e8 _ => ?_) g8.sub fun v B9 H9 g9 ⟨p, v', w', B1', B2', e, hp, h1, _, _, ⟨s, h2, h3, h4, h6⟩, h5⟩ => ?_
        · refine e_call (PA := fun vs B => ∃ v', vs = [v'] ∧ IsRow B v' (Sw.arr n x (q + i) τ)) (a_one (P := fun v' B2 => IsRow B2 v' (Sw.arr n x (q + i) τ)) (e_call (av_cons (v_lenT (n := n) (t_var rfl ((gg7.up.trans (g8.up.trans e8)) _ _ hpR)) hlenR) (av_cons (v_var rfl) (av_cons (v_var rfl) (av_cons (v_var rfl) (av_cons (v_var rfl) av_nil))))) fun vs B9 e9 e => ?_) (fun v' B2 _ h => ⟨v', rfl, h⟩) fun v' B1 B2 e h => h.up e) fun vs B9 e9 ⟨v', ev, hv'⟩ => ?_
          · rw [e]
            exact fun B1 H1 a b Q q' E => ⟨B1, n, x, q, q + i, τ, pd, kvs, rfl, (g8.up.trans (e8.trans (e9.trans a))) _ _ hd, hall, ⟨by omega, by omega, hn⟩, b, fun v2 B2 H2 g h => q' _ B2 H2 g h⟩
          · subst ev
            exact fun B1 H1 a b Q q' E => ⟨B1, n, x, q, q + i, rkOf R, τ, v', rfl, hv'.up a, W, hn, b, fun v2 B2 H2 s g h1 h2 h3 h4 => q' _ B2 H2 g ⟨s, h1, h2, h3, h4⟩⟩
        · subst e h1
          exact qq p _ _ B9 H9 (gg7.trans (g8.trans g9)) hp (.seq _ s (h2.up h5) h3 h4 h6)
      | no _ wp ws cs hwp hws hwalk hwl =>
        refine q_when (EvT.is (b := false) (t_test (v_isN (v_var rfl))) (by rw [decide_eq_false (fun z => by cases z)])) g7.sub (fun z => by cases z) (fun _ B8 H8 g8 => ?_)
        refine s_app (P := fun u B => IsEnt n x q R B (q + i) u) (v_var rfl) ((e_tup2 (P1 := fun u _ => u = vN (q + i)) (P2 := fun u B => ∃ r, u = .ref r ∧ B r = some (.tup [.str "walk", .ref wp])) (v_var rfl) fun _ B' _ _ => e_tupV (xs := [.str "walk", .ref wp]) (av_cons v_c (av_cons (v_var rfl) av_nil)) (by simp)).wk fun u B e9 ⟨p, v', w', B1', B2', e1, h1, h2, _, _, ⟨r, h3, h4⟩, h5⟩ => ⟨p, r, e1, by rw [h1, h2, h3], .walk wp ws cs (h5 _ _ h4) ((g8.up.trans e9) _ _ hwp) (hws.imp fun _ _ h => h.up (g8.up.trans e9)) hwalk hwl hgood⟩) g8.sub (g8.ex _ _ hb7) (by omega) fun u9 B9 H9 g9 h9 => ?_
        have Bb9 := g9.off pb (g8.off pb Bb7 (by rw [hb7]; simp)) (by rw [g8.ex _ _ hb7]; simp)
        have gz := (gg7.trans (g8.trans g9)).mut (l := pb) (o := .lst (us ++ [u9])) hbn Bb9
        have eB := g4.up.trans (g5.up.trans (g6.up.trans (g7.up.trans (g8.up.trans g9.up))))
        refine ⟨B9, eB, gz.sub, us ++ [u9], _, _, _, _, rfl, gz, Bb9, upd_same, by rw [List.length_append, hul]; rfl, fun j u hj => ?_⟩
        by_cases hji : j < us.length
        · rw [List.getElem?_append_left hji] at hj
          exact (hent j u hj).up eB
        · rw [List.getElem?_append_right (by omega)] at hj
          have e1 := (List.getElem?_eq_some_iff.mp hj).1
          rw [List.length_singleton] at e1
          have ej : j = i := by omega
          rw [show j - us.length = 0 by omega] at hj
          rw [← Option.some.inj hj, ej]
          exact h9
    · obtain ⟨us, s5, s6, s7, s8, rfl, gg, Bb3, hb3, hul, hent⟩ := hW
      have gz := gg.shown hb3 hbn
      have eB : Ex B3 (upd B3 pb (.lst us)) := Ex.shown e3' hb3
      refine s_ret (e_tup2 (P1 := fun u _ => u = .str "block") (P2 := fun u B => IsBlk n x q R B u) v_c fun _ B' e8 _ => (e_tupOf (l_var rfl (e8 _ _ upd_same))).wk fun u B e ⟨p, h1, h2⟩ => ⟨p, us, h1, h2, hul, fun j u hj => (hent j u hj).up (eB.trans (e8.trans e))⟩) gz.sub fun v B9 H9 g9 ⟨p, v', w', B1', B2', e, hp, h1, _, _, h2, h5⟩ => ?_
      subst e h1
      exact qq p _ _ B9 H9 (gz.trans g9) hp (.block _ (h2.up h5))
end
end Sk

/-! reach. -/
namespace Sk
open PySem PySem.Spec PyProof.Rows L2
/-- what reach answers: word, value -/
inductive AAns (n x q : Nat) (R : List (List Nat)) (B : Hp) : V → V → Prop
  | seq (v : V) (s : List Nat) : IsRow B v s → Sw.Valid n (rkOf R) s → Sw.it (Sw.rowAfter n s) q = x → s.length ≤ 4000 → AAns n x q R B (.str "sequence") v
  | right (v : V) : x < q → IsBlk n x q R B v → AAns n x q R B (.str "block") v
  | left (v : V) : q < x → IsBlk n (n - 1 - x) (n - 1 - q) (mirR n R) B v → AAns n x q R B (.str "block") v
theorem AAns.up {n x q : Nat} {R : List (List Nat)} {B B' : Hp} {u v : V} (h : AAns n x q R B u v) (e : Ex B B') : AAns n x q R B' u v := by
  cases h with
  | seq _ s h1 h2 h3 h4 => exact .seq _ s (h1.up e) h2 h3 h4
  | right _ h0 h1 => exact .right _ h0 (h1.up e)
  | left _ h0 h1 => exact .left _ h0 (h1.up e)
def sp_reach : Sp := fun vs H Q _ => ∃ (B : Hp) (v : V) (n x q : Nat) (R : List (List Nat)), vs = [v, vN x, vN q] ∧ IsRk B v R ∧ Rkg n R ∧ x < n ∧ q < n ∧ Ex B H ∧ ∀ a u v1 B1 H1, Go B H B1 H1 → B1 a = some (.tup [u, v1]) → AAns n x q R B1 u v1 → Q (.ref a) H1
theorem Valid.lt {n : Nat} {rk : Nat → Nat → Nat} {s : List Nat} (h : Sw.Valid n rk s) : ∀ k ∈ s, k + 1 < n := fun k hk => by
  obtain ⟨i, hi, e⟩ := List.getElem_of_mem hk
  have h1 := h i k (by rw [List.getElem?_eq_getElem hi, e])
  obtain ⟨pos, hp⟩ := Sw.Valid.perm (n := n) (rk := rk) (seq := s.take i) fun j t hj => by
    have hj' : j < i := by
      have := (List.getElem?_eq_some_iff.mp hj).1
      rw [List.length_take] at this; omega
    rw [List.getElem?_take] at hj
    rw [if_pos hj'] at hj
    have := h j t hj
    rw [List.take_take, Nat.min_eq_left (by omega)]
    exact this
  have h2 := h1.1
  rw [hp.len] at h2
  exact h2
section
variable {P : Program} {w₀ : World} {K : PySem.W.Frag} {mg : Str → Option Value} {base : Heap} {C : Addr} (T : Top K mg C)
include T
theorem cal_reach : Cal P w₀ K mg base "reach" ["rankings", "item", "person"] 9 sp_reach := by
  refine T.d_reach.cal sc_reach (fun vs H Q E h => ?_) (fun _ _ _ _ _ _ us hl => match us, hl with | [_, _, _], _ => rfl) (fun f cdv A outer s H vs Q E hr h => ?_)
  · obtain ⟨B, v, n, x, q, R, rfl, _⟩ := h
    rfl
  · obtain ⟨B, v, n, x, q, R, rfl, hR, G, hx, hq, ex, qq⟩ := h
    have hn := G.le
    have hn1 := G.pos
    refine ⟨_, (pss_cons (ps_expr ((cal_check_arguments T).pe hr (by decide) rfl (pa_cons (pv 0) (pa_cons (pv 1) (pa_cons (pv 2) pa_nil)))))
    (pss_cons (ps_set (i := 3) sc_reach.nd rfl (by first | exact Or.inl rfl | exact Or.inr rfl) (pe_op op_sub (pe_callB call_len_seq (by rfl) T.b_len PySem.boot_len (pa_cons (pv 0) pa_nil)) pe_int))
    (pss_cons (ps_if (pt_cmpR op_eq (pv 1) (pv 2) (nomark _)) (pss_one (ps_ret (pe_tup (pa_cons pe_str (pa_cons (pe_tup pa_nil) pa_nil))))) pss_nil)
    (pss_cons (ps_if (pt_cmpR op_lt (pv 1) (pv 2) (nomark _)) (pss_one (ps_ret ((cal_reach_right T).pe hr (by decide) rfl (pa_cons (pv 0) (pa_cons (pv 1) (pa_cons (pv 2) pa_nil)))))) pss_nil)
    (pss_cons (ps_asg ((cal_reach_right T).pe hr (by decide) rfl (pa_cons ((cal_mirrored_rankings T).pe hr (by decide) rfl (pa_cons (pv 0) pa_nil)) (pa_cons (pe_op op_sub (pv 3) (pv 1)) (pa_cons (pe_op op_sub (pv 3) (pv 2)) pa_nil)))) (pg_tup rfl (pgs_cons (pg_name (i := 4) sc_reach.nd rfl (Or.inl rfl)) (pgs_cons (pg_name (i := 5) sc_reach.nd rfl (Or.inl rfl)) pgs_nil))))
    (pss_one (ps_ret (pe_tup (pa_cons (pv 4) (pa_cons (pe_ifExp (pt_cmpR op_eq (pv 4) pe_str (nomark _)) (pe_callTy call_tuple_of (by rfl) T.b_tuple (by decide +kernel) (pa_cons (pe_lc (own := [("swap", 6)]) rfl sc_reach.nd (pi_tup (pv 5)) (blkOk_by (own := [("swap", 6)]) (N := N_reach) (sc := defScope s_reach) (by decide +kernel)) (fun _ _ _ _ _ => (pg_name (i := 6) sc_reach.nd rfl (Or.inl rfl))) (fun _ _ _ _ _ => pts_nil) (fun _ _ _ _ _ => (pe_op op_sub (pe_op op_sub (pv 3) pe_int) (pv 6)))) pa_nil)) (pv 5)) pa_nil)))))))))), ?_⟩
    refine q_drop (P := fun _ _ => True) (e_call (av_cons (v_var rfl) (av_cons (v_var rfl) (av_cons (v_var rfl) av_nil))) fun vs B' e5 e => ?_) ex fun _ B1 H1 g1 _ => ?_
    · rw [e]
      exact fun B1 H1 a b Q q' E => ⟨B1, v, n, x, q, R, rfl, hR.up (e5.trans a), G, hx, hq, b, fun B2 H2 g => q' _ B2 H2 g trivial⟩
    obtain ⟨pR, rus, rfl, hpR, hRs⟩ := hR.up g1.up
    have hlenR : rus.length = n := by rw [hRs.len, G.len]
    refine q_asg (v_subN (k := n - 1) (j := 1) (v_lenT (n := n) (t_var rfl hpR) hlenR) v_c (by omega)) g1.sub fun v2 B2 H2 g2 e2 => ?_
    subst e2
    have g12 := g1.trans g2
    refine q_when (EvT.is (b := decide (x = q)) (t_test (v_eq (v_var rfl) (v_var rfl) rfl)) (decide_eq_decide.mpr ⟨fun z => by injection z with z; omega, fun z => by rw [z]⟩)) g2.sub (fun z B3 H3 g3 => ?_) (fun z B3 H3 g3 => ?_)
    · have z := of_decide_eq_true z
      subst z
      refine s_ret (e_tup2 (P1 := fun u _ => u = .str "sequence") (P2 := fun u B => IsRow B u []) v_c fun _ B' e8 _ => (e_tupV av_nil (by simp)).wk fun u B _ ⟨p, h1, h2⟩ => ⟨p, h1, h2⟩) g3.sub fun v B9 H9 g9 ⟨p, v', w', B1', B2', e, hp, h1, _, _, h2, h5⟩ => ?_
      subst e h1
      exact qq p _ _ B9 H9 (g12.trans (g3.trans g9)) hp (.seq _ [] (h2.up h5) Sw.Valid.nil (Sw.range_it hx) (by simp))
    have hne := of_decide_eq_false z
    have g13 := g12.trans g3
    refine q_when (EvT.is (b := decide (x < q)) (t_test (v_I0 (v_var rfl) (v_var rfl))) (decide_eq_decide.mpr (by omega))) g3.sub (fun z B4 H4 g4 => ?_) (fun z B4 H4 g4 => ?_)
    · have z := of_decide_eq_true z
      refine s_ret (P := fun y B => ∃ a u v1, y = .ref a ∧ B a = some (.tup [u, v1]) ∧ RAns n x q R B u v1) (e_call (av_cons (v_var rfl) (av_cons (v_var rfl) (av_cons (v_var rfl) av_nil))) fun vs B' e5 e => ?_) g4.sub fun y B5 H5 g5 ⟨a, u, v1, ey, ha, hA⟩ => ?_
      · rw [e]
        exact fun B1 H1 a b Q q' E => ⟨B1, .ref pR, n, x, q, R, rfl, hR.up (g13.up.trans (g4.up.trans (e5.trans a))), G, z, hq, b, fun a u v B2 H2 g h1 h2 => q' _ B2 H2 g ⟨a, u, v, rfl, h1, h2⟩⟩
      · subst ey
        refine qq a u v1 B5 H5 (g13.trans (g4.trans g5)) ha ?_
        cases hA with
        | seq _ s h1 h2 h3 h4 => exact .seq _ s h1 h2 h3 (by omega)
        | block _ h => exact .right _ z h
    · have z := of_decide_eq_false z
      have hqx : q < x := by omega
      have g14 := g13.trans g4
      refine q_asgG (P := fun y B => ∃ a u v1, y = .ref a ∧ B a = some (.tup [u, v1]) ∧ RAns n (n - 1 - x) (n - 1 - q) (mirR n R) B u v1) (e_call (PA := fun vs B => ∃ v', vs = [v', vN (n - 1 - x), vN (n - 1 - q)] ∧ IsRk B v' (mirR n R)) (a_cons (P := fun v' B => IsRk B v' (mirR n R)) (PR := fun vs _ => vs = [vN (n - 1 - x), vN (n - 1 - q)]) (e_call (av_cons (v_var rfl) av_nil) fun vs B' e5 e => ?_) (fun _ B' _ _ => av_cons (v_subN (k := n - 1 - x) (v_var rfl) (v_var rfl) (by omega)) (av_cons (v_subN (k := n - 1 - q) (v_var rfl) (v_var rfl) (by omega)) av_nil)) fun a as B1 B2 _ e12 h1 h2 => ⟨a, by rw [h2], h1.up e12⟩) fun vs B9 e9 ⟨v', ev, hv'⟩ => ?_) g4.sub fun y B5 H5 g5 ⟨a, u, v1, ey, ha, hA⟩ => ?_
      · rw [e]
        exact fun B1 H1 a b Q q' E => ⟨B1, .ref pR, n, R, rfl, hR.up (g14.up.trans (e5.trans a)), G, b, fun v2 B2 H2 g h => q' _ B2 H2 g h⟩
      · subst ev
        exact fun B1 H1 a b Q q' E => ⟨B1, v', n, n - 1 - x, n - 1 - q, mirR n R, rfl, hv'.up a, G.mir, by omega, by omega, b, fun a u v B2 H2 g h1 h2 => q' _ B2 H2 g ⟨a, u, v, rfl, h1, h2⟩⟩
      subst ey
      refine ⟨a, [u, v1], rfl, st_of (g5.sub _ _ ha), rfl, u, [v1], rfl, v1, [], rfl, rfl, ?_⟩
      have g15 := g14.trans g5
      cases hA with
      | seq _ s h1 h2 h3 h4 =>
        obtain ⟨hv, hrow⟩ := Sw.mirror (rk' := rkOf R) (fun p y hp hy => by
          rw [G.mir_rk (n - 1 - p) (n - 1 - y) (by omega) (by omega)]
          congr 1 <;> omega) s h2
        obtain ⟨pos, hp⟩ := h2.perm
        have hit : Sw.it (Sw.rowAfter n (s.map (n - 2 - ·))) q = x := by
          rw [hrow, Sw.mir_it hp.len hq, h3]
          omega
        have hslt := Valid.lt h2
        have hsl : s.length ≤ 4000 := by omega
        refine s_ret (e_tup2 (P1 := fun u _ => u = .str "sequence") (P2 := fun u B => IsRow B u (s.map (n - 2 - ·))) (v_var rfl) fun _ B' e8 _ => e_if (EvT.is (b := true) (t_test (v_eq (v_var rfl) v_c rfl)) (by rw [decide_eq_true rfl])) (fun _ => ?_) (fun z => by cases z)) g5.sub fun v B9 H9 g9 ⟨p, v', w', B1', B2', e, hp, h1, _, _, h2, h5⟩ => ?_
        · obtain ⟨ps, rfl, hps⟩ := h1.up e8
          refine (e_tupOf (e_lcV (n := (s.map vN).length) (fun _ => true) (fun i => vN (n - 2 - s.getD i 0)) (i_tup (t_var rfl hps).st) (by rw [List.length_map]; omega) (fun _ => rfl) (fun _ _ _ _ _ _ => t_yes) fun i v B3 hi e hv _ => ?_)).wk fun u B e ⟨p, h1, h2⟩ => ⟨p, h1, ?_⟩
          · rw [List.getElem?_map] at hv
            cases hk : s[i]? with
            | none => rw [hk] at hv; cases hv
            | some k =>
              rw [hk] at hv
              have hv := (Option.some.inj hv).symm
              subst hv
              have hkn := hslt k (List.mem_of_getElem? hk)
              rw [List.getD_eq_getElem?_getD, hk]
              refine EvV.is (v_sub (v_sub (v_var rfl) v_c) (v_var rfl)) ?_
              show V.int _ = V.int _
              congr 1
              show ((n - 1 : Nat) : Int) - 1 - (k : Int) = ((n - 2 - k : Nat) : Int)
              omega
          · rw [h2, kept_all, List.length_map]
            congr 2
            refine List.ext_getElem? fun i => ?_
            rw [List.getElem?_map, List.getElem?_map, List.getElem?_map]
            by_cases hi : i < s.length
            · rw [List.getElem?_range hi, List.getElem?_eq_getElem hi]
              show some (vN (n - 2 - s.getD i 0)) = some (vN (n - 2 - s[i]))
              rw [List.getD_eq_getElem?_getD, List.getElem?_eq_getElem hi]; rfl
            · rw [List.getElem?_eq_none (by rw [List.length_range]; omega), List.getElem?_eq_none (by omega)]; rfl
        · subst e h1
          exact qq p _ _ B9 H9 (g15.trans g9) hp (.seq _ _ (h2.up h5) hv hit (by rw [List.length_map]; exact hsl))
      | block _ hb =>
        refine s_ret (e_tup2 (P1 := fun u _ => u = .str "block") (P2 := fun u B => IsBlk n (n - 1 - x) (n - 1 - q) (mirR n R) B u) (v_var rfl) fun _ B' e8 _ => e_if (EvT.is (b := false) (t_test (v_eq (v_var rfl) v_c rfl)) (decide_eq_false (fun z => by injection z with z; exact absurd z (by decide +kernel)))) (fun z => by cases z) (fun _ => e_var rfl fun B e => hb.up (e8.trans e))) g5.sub fun v B9 H9 g9 ⟨p, v', w', B1', B2', e, hp, h1, _, _, h2, h5⟩ => ?_
        subst e h1
        exact qq p _ _ B9 H9 (g15.trans g9) hp (.left _ hqx (h2.up h5))
end
end Sk

/-! is_walk, is_reason, is_block, blocks. -/
namespace Sk
open PySem PySem.Spec PyProof.Rows L2
/-- x not in a tuple of data -/
def rNotInT (K : PySem.W.Frag) : R2 := fun x y H Q => ∃ d ds, Dp K H x d ∧ Dp K H y (.tuple ds) ∧ SeqAt.shaped d = true ∧ PyData.canLayAll0 ds = true ∧ Q (.bl (!ds.any fun z => PyData.eqv z d)) H
theorem op_notInT {X : Cx} (hu : X.A.units + 65 < cLine) : OpR X (compareOp .NotIn) (rNotInT X.K) := by
  intro pins s σ H x y v u Q I rx ry h
  obtain ⟨d, ds, hd, he, sd, se, q⟩ := h
  obtain ⟨as, r1⟩ := Dp.reads I d x v hd rx
  obtain ⟨bs, r2⟩ := Dp.reads I (.tuple ds) y u he ry
  exact SeqAt.notIn_tuple_reads r2 r1 se (SeqAt.canLay_of_shaped sd) (room_in_shaped sd hu) ⟨.bl _, H, I, rfl, q⟩
/-- a tuple beside () -/
def rEqNilT (K : PySem.W.Frag) : R2 := fun x y H Q => ∃ p p2 xs, x = .ref p ∧ y = .ref p2 ∧ SqT K H p xs ∧ SqT K H p2 [] ∧ xs ≠ [] ∧ Q (.bl (decide (xs = []))) H
theorem op_eqNilT {X : Cx} (hu : X.A.units + 64 < cLine) : OpR X (compareOp .Eq) (rEqNilT X.K) := by
  intro pins s σ H x y v u Q I rx ry h
  obtain ⟨p, p2, xs, rfl, rfl, h1, h2, hx, q⟩ := h
  obtain rfl : v = Value.ref p := rx
  obtain rfl : u = Value.ref p2 := ry
  obtain ⟨its, rv, hl, _⟩ := I.tuple h1
  obtain ⟨its2, rv2, hl2, _⟩ := I.tuple h2
  have e1 := rv.length
  have e2 := rv2.length
  have hu' : X.A.units < cLine := by omega
  have z2 : its2.toArray.size = 0 := by rw [List.size_toArray, ← e2]; rfl
  have z1 : its.toArray.size ≠ 0 := by
    rw [List.size_toArray, ← e1]
    exact fun h => hx (List.length_eq_zero_iff.mp h)
  refine SeqAt.eq_tupleAt (e := fun _ => true) hl hl2 hu' (fun j _ h2 => absurd h2 (by rw [z2]; exact Nat.not_lt_zero _)) ⟨.bl (decide (xs = [])), H, I, ?_, q⟩
  rw [decide_eq_false hx]
  have : (its.toArray.size == its2.toArray.size) = false := by rw [z2]; exact beq_eq_false_iff_ne.mpr z1
  rw [this, Bool.and_false]
  rfl
theorem v_eqNilT {K : PySem.W.Frag} {σ : L2.St} {Hc : Hp} {ta : TE} {x : V} {xs : List V} (h : EvTup ta σ Hc (x :: xs)) : EvV (tOp (rEqNilT K) ta (tTup tNil)) σ Hc (.bl (decide (x :: xs = []))) :=
  e_op h (fun _ _ e _ => e_tupV (xs := []) av_nil (by simp)) fun _ _ B1 B2 e1 e2 ⟨p, ep, hp⟩ ⟨p2, ep2, hp2⟩ B H e b Q q => ⟨p, p2, x :: xs, ep, ep2, st_of ((e2.trans (e.trans b)) _ _ hp), st_of ((e.trans b) _ _ hp2), by simp, q _ B H (.refl b) rfl⟩
section
variable {K : PySem.W.Frag} {σ : L2.St} {Hc H : Hp} {ta tb te : TE} {u v : V} {d e : Sw.Ch} {us xs ys : List V} {cs : List Sw.Ch}
theorem mem_dC {cs : List Sw.Ch} {d : Sw.Ch} : ((cs.map dC).any fun z => PyData.eqv z (dC d)) = decide (d ∈ cs) := by
  rw [List.any_map, Bool.eq_iff_iff, List.any_eq_true, decide_eq_true_eq]
  constructor
  · rintro ⟨c, hc, h⟩
    have h : PyData.eqv (dC c) (dC d) = true := h
    rw [dC_eqv] at h
    rw [← of_decide_eq_true h]; exact hc
  · intro h
    exact ⟨d, h, by show PyData.eqv (dC d) (dC d) = true; rw [dC_eqv]; exact decide_eq_true rfl⟩
theorem v_notInC (ha : EvP ta σ Hc fun u B => IsC B u d) (hb : EvP tb σ Hc fun u B => ∃ p us, u = .ref p ∧ B p = some (.tup us) ∧ Seq2 (IsC B) us cs) : EvV (tOp (rNotInT K) ta tb) σ Hc (.bl (!decide (d ∈ cs))) := by
  rw [← mem_dC]
  exact e_op ha (fun _ _ e _ => hb.mono e) fun x y B1 B2 e1 e2 h1 ⟨p, us, ep, hp, hs⟩ B H e b Q q => ⟨dC d, cs.map dC, (h1.up (e2.trans (e.trans b))).dp, by rw [ep]; exact .tup (st_of ((e.trans b) _ _ hp)) (dp_chs (hs.imp fun _ _ h => h.up (e.trans b))), dC_shaped d, (shape_chs cs).1, q _ B H (.refl b) rfl⟩
/-- zip of two tuples -/
theorem i_zipT (ha : EvTup ta σ Hc xs) (hb : EvTup tb σ Hc ys) : EvI (RZ.iZipA K (tCons ta (tCons tb tNil))) σ Hc (min xs.length ys.length) fun i v B => ∃ T x y, v = .ref T ∧ xs[i]? = some x ∧ ys[i]? = some y ∧ SqT K B T [x, y] := fun B H a b R q =>
  ha B H a b _ fun v B1 H1 g1 ⟨p, e, hp⟩ => hb B1 H1 (a.trans g1.up) g1.sub _ fun v2 B2 H2 g2 ⟨p2, e2, hp2⟩ => ⟨p, p2, xs, ys, by rw [e, e2], .inr ⟨st_of ((g2.up.trans g2.sub) _ _ hp), st_of (g2.sub _ _ hp2), q _ B2 H2 (g1.trans g2)
    ⟨fun i H hi h => ⟨xs, ys, xs[i]'(by omega), ys[i]'(by omega), st_of ((g2.up.trans h) _ _ hp), st_of (h _ _ hp2), List.getElem?_eq_getElem _, List.getElem?_eq_getElem _⟩, fun H h => ⟨xs, ys, st_of ((g2.up.trans h) _ _ hp), st_of (h _ _ hp2), by omega⟩, fun i B3 H x H' hi h1 h2 y => by
      obtain ⟨T, x', y', e1, hn, e2, h3, h4⟩ := y
      subst e1 e2
      exact ⟨_, (GoF.refl h2).laid hn, T, x', y', rfl, h3 xs (st_of ((g2.up.trans (h1.trans h2)) _ _ hp)), h4 ys (st_of ((h1.trans h2) _ _ hp2)), st_of upd_same⟩⟩⟩⟩
end
def sp_is_walk (C : Addr) : Sp := fun vs H Q _ => ∃ (B : Hp) (c wp : Addr) (n x q w : Nat) (R : List (List Nat)) (us : List V) (cs : List Sw.Ch), vs = [.ref c, .ref wp] ∧ IsCh C B c R x q w ∧ Nums n x q w R ∧ B wp = some (.tup us) ∧ Seq2 (IsC B) us cs ∧ Sw.IsWalk n (rkOf R) x q w cs ∧ cs.length ≤ 400 ∧ Ex B H ∧ ∀ B1 H1, Go B H B1 H1 → Q (.bl true) H1
def sp_is_reason (C : Addr) : Sp := fun vs H Q _ => ∃ (B : Hp) (c r : Addr) (n x q w : Nat) (R : List (List Nat)), vs = [.ref c, .ref r] ∧ IsCh C B c R x q w ∧ Nums n x q w R ∧ IsRsn n x q w R B r ∧ Ex B H ∧ ∀ B1 H1, Go B H B1 H1 → Q (.bl true) H1
def sp_is_block : Sp := fun vs H Q _ => ∃ (B : Hp) (u v : V) (n x q : Nat) (R : List (List Nat)), vs = [u, vN x, vN q, v] ∧ IsRk B u R ∧ Rkg n R ∧ x < q ∧ q < n ∧ IsBlk n x q R B v ∧ Ex B H ∧ ∀ B1 H1, Go B H B1 H1 → Q (.bl true) H1
section
variable {P : Program} {w₀ : World} {K : PySem.W.Frag} {mg : Str → Option Value} {base : Heap} {C : Addr} (T : Top K mg C)
include T
theorem cal_is_walk : Cal P w₀ K mg base "is_walk" ["choices", "value"] 6 (sp_is_walk C) := by
  refine T.d_is_walk.cal sc_is_walk (fun vs H Q E h => ?_) (fun _ _ _ _ _ _ us hl => match us, hl with | [_, _], _ => rfl) (fun f cdv A outer s H vs Q E hr h => ?_)
  · obtain ⟨B, c, wp, n, x, q, w, R, us, cs, rfl, _⟩ := h
    rfl
  · obtain ⟨B, c, wp, n, x, q, w, R, us, cs, rfl, hC, N, hwp, hus, W, h400, ex, qq⟩ := h
    have hu := hu_of hr
    have hu0 := hr.units
    have hu65 : (A.deeper (envOfC "is_walk" (defScope s_is_walk) s.heap.objs.size f cdv)).units + 65 < cLine := by have := hr.un; omega
    have ul := hus.len
    have h3 := W.len
    refine ⟨_, (pss_cons (ps_if (PW.pt (pw_or (pt_not (pt_val (pe_callB call_isi (by rfl) T.b_isinstance (by decide +kernel) (pa_cons (pv 1) (pa_cons (pe_bltn (v := .ty "tuple") (by rfl) T.b_tuple (by decide +kernel) rfl) pa_nil))))) (pw_or1 (pt_cmpR op_lt (pe_callB call_len_seq (by rfl) T.b_len PySem.boot_len (pa_cons (pv 1) pa_nil)) pe_int (nomark _))))) (pss_one (ps_ret pe_bl)) pss_nil)
    (pss_cons (ps_if (pt_not (pt_val (pe_callB (cr_all rfl) (by rfl) T.b_all (by decide +kernel) (pa_cons (pe_lc (te := tCall sp_is_choice [] E0 (tCons (tFld K (tVar 0) "item") (tCons (tFld K (tVar 0) "last") (tCons (tVar 2) tNil)))) (own := [("choice", 2)]) rfl sc_is_walk.nd (pi_tup (pv 1)) (blkOk_by (own := [("choice", 2)]) (N := N_is_walk) (sc := defScope s_is_walk) (by decide +kernel)) (fun _ _ _ _ _ => (pg_name (i := 2) sc_is_walk.nd rfl (Or.inl rfl))) (fun _ _ _ _ _ => pts_nil) (fun _ _ _ _ _ => ((cal_is_choice T).pe hr (by decide) rfl (pa_cons (pe_fld (pv 0) rfl) (pa_cons (pe_fld (pv 0) rfl) (pa_cons (pv 2) pa_nil)))))) pa_nil)))) (pss_one (ps_ret pe_bl)) pss_nil)
    (pss_cons (ps_if (PW.pt (pw_or (pt_cmpR (op_neD hu0) (pe_ix ix_tup (pv 1) pe_int (fun _ _ => rfl)) (pe_ix ix_tup (pv 1) (pe_un un_neg pe_int) (fun _ _ => rfl)) (nomark _)) (pw_or1 (pt_cmpR (op_notInT hu65) ((cal_opposite T).pe hr (by decide) rfl (pa_cons (pe_ix ix_tup (pv 1) pe_int (fun _ _ => rfl)) pa_nil)) (pv 1) (by rfl))))) (pss_one (ps_ret pe_bl)) pss_nil)
    (pss_one (ps_ret (pe_callB (cr_all rfl) (by rfl) T.b_all (by decide +kernel) (pa_cons (pe_lc (g := gTup K 2 (gCons (gName 3) (gCons (gName 4) gNil))) (own := [("one", 3), ("other", 4)]) rfl sc_is_walk.nd (RZ.pi_zipA (by rfl) T.b_zip (pa_cons (pv 1) (pa_cons (pe_slice sl_tupA (pv 1) (po_some pe_int) po_none) pa_nil))) (blkOk_by (own := [("one", 3), ("other", 4)]) (N := N_is_walk) (sc := defScope s_is_walk) (by decide +kernel)) (fun _ _ _ _ _ => (pg_tup rfl (pgs_cons (pg_name (i := 3) sc_is_walk.nd rfl (Or.inl rfl)) (pgs_cons (pg_name (i := 4) sc_is_walk.nd rfl (Or.inl rfl)) pgs_nil)))) (fun _ _ _ _ _ => pts_nil) (fun _ _ _ _ _ => ((mal_implies T).pe T.cl hr (by decide) (pv 0) (pa_cons (pv 3) (pa_cons (pv 4) pa_nil))))) pa_nil))))))), ?_⟩
    refine q_skip (EvT.is (b := false) (t_or (t_not (t_test (v_isi (T1 := "tuple") (b := true) (e_var rfl fun B e H h => ty_tup (h _ _ (e _ _ hwp))) (by decide +kernel)))) fun _ => t_test (v_I0 (v_lenT (n := us.length) (t_var rfl hwp) rfl) v_c)) (by rw [decide_eq_false (by omega : ¬ ((us.length : Nat) : Int) < 3)]; rfl)) ex fun B1 H1 g1 => ?_
    have hwp1 := g1.up _ _ hwp
    have h01 : ∃ kn, IsCh0 C B1 c kn R x q w := let ⟨kn, h, _⟩ := hC.up g1.up; ⟨kn, h⟩
    have allT : ∀ m : Nat, ((List.range m).map fun _ => true).all id = true := fun m => List.all_eq_true.mpr fun x hx => by
      obtain ⟨_, _, e⟩ := List.mem_map.mp hx
      rw [← e]; rfl
    have cAt : ∀ {i : Nat} {v : V}, us[i]? = some v → ∃ d, cs[i]? = some d ∧ IsC B v d ∧ Sw.rng x w d := fun h => by
      obtain ⟨d, h1, h2⟩ := hus.back h
      exact ⟨d, h1, h2, W.rng d (List.mem_of_getElem? h1)⟩
    refine q_skip (EvT.is (b := false) (t_not (t_test (v_all (bs := (List.range us.length).map fun _ => true) ?_))) (by rw [allT]; rfl)) g1.sub fun B2 H2 g2 => ?_
    · refine (e_lcV (n := us.length) (fun _ => true) (fun _ => .bl true) (i_tup (t_var rfl hwp1).st) (by omega) (fun x => rfl) (fun _ _ _ _ _ _ => t_yes) fun i v B' hi e hv _ => ?_).wk fun v B e ⟨p', h1, h2⟩ => ⟨p', h1, sl_of (by rw [h2, kept_all, List.map_map]; rfl)⟩
      obtain ⟨d, hd1, hd2, hd3⟩ := cAt hv
      have h0' : ∃ kn, IsCh0 C B' c kn R x q w := let ⟨kn, h, _⟩ := hC.up (g1.up.trans e); ⟨kn, h⟩
      refine e_call (av_cons (IsCh.fld h0' T.cl rfl T.nf_item fun _ _ => rfl) (av_cons (IsCh.fld h0' T.cl rfl T.nf_last fun _ _ => rfl) (av_cons (v_var rfl) av_nil))) fun vs B3 e3 ev => ?_
      rw [ev]
      exact fun B4 H4 a b Q q' E => ⟨B4, x, w, v, d, rfl, hd2.up (g1.up.trans (e.trans (e3.trans a))), b, fun B5 H5 g => q' _ B5 H5 g (by rw [decide_eq_true hd3.1, decide_eq_true hd3.2]; rfl)⟩
    have g12 := g1.trans g2
    have hwp2 := g12.up _ _ hwp
    obtain ⟨c0, hc0, hcl, hopp⟩ := W.ends
    obtain ⟨v0, hv0, hvc0⟩ := hus.get hc0
    obtain ⟨v1, hv1, hvc1⟩ := hus.get hcl
    rw [← ul] at hv1
    refine q_skip (EvT.is (b := false) (t_or (t_test (e_op (P := fun u _ => u = .bl (!decide (c0 = c0))) (v_ixT (t_var rfl hwp2) v_c (atI_nat (i := 0) hv0)) (fun _ B' e _ => v_ixT (t_var rfl (e _ _ hwp2)) (v_un v_c) (atI_last hv1)) fun a b B3 B4 e3 e4 ea eb => ?_)) fun _ => t_test (v_notInC (d := Sw.opp c0) (cs := cs) (e_call (av_cons (v_ixT (t_var rfl hwp2) v_c (atI_nat (i := 0) hv0)) av_nil) fun vs B3 e3 ev => ?_) (e_var rfl fun B3 e3 => ⟨wp, us, rfl, e3 _ _ hwp2, hus.imp fun _ _ h => h.up (g12.up.trans e3)⟩))) (by rw [decide_eq_true rfl, decide_eq_true hopp]; rfl)) g2.sub fun B3 H3 g3 => ?_
    · subst ea eb
      rw [← dC_eqv]
      have eB := g12.up.trans (e3.trans e4)
      exact fun B H e b Q q' => ⟨dC c0, dC c0, (hvc0.up (eB.trans (e.trans b))).dp, (hvc1.up (eB.trans (e.trans b))).dp, dC_shaped c0, dC_shaped c0, q' _ B H (.refl b) rfl⟩
    · rw [ev]
      exact fun B4 H4 a b Q q' E => ⟨B4, v0, c0, rfl, hvc0.up (g12.up.trans (e3.trans a)), b, fun v2 B5 H5 g h => q' _ B5 H5 g h⟩
    have g13 := g12.trans g3
    have hwp3 := g13.up _ _ hwp
    have hmin : min us.length (us.drop 1).length = us.length - 1 := by rw [List.length_drop]; omega
    refine s_ret (P := fun u _ => u = .bl true) (EvV.is (v_all (bs := (List.range (us.length - 1)).map fun _ => true) ?_) (by rw [allT])) g3.sub fun v B4 H4 g4 e => ?_
    · refine (e_lc (fun i v _ => v = .bl true) (fun _ => true) ((i_zipT (t_var rfl hwp3) (e_slA (ys := us.drop 1) (t_var rfl hwp3) (o_some (i := ((1 : Nat) : Int)) v_c) o_none (cut_drop (by omega)))).is hmin) (by omega) (fun i v B' hi e ⟨Tt, a, b, ev, ha, hb, hT⟩ => ?_) (fun _ _ _ _ _ _ h => h) fun p xs B e hp hs => (⟨p, rfl, sl_of (by rw [hp, hs.eq, kept_all, List.map_map]; rfl)⟩ : ∃ p', V.ref p = V.ref p' ∧ SqL K B p' (((List.range (us.length - 1)).map fun _ => true).map V.bl)))
      subst ev
      refine g_pair hT fun B5 e5 => ⟨rfl, t_yes, fun _ => ?_⟩
      rw [List.getElem?_drop] at hb
      obtain ⟨da, ha1, ha2, ha3⟩ := cAt ha
      obtain ⟨db, hb1, hb2, hb3⟩ := cAt hb
      have himp := W.chain i da db ha1 (by rw [Nat.add_comm] at hb1; exact hb1)
      have eB := g13.up.trans (e.trans e5)
      obtain ⟨kn, ⟨dx, tb, hI, hT⟩, _⟩ := hC.up eB
      refine e_meth (v_var rfl) hI rfl (av_cons (v_var rfl) (av_cons (v_var rfl) av_nil)) fun vs B6 e6 ev => ?_
      subst ev
      exact fun B7 H7 a' b' Q q' E => ⟨B7, c, n, x, _, w, R, a, b, da, db, rfl, hC.up (eB.trans (e6.trans a')), N, ha2.up (eB.trans (e6.trans a')), hb2.up (eB.trans (e6.trans a')), ha3.1, Nat.le_of_lt ha3.2, hb3.1, Nat.le_of_lt hb3.2, b', fun B8 H8 g => q' _ B8 H8 g (by rw [himp])⟩
    · rw [e]
      exact qq _ _ (g13.trans g4)
theorem cal_is_reason : Cal P w₀ K mg base "is_reason" ["choices", "value"] 7 (sp_is_reason C) := by
  refine T.d_is_reason.cal sc_is_reason (fun vs H Q E h => ?_) (fun _ _ _ _ _ _ us hl => match us, hl with | [_, _], _ => rfl) (fun f cdv A outer s H vs Q E hr h => ?_)
  · obtain ⟨B, c, r, n, x, q, w, R, rfl, _⟩ := h
    rfl
  · obtain ⟨B, c, r, n, x, q, w, R, rfl, hC, N, hR, ex, qq⟩ := h
    have hu0 := hr.units
    have lf : ∀ {B' : Hp}, Ex B B' → EvV (tMeth C "last_fits" (sp_last_fits C) [] E0 (tVar 0) tNil) [some (.ref c), some (.ref r)] B' (.bl (decide (Sw.leftIdx (rkOf R) x q w = some (q - x)))) := fun {B'} e => by
      obtain ⟨kn, ⟨dx, tb, hI, hT⟩, _⟩ := hC.up e
      refine e_meth (v_var rfl) hI rfl av_nil fun vs B6 e6 ev => ?_
      rw [ev]
      exact fun B7 H7 a' b' Q q' E => ⟨B7, c, n, x, q, w, R, rfl, hC.up (e.trans (e6.trans a')), N, b', fun B8 H8 g => q' _ B8 H8 g rfl⟩
    refine ⟨_, (pss_cons (ps_if (PW.pt (pw_or (pt_not (pt_val (pe_callB call_isi (by rfl) T.b_isinstance (by decide +kernel) (pa_cons (pv 1) (pa_cons (pe_bltn (v := .ty "tuple") (by rfl) T.b_tuple (by decide +kernel) rfl) pa_nil))))) (pw_or (pt_cmpR (op_eqNilT hu0) (pv 1) (pe_tup pa_nil) (nomark _)) (pw_or1 (pt_not (pt_val (pe_callB call_isi (by rfl) T.b_isinstance (by decide +kernel) (pa_cons (pe_ix ix_tup (pv 1) pe_int (fun _ _ => rfl)) (pa_cons (pe_bltn (v := .ty "str") (by rfl) T.b_str (by decide +kernel) rfl) pa_nil))))))))) (pss_one (ps_ret pe_bl)) pss_nil)
    (pss_cons (ps_if (pt_cmpR op_eq (pe_ix ix_tup (pv 1) pe_int (fun _ _ => rfl)) pe_str (nomark _)) (pss_one (ps_ret (pe_and (pe_cmpR op_eq (pe_callB call_len_seq (by rfl) T.b_len PySem.boot_len (pa_cons (pv 1) pa_nil)) pe_int (nomark _)) (pe_one (pe_not ((mal_last_fits T).pe0 T.cl hr (by decide) (pv 0))))))) pss_nil)
    (pss_one (ps_ret (pe_and (pe_cmpR op_eq (pe_ix ix_tup (pv 1) pe_int (fun _ _ => rfl)) pe_str (nomark _)) (pe_and (pe_cmpR op_eq (pe_callB call_len_seq (by rfl) T.b_len PySem.boot_len (pa_cons (pv 1) pa_nil)) pe_int (nomark _)) (pe_and ((mal_last_fits T).pe0 T.cl hr (by decide) (pv 0)) (pe_one ((cal_is_walk T).pe hr (by decide) rfl (pa_cons (pv 0) (pa_cons (pe_ix ix_tup (pv 1) pe_int (fun _ _ => rfl)) pa_nil))))))))))), ?_⟩
    have key : ∀ (xs : List V) (wd : Str), B r = some (.tup (.str wd :: xs)) → ∀ {D : Ends} {tz : TS}, (∀ B1 H1, Go B H B1 H1 → tz D [some (.ref c), some (.ref r)] H1) → tSeq (tIfS (tOr (tNot (tB (tCB (rIsi K) (tCons (tVar 1) (tCons (tC (.ty "tuple")) tNil))))) (tOr (tTest (tOp (rEqNilT K) (tVar 1) (tTup tNil))) (tNot (tB (tCB (rIsi K) (tCons (tOp (rIxT K) (tVar 1) (tC (.int 0))) (tCons (tC (.ty "str")) tNil))))))) (tRet (tC (.bl false))) tNext) tz D [some (.ref c), some (.ref r)] H := fun xs wd hr1 D tz k =>
      q_skip (EvT.is (b := false) (t_or (t_not (t_test (v_isi (T1 := "tuple") (b := true) (e_var rfl fun B e H h => ty_tup (h _ _ (e _ _ hr1))) (by decide +kernel)))) fun _ => t_or (t_test (v_eqNilT (t_var rfl hr1))) fun _ => t_not (t_test (v_isi (T1 := "str") (b := true) (EvP.ofV (v_ixT (t_var rfl hr1) v_c (atI_nat (i := 0) rfl)) fun B e H h => ty_str) (by decide +kernel)))) (by rw [decide_eq_false (by simp)]; rfl)) ex k
    cases hR with
    | index h1 h2 =>
      refine key [] "index" h1 fun B1 H1 g1 => ?_
      have hr1 := g1.up _ _ h1
      refine q_when (EvT.is (b := true) (t_test (v_eq (v_ixT (t_var rfl hr1) v_c (atI_nat (i := 0) rfl)) v_c rfl)) (by rw [decide_eq_true rfl])) g1.sub (fun _ B2 H2 g2 => ?_) (fun z => by cases z)
      refine s_ret (P := fun u _ => u = .bl true) (EvV.is (v_and (v_eq (v_lenT (n := 1) (t_var rfl (g2.up _ _ hr1)) rfl) v_c rfl) fun _ => v_not (lf (g1.up.trans g2.up))) (by rw [decide_eq_false h2, decide_eq_true (show vN 1 = V.int 1 from rfl)]; rfl)) g2.sub fun v B3 H3 g3 e => ?_
      rw [e]
      exact qq _ _ (g1.trans (g2.trans g3))
    | walk wp us cs h1 h2 h3 h4 h5 h6 =>
      refine key [.ref wp] "walk" h1 fun B1 H1 g1 => ?_
      have hr1 := g1.up _ _ h1
      refine q_when (EvT.is (b := false) (t_test (v_eq (v_ixT (t_var rfl hr1) v_c (atI_nat (i := 0) rfl)) v_c rfl)) (decide_eq_false (fun z => by injection z with z; exact absurd z (by decide +kernel)))) g1.sub (fun z => by cases z) (fun _ B2 H2 g2 => ?_)
      have hr2 := g2.up _ _ hr1
      refine s_ret (P := fun u _ => u = .bl true) (EvV.is (v_and (v_eq (v_ixT (t_var rfl hr2) v_c (atI_nat (i := 0) rfl)) v_c rfl) fun _ => v_and (v_eq (v_lenT (n := 2) (t_var rfl hr2) rfl) v_c rfl) fun _ => v_and (lf (g1.up.trans g2.up)) fun _ => e_call (P := fun u _ => u = .bl true) (av_cons (v_var rfl) (av_cons (v_ixT (t_var rfl hr2) v_c (atI_nat (i := 1) rfl)) av_nil)) fun vs B3 e3 ev => ?_) (by rw [decide_eq_true h6, decide_eq_true (show V.str "walk" = V.str "walk" from rfl), decide_eq_true (show vN 2 = V.int 2 from rfl)]; rfl)) g2.sub fun v B3 H3 g3 e => ?_
      · rw [ev]
        have eB := g1.up.trans (g2.up.trans e3)
        exact fun B4 H4 a b Q q' E => ⟨B4, c, wp, n, x, q, w, R, us, cs, rfl, hC.up (eB.trans a), N, (eB.trans a) _ _ h2, h3.imp fun _ _ h => h.up (eB.trans a), h4, h5, b, fun B5 H5 g => q' _ B5 H5 g rfl⟩
      · rw [e]
        exact qq _ _ (g1.trans (g2.trans g3))
theorem cal_is_block : Cal P w₀ K mg base "is_block" ["rankings", "item", "person", "value"] 8 sp_is_block := by
  refine T.d_is_block.cal sc_is_block (fun vs H Q E h => ?_) (fun _ _ _ _ _ _ us hl => match us, hl with | [_, _, _, _], _ => rfl) (fun f cdv A outer s H vs Q E hr h => ?_)
  · obtain ⟨B, u, v, n, x, q, R, rfl, _⟩ := h
    rfl
  · obtain ⟨B, u, v, n, x, q, R, rfl, hR, G, hxq, hqn, ⟨bp, us, rfl, hbp, hul, hent⟩, ex, qq⟩ := h
    have hn := G.le
    refine ⟨_, (pss_cons (ps_if (PW.pt (pw_or (pt_not (pt_val (pe_callB call_isi (by rfl) T.b_isinstance (by decide +kernel) (pa_cons (pv 3) (pa_cons (pe_bltn (v := .ty "tuple") (by rfl) T.b_tuple (by decide +kernel) rfl) pa_nil))))) (pw_or1 (pt_cmpR op_ne (pe_callB call_len_seq (by rfl) T.b_len PySem.boot_len (pa_cons (pv 3) pa_nil)) (pe_op op_sub (pe_callB call_len_seq (by rfl) T.b_len PySem.boot_len (pa_cons (pv 0) pa_nil)) (pv 2)) (nomark _))))) (pss_one (ps_ret pe_bl)) pss_nil)
    (pss_cons (ps_set (i := 4) sc_is_block.nd rfl (Or.inl rfl) ((cal_rank_tables T).pe hr (by decide) rfl (pa_cons (pv 0) pa_nil)))
    (pss_cons (ps_for PassesOwn.never rfl (pi_zipRT (by rfl) T.b_zip (by rfl) T.b_range (pa_cons (pv 2) (pa_cons (pe_callB call_len_seq (by rfl) T.b_len PySem.boot_len (pa_cons (pv 0) pa_nil)) pa_nil)) (pv 3)) (pg_tup rfl (pgs_cons (pg_name (i := 5) sc_is_block.nd rfl (Or.inl rfl)) (pgs_cons (pg_name (i := 6) sc_is_block.nd rfl (Or.inl rfl)) pgs_nil)))
      (pss_cons (ps_if (PW.pt (pw_or (pt_not (pt_val (pe_callB call_isi (by rfl) T.b_isinstance (by decide +kernel) (pa_cons (pv 6) (pa_cons (pe_bltn (v := .ty "tuple") (by rfl) T.b_tuple (by decide +kernel) rfl) pa_nil))))) (pw_or (pt_cmpR op_ne (pe_callB call_len_seq (by rfl) T.b_len PySem.boot_len (pa_cons (pv 6) pa_nil)) pe_int (nomark _)) (pw_or1 (pt_not (pt_val ((cal_is_number_below T).pe hr (by decide) rfl (pa_cons (pe_ix ix_tup (pv 6) pe_int (fun _ _ => rfl)) (pa_cons (pe_callB call_len_seq (by rfl) T.b_len PySem.boot_len (pa_cons (pv 0) pa_nil)) pa_nil))))))))) (pss_one (ps_ret pe_bl)) pss_nil)
      (pss_one (ps_if (PW.pt (pw_or (pt_cmpR op_ne (pe_ix ix_tup (pv 6) pe_int (fun _ _ => rfl)) (pv 5) (nomark _)) (pw_or1 (pt_not (pt_val ((cal_is_reason T).pe hr (by decide) rfl (pa_cons ((mak_Choices T).pe hr (by decide) rfl T.g_Choices (pa_cons (pv 4) (pa_cons (pv 1) (pa_cons (pv 2) (pa_cons (pv 5) pa_nil))))) (pa_cons (pe_ix ix_tup (pv 6) pe_int (fun _ _ => rfl)) pa_nil)))))))) (pss_one (ps_ret pe_bl)) pss_nil))))
    (pss_one (ps_ret pe_bl))))), ?_⟩
    obtain ⟨pR, rus, rfl, hpR, hRs⟩ := id hR
    have hlenR : rus.length = n := by rw [hRs.len, G.len]
    refine q_skip (EvT.is (b := false) (t_or (t_not (t_test (v_isi (T1 := "tuple") (b := true) (e_var rfl fun B e H h => ty_tup (h _ _ (e _ _ hbp))) (by decide +kernel)))) fun _ => t_test (v_ne (v_lenT (n := n - q) (t_var rfl hbp) hul) (v_subN (k := n - q) (v_lenT (n := n) (t_var rfl hpR) hlenR) (v_var rfl) (by omega)) rfl)) (by rw [decide_eq_true rfl]; rfl)) ex fun B1 H1 g1 => ?_
    refine q_asg (P := fun u B => IsTab B u R) (e_call (av_cons (v_var rfl) av_nil) fun vs B' e5 e => ?_) g1.sub fun tb B2 H2 g2 hT => ?_
    · rw [e]
      exact fun B1 H1 a b Q q' E => ⟨B1, _, n, R, rfl, hR.up (g1.up.trans (e5.trans a)), G, b, fun v2 B2 H2 g h => q' _ B2 H2 g h⟩
    have g12 := g1.trans g2
    have hbp2 := g12.up _ _ hbp
    have hpR2 := g12.up _ _ hpR
    refine q_for (Hc := B2) (fun i σ1 B3 H3 => ∃ s5 s6, σ1 = [some (.ref pR), some (vN x), some (vN q), some (.ref bp), some tb, s5, s6] ∧ Go B H B3 H3)
      (i_zipR (lo := (q : Nat)) (m := n - q) (av_cons (v_var rfl) (av_cons (EvV.is (v_lenT (n := n) (t_var rfl hpR2) hlenR) (by show V.int _ = V.int _; congr 1; omega)) av_nil)) (by omega) (t_var rfl hbp2).st hul) g2.sub (fun B3 H3 g3 => ⟨_, _, rfl, g12.trans g3⟩) (fun i σ1 B3 H3 v B4 H4 hi e3 e3' hW g4 hv => ?_) (fun σ1 B3 H3 e3 e3' hW => ?_)
    · obtain ⟨s5, s6, rfl, gg⟩ := hW
      obtain ⟨Tt, y, rfl, hy, hT4⟩ := hv
      have eI : (q : Int) + (i : Nat) = ((q + i : Nat) : Int) := by omega
      rw [eI] at hT4
      refine (g_pair hT4 (S := fun σ2 B => σ2 = [some (.ref pR), some (vN x), some (vN q), some (.ref bp), some tb, some (vN (q + i)), some y]) fun _ _ => rfl) B4 H4 (Ex.refl _) g4.sub _ fun σ2 B5 H5 g5 e => ?_
      subst e
      have gg5 := gg.trans (g4.trans g5)
      obtain ⟨ea, er, rfl, hea, hrs⟩ := (hent i y hy).up gg5.up
      have N : Nums n x q (q + i) R := ⟨G, hxq, by omega, by omega⟩
      have hpR5 := gg5.up _ _ hpR
      refine q_skip (EvT.is (b := false) (t_or (t_not (t_test (v_isi (T1 := "tuple") (b := true) (e_var rfl fun B e H h => ty_tup (h _ _ (e _ _ hea))) (by decide +kernel)))) fun _ => t_or (t_test (v_ne (v_lenT (n := 2) (t_var rfl hea) rfl) v_c rfl)) fun _ => t_not (t_test (b := true) (e_call (av_cons (v_ixT (t_var rfl hea) v_c (atI_nat (i := 0) rfl)) (av_cons (v_lenT (n := n) (t_var rfl hpR5) hlenR) av_nil)) fun vs B' e5 e => ?_))) (by decide)) g5.sub fun B6 H6 g6 => ?_
      · rw [e]
        exact fun B1 H1 a b Q q' E => ⟨B1, (q + i : Nat), n, rfl, b, fun B2 H2 g => q' _ B2 H2 g (by rw [decide_eq_true (by omega : (0:Int) ≤ ((q + i : Nat) : Int)), decide_eq_true (by omega : ((q + i : Nat) : Int) < (n : Nat))]; rfl)⟩
      have hea6 := g6.up _ _ hea
      refine s_if (EvT.is (b := false) (t_or (t_test (v_ne (v_ixT (t_var rfl hea6) v_c (atI_nat (i := 0) rfl)) (v_var rfl) rfl)) fun _ => t_not (t_test (b := true) (e_call (PA := fun vs B => ∃ c, vs = [.ref c, .ref er] ∧ IsCh C B c R x q (q + i)) (a_cons (P := fun u B => ∃ c, u = .ref c ∧ IsCh C B c R x q (q + i)) (PR := fun vs _ => vs = [.ref er]) (e_make (av_cons (v_var rfl) (av_cons (v_var rfl) (av_cons (v_var rfl) (av_cons (v_var rfl) av_nil)))) (hT.up (e3.trans (g4.up.trans (g5.up.trans g6.up)))) N) (fun _ B' e _ => av_cons (v_ixT (t_var rfl (e _ _ hea6)) v_c (atI_nat (i := 1) rfl)) av_nil) fun a as B1 B2 _ e12 ⟨c, h1, h2⟩ h3 => ⟨c, by rw [h1, h3], h2.up e12⟩) fun vs B' e5 ⟨c, ev, hC⟩ => ?_))) (by rw [decide_eq_true rfl]; rfl)) g6.sub (fun z => by cases z) (fun _ B7 H7 g7 => ⟨B7, g4.up.trans (g5.up.trans (g6.up.trans g7.up)), g7.sub, _, _, rfl, gg5.trans (g6.trans g7)⟩)
      subst ev
      exact fun B1 H1 a b Q q' E => ⟨B1, c, er, n, x, q, q + i, R, rfl, hC.up a, N, hrs.up (g6.up.trans (e5.trans a)), b, fun B2 H2 g => q' _ B2 H2 g rfl⟩
    · obtain ⟨s5, s6, rfl, gg⟩ := hW
      refine s_ret (P := fun u _ => u = .bl true) v_c e3' fun v B4 H4 g4 e => ?_
      rw [e]
      exact qq _ _ (gg.trans g4)
end
end Sk

/-! blocks, history, brings, check_reach. -/
namespace Sk
open PySem PySem.Spec PyProof.Rows L2
def sp_blocks : Sp := fun vs H Q _ => ∃ (B : Hp) (u v : V) (n x q : Nat) (R : List (List Nat)), vs = [u, vN x, vN q, v] ∧ IsRk B u R ∧ Rkg n R ∧ x < n ∧ q < n ∧ (x < q ∧ IsBlk n x q R B v ∨ q < x ∧ IsBlk n (n - 1 - x) (n - 1 - q) (mirR n R) B v) ∧ Ex B H ∧ ∀ B1 H1, Go B H B1 H1 → Q (.bl true) H1
def sp_history : Sp := fun vs H Q _ => ∃ (B : Hp) (u v sv : V) (n : Nat) (R : List (List Nat)) (s : List Nat), vs = [u, v, sv] ∧ IsRk B u R ∧ Rkg n R ∧ IsRow B v (List.range n) ∧ IsRow B sv s ∧ Sw.Valid n (rkOf R) s ∧ s.length ≤ 4000 ∧ Ex B H ∧ ∀ p us rv B1 H1, Go B H B1 H1 → B1 p = some (.lst us) → us[us.length - 1]? = some rv → IsRow B1 rv (Sw.rowAfter n s) → Q (.ref p) H1
def sp_brings : Sp := fun vs H Q _ => ∃ (B : Hp) (u sv : V) (n x q : Nat) (R : List (List Nat)) (s : List Nat), vs = [u, vN x, vN q, sv] ∧ IsRk B u R ∧ Rkg n R ∧ q < n ∧ IsRow B sv s ∧ Sw.Valid n (rkOf R) s ∧ s.length ≤ 4000 ∧ Sw.it (Sw.rowAfter n s) q = x ∧ Ex B H ∧ ∀ B1 H1, Go B H B1 H1 → Q (.bl true) H1
def sp_check_reach : Sp := fun vs H Q _ => ∃ (B : Hp) (v : V) (a : Addr) (word' v1 : V) (n x q : Nat) (R : List (List Nat)), vs = [v, vN x, vN q, .ref a] ∧ IsRk B v R ∧ Rkg n R ∧ x < n ∧ q < n ∧ B a = some (.tup [word', v1]) ∧ AAns n x q R B word' v1 ∧ Ex B H ∧ ∀ B1 H1, Go B H B1 H1 → Q word' H1
section
variable {P : Program} {w₀ : World} {K : PySem.W.Frag} {mg : Str → Option Value} {base : Heap} {C : Addr} (T : Top K mg C)
include T
theorem cal_blocks : Cal P w₀ K mg base "blocks" ["rankings", "item", "person", "value"] 9 sp_blocks := by
  refine T.d_blocks.cal sc_blocks (fun vs H Q E h => ?_) (fun _ _ _ _ _ _ us hl => match us, hl with | [_, _, _, _], _ => rfl) (fun f cdv A outer s H vs Q E hr h => ?_)
  · obtain ⟨B, u, v, n, x, q, R, rfl, _⟩ := h
    rfl
  · obtain ⟨B, u, v, n, x, q, R, rfl, hR, G, hx, hq, hb, ex, qq⟩ := h
    have hn := G.le
    refine ⟨_, (pss_cons (ps_set (i := 4) sc_blocks.nd rfl (Or.inl rfl) (pe_op op_sub (pe_callB call_len_seq (by rfl) T.b_len PySem.boot_len (pa_cons (pv 0) pa_nil)) pe_int))
    (pss_cons (ps_if (pt_cmpR op_lt (pv 1) (pv 2) (nomark _)) (pss_one (ps_ret ((cal_is_block T).pe hr (by decide) rfl (pa_cons (pv 0) (pa_cons (pv 1) (pa_cons (pv 2) (pa_cons (pv 3) pa_nil))))))) pss_nil)
    (pss_one (ps_ret (pe_and (pe_cmpR op_gt (pv 1) (pv 2) (nomark _)) (pe_one ((cal_is_block T).pe hr (by decide) rfl (pa_cons ((cal_mirrored_rankings T).pe hr (by decide) rfl (pa_cons (pv 0) pa_nil)) (pa_cons (pe_op op_sub (pv 4) (pv 1)) (pa_cons (pe_op op_sub (pv 4) (pv 2)) (pa_cons (pv 3) pa_nil))))))))))), ?_⟩
    obtain ⟨pR, rus, rfl, hpR, hRs⟩ := id hR
    have hlenR : rus.length = n := by rw [hRs.len, G.len]
    refine q_asg (v_subN (k := n - 1) (j := 1) (v_lenT (n := n) (t_var rfl hpR) hlenR) v_c (by omega)) ex fun v2 B2 H2 g2 e2 => ?_
    subst e2
    refine q_when (EvT.is (b := decide (x < q)) (t_test (v_I0 (v_var rfl) (v_var rfl))) (decide_eq_decide.mpr (by omega))) g2.sub (fun z B4 H4 g4 => ?_) (fun z B4 H4 g4 => ?_)
    · have z := of_decide_eq_true z
      have hb' : IsBlk n x q R B v := by
        rcases hb with h | h
        · exact h.2
        · exact absurd z (by omega)
      refine s_ret (P := fun u _ => u = .bl true) (e_call (av_cons (v_var rfl) (av_cons (v_var rfl) (av_cons (v_var rfl) (av_cons (v_var rfl) av_nil)))) fun vs B' e5 e => ?_) g4.sub fun y B5 H5 g5 e => ?_
      · rw [e]
        exact fun B1 H1 a b Q q' E => ⟨B1, .ref pR, v, n, x, q, R, rfl, hR.up (g2.up.trans (g4.up.trans (e5.trans a))), G, z, hq, hb'.up (g2.up.trans (g4.up.trans (e5.trans a))), b, fun B2 H2 g => q' _ B2 H2 g rfl⟩
      · rw [e]
        exact qq _ _ (g2.trans (g4.trans g5))
    · have z := of_decide_eq_false z
      obtain ⟨hqx, hb'⟩ : q < x ∧ IsBlk n (n - 1 - x) (n - 1 - q) (mirR n R) B v := by
        rcases hb with h | h
        · exact absurd h.1 (by omega)
        · exact h
      refine s_ret (P := fun u _ => u = .bl true) (EvV.is (v_and (v_I0 (v_var rfl) (v_var rfl)) fun _ => e_call (P := fun u _ => u = .bl true) (PA := fun vs B => ∃ v', vs = [v', vN (n - 1 - x), vN (n - 1 - q), v] ∧ IsRk B v' (mirR n R)) (a_cons (P := fun v' B => IsRk B v' (mirR n R)) (PR := fun vs _ => vs = [vN (n - 1 - x), vN (n - 1 - q), v]) (e_call (av_cons (v_var rfl) av_nil) fun vs B' e5 e => ?_) (fun _ B' _ _ => av_cons (v_subN (k := n - 1 - x) (v_var rfl) (v_var rfl) (by omega)) (av_cons (v_subN (k := n - 1 - q) (v_var rfl) (v_var rfl) (by omega)) (av_cons (v_var rfl) av_nil))) fun a as B1 B2 _ e12 h1 h2 => ⟨a, by rw [h2], h1.up e12⟩) fun vs B9 e9 ⟨v', ev, hv'⟩ => ?_) (by rw [decide_eq_true (by omega : (q : Int) < (x : Int))]; rfl)) g4.sub fun y B5 H5 g5 e => ?_
      · rw [e]
        exact fun B1 H1 a b Q q' E => ⟨B1, .ref pR, n, R, rfl, hR.up (g2.up.trans (g4.up.trans (e5.trans a))), G, b, fun v2 B2 H2 g h => q' _ B2 H2 g h⟩
      · subst ev
        exact fun B1 H1 a b Q q' E => ⟨B1, v', v, n, n - 1 - x, n - 1 - q, mirR n R, rfl, hv'.up a, G.mir, by omega, by omega, hb'.up (g2.up.trans (g4.up.trans (e9.trans a))), b, fun B2 H2 g => q' _ B2 H2 g rfl⟩
      · rw [e]
        exact qq _ _ (g2.trans (g4.trans g5))
theorem cal_history : Cal P w₀ K mg base "history" ["rankings", "arrangement", "sequence"] 6 sp_history := by
  refine T.d_history.cal sc_history (fun vs H Q E h => ?_) (fun _ _ _ _ _ _ us hl => match us, hl with | [_, _, _], _ => rfl) (fun f cdv A outer s H vs Q E hr h => ?_)
  · obtain ⟨B, u, v, sv, n, R, s, rfl, _⟩ := h
    rfl
  · obtain ⟨B, u, v, sv, n, R, sq, rfl, hR, G, hv, ⟨ps, rfl, hps⟩, hV, hl, ex, qq⟩ := h
    have hn := G.le
    have hn1 := G.pos
    refine ⟨_, (pss_cons (ps_expr ((cal_check_fitting T).pe hr (by decide) rfl (pa_cons (pv 0) (pa_cons (pv 1) pa_nil))))
    (pss_cons (ps_if (pt_not (pt_val (pe_callB call_isi (by rfl) T.b_isinstance (by decide +kernel) (pa_cons (pv 2) (pa_cons (pe_bltn (v := .ty "tuple") (by rfl) T.b_tuple (by decide +kernel) rfl) pa_nil))))) (pss_one (ps_never)) pss_nil)
    (pss_cons (ps_par (i := 3) (j := 4) (by rfl) sc_history.nd rfl rfl (by decide) rfl rfl (pa_cons ((cal_rank_tables T).pe hr (by decide) rfl (pa_cons (pv 0) pa_nil)) (pa_cons (pe_lst (pa_cons (pv 1) pa_nil)) pa_nil)) (by rfl))
    (pss_cons (ps_for PassesOwn.never rfl (pi_enumT (by rfl) T.b_enumerate (pa_cons (pv 2) pa_nil)) (pg_tup rfl (pgs_cons (pg_name (i := 5) sc_history.nd rfl (Or.inl rfl)) (pgs_cons (pg_name (i := 6) sc_history.nd rfl (Or.inl rfl)) pgs_nil)))
      (pss_cons (ps_if (PW.pt (pw_or (pt_not (pt_val ((cal_is_number_below T).pe hr (by decide) rfl (pa_cons (pv 6) (pa_cons (pe_op op_sub (pe_callB call_len_seq (by rfl) T.b_len PySem.boot_len (pa_cons (pv 0) pa_nil)) pe_int) pa_nil))))) (pw_or1 (pt_not (pt_val ((cal_is_allowed_there T).pe hr (by decide) rfl (pa_cons (pv 3) (pa_cons (pe_ix ix_list (pv 4) (pe_un un_neg pe_int) (fun _ _ => rfl)) (pa_cons (pv 6) pa_nil))))))))) (pss_one (ps_never)) pss_nil)
      (pss_one (ps_expr (pe_bm PySem.F.plainAttrs_list PySem.F.slot_list_append PySem.F.type_list_append mt_append (pv 4) (pa_cons ((cal_swapped T).pe hr (by decide) rfl (pa_cons (pe_ix ix_list (pv 4) (pe_un un_neg pe_int) (fun _ _ => rfl)) (pa_cons (pv 6) pa_nil))) pa_nil))))))
    (pss_one (ps_ret (pv 4))))))), ?_⟩
    refine q_drop (P := fun _ _ => True) (e_call (av_cons (v_var rfl) (av_cons (v_var rfl) av_nil)) fun vs B' e5 e => ?_) ex fun _ B1 H1 g1 _ => ?_
    · rw [e]
      exact fun B1 H1 a b Q q' E => ⟨B1, n, u, v, R, List.range n, rfl, hR.up (e5.trans a), G, hv.up (e5.trans a), ⟨List.length_range, List.nodup_range, fun k hk => List.mem_range.mp hk⟩, b, fun B2 H2 g => q' _ B2 H2 g trivial⟩
    refine q_skip (EvT.is (b := false) (t_not (t_test (v_isi (T1 := "tuple") (b := true) (e_var rfl fun B e H h => ty_tup (h _ _ (e _ _ (g1.up _ _ hps)))) (by decide +kernel)))) rfl) g1.sub fun B2 H2 g2 => ?_
    have g12 := g1.trans g2
    refine q_parF (P1 := fun u B => IsTab B u R) (o := .lst [v]) (e_call (av_cons (v_var rfl) av_nil) fun vs B' e5 e => ?_) (fun _ B2 _ _ => f_lst (av_cons (v_var rfl) av_nil) (by simp)) g2.sub fun tb pf Bs Hs gs hT hfn Bf hf => ?_
    · rw [e]
      exact fun B1 H1 a b Q q' E => ⟨B1, u, n, R, rfl, hR.up (g12.up.trans (e5.trans a)), G, b, fun v2 B2 H2 g h => q' _ B2 H2 g h⟩
    have gs0 := g12.trans gs
    have H0f := g12.there _ hfn
    obtain ⟨pR, rus, rfl, hpR, hRs⟩ := id hR
    have hlenR : rus.length = n := by rw [hRs.len, G.len]
    have hsl : (sq.map vN).length = sq.length := List.length_map _
    refine q_for (Hc := Bs) (fun i σ1 B3 H3 => ∃ us rv s5 s6, σ1 = [some (.ref pR), some v, some (.ref ps), some tb, some (.ref pf), s5, s6] ∧ Go B H B3 H3 ∧ B3 pf = none ∧ H3 pf = some (.lst us) ∧ us.length = i + 1 ∧ us[us.length - 1]? = some rv ∧ IsRow B3 rv (Sw.rowAfter n (sq.take i)))
      ((i_enum (t_var rfl (gs0.up _ _ hps)).st).is hsl) gs.sub (fun B3 H3 g3 => ⟨[v], v, _, _, rfl, gs0.trans g3, g3.off pf Bf (by rw [hf]; simp), g3.ex _ _ hf, rfl, rfl, hv.up (gs0.up.trans g3.up)⟩) (fun i σ1 B3 H3 y B4 H4 hi e3 e3' hW g4 hy => ?_) (fun σ1 B3 H3 e3 e3' hW => ?_)
    · obtain ⟨us, rv, s5, s6, rfl, gg, Bf3, hf3, hul, hlast, hrow⟩ := hW
      obtain ⟨Tt, u, rfl, hu, hTt⟩ := hy
      refine (g_pair hTt (S := fun σ2 B => σ2 = [some (.ref pR), some v, some (.ref ps), some tb, some (.ref pf), some (vN i), some u]) fun _ _ => rfl) B4 H4 (Ex.refl _) g4.sub _ fun σ2 B5 H5 g5 e => ?_
      subst e
      have g45 := g4.trans g5
      have gg5 := gg.trans g45
      have hf5 := g45.ex _ _ hf3
      have Bf5 := g45.off pf Bf3 (by rw [hf3]; simp)
      have hi' : i < sq.length := hi
      rw [List.getElem?_map, List.getElem?_eq_getElem hi'] at hu
      have hu := (Option.some.inj hu).symm
      subst hu
      have hsi : sq[i]? = some sq[i] := List.getElem?_eq_getElem hi'
      generalize sq[i] = k at hsi
      have ok := hV i k hsi
      have hrow5 := hrow.up g45.up
      obtain ⟨pos, hp⟩ := Sw.Valid.perm (n := n) (rk := rkOf R) (seq := sq.take i) fun j t hj => by
        have hj' : j < i := by
          have := (List.getElem?_eq_some_iff.mp hj).1
          rw [List.length_take] at this; omega
        rw [List.getElem?_take, if_pos hj'] at hj
        have := hV j t hj
        rw [List.take_take, Nat.min_eq_left (by omega)]
        exact this
      generalize hrw : Sw.rowAfter n (sq.take i) = row at ok hrow5 hp
      have hrl := hp.len
      obtain ⟨o1, o2, o3⟩ := ok
      rw [hrl] at o1
      have hT5 := hT.up (e3.trans g45.up)
      have lst : ∀ {B' : Hp}, Ex H5 B' → EvV (tOp (rIxL K) (tVar 4) (tUn (rU fun i => .int (-i)) (tC (.int 1)))) [some (.ref pR), some v, some (.ref ps), some tb, some (.ref pf), some (vN i), some (vN k)] B' rv := fun e => v_ixL (l_var rfl (e _ _ hf5)) (v_un v_c) (atI_last hlast)
      refine q_skip (Hc := H5) (EvT.is (b := false) (t_or (t_not (t_test (b := true) (e_call (av_cons (v_var rfl) (av_cons (v_subN (k := n - 1) (j := 1) (v_lenT (n := n) (t_var rfl ((gg5.up.trans gg5.sub) _ _ hpR)) hlenR) v_c (by omega)) av_nil)) fun vs B' e5 e => ?_))) fun _ => t_not (t_test (b := true) (e_call (av_cons (v_var rfl) (av_cons (lst (Ex.refl _)) (av_cons (v_var rfl) av_nil))) fun vs B' e5 e => ?_))) rfl) (Ex.refl _) fun B6 H6 g6 => ?_
      · rw [e]
        exact fun B1 H1 a b Q q' E => ⟨B1, (k : Nat), (n - 1 : Nat), rfl, b, fun B2 H2 g => q' _ B2 H2 g (by rw [decide_eq_true (by omega : (0:Int) ≤ (k : Nat)), decide_eq_true (by omega : ((k : Nat) : Int) < ((n - 1 : Nat) : Int))]; rfl)⟩
      · rw [e]
        refine fun B1 H1 a b Q q' E => ⟨B1, n, k, Sw.it row k, Sw.it row (k + 1), tb, rv, R, row, rfl, hT5.up (gg5.sub.trans (e5.trans a)), G, hrow5.up (gg5.sub.trans (e5.trans a)), o1, Sw.of_it (by omega), Sw.of_it (by omega), hp.lt _ (by omega), hp.lt _ o1, b, fun B2 H2 g => q' _ B2 H2 g ?_⟩
        unfold Sw.likes
        rw [decide_eq_true o2, decide_eq_true o3]; rfl
      have g6' := g6.hid gg5.sub
      have hf6 := g6'.ex _ _ hf5
      refine s_appAt (B := B5) (P := fun u B => IsRow B u (Sw.swapL row k)) (vi_var rfl) (at_call (ar_cons (vi_last (vi_var rfl) vi_neg1 hf6 hlast) (ar_cons (vi_var rfl) ar_nil)) g6'.sub ?_) hf6 (by omega) fun u7 B7 H7 g7 h7 => ?_
      · exact fun B1 H1 a b Q q' E => ⟨B1, k, rv, row, rfl, hrow5.up a, by omega, by omega, b, fun v2 B2 H2 g h => q' _ B2 H2 g h⟩
      have Bf7 := g7.off pf Bf5 (by rw [hf6]; simp)
      have gz := ((gg5.trans g6').trans g7).mut (l := pf) (o := .lst (us ++ [u7])) H0f Bf7
      refine ⟨B7, g45.up.trans g7.up, gz.sub, us ++ [u7], u7, _, _, rfl, gz, Bf7, upd_same, by rw [List.length_append, hul]; rfl, ?_, ?_⟩
      · rw [List.length_append, List.length_singleton, List.getElem?_append_right (by omega), show us.length + 1 - 1 - us.length = 0 by omega]; rfl
      · rw [List.take_succ, hsi]
        show IsRow B7 u7 (Sw.rowAfter n (sq.take i ++ [k]))
        rw [Sw.rowAfter_snoc, hrw]
        exact h7
    · obtain ⟨us, rv, s5, s6, rfl, gg, Bf3, hf3, hul, hlast, hrow⟩ := hW
      have gz := gg.shown hf3 H0f
      refine s_ret (Hc := upd B3 pf (.lst us)) (P := fun u _ => u = .ref pf) (v_var rfl) gz.sub fun y B4 H4 g4 e => ?_
      rw [e]
      rw [List.take_length] at hrow
      exact qq pf us rv B4 H4 (gz.trans g4) (g4.up _ _ upd_same) hlast (hrow.up ((Ex.shown e3' hf3).trans g4.up))
theorem cal_brings : Cal P w₀ K mg base "brings" ["rankings", "item", "person", "value"] 7 sp_brings := by
  refine T.d_brings.cal sc_brings (fun vs H Q E h => ?_) (fun _ _ _ _ _ _ us hl => match us, hl with | [_, _, _, _], _ => rfl) (fun f cdv A outer s H vs Q E hr h => ?_)
  · obtain ⟨B, u, sv, n, x, q, R, s, rfl, _⟩ := h
    rfl
  · obtain ⟨B, u, sv, n, x, q, R, sq, rfl, hR, G, hq, hs, hV, hl, hit, ex, qq⟩ := h
    have hn := G.le
    refine ⟨_, (pss_one (ps_try_thru0 (pss_one (ps_ret (pe_cmpR op_eq (pe_ix ix_tup (pe_ix ix_list ((cal_history T).pe hr (by decide) rfl (pa_cons (pv 0) (pa_cons (pe_tupRg rfl (by rfl) T.b_tuple (prg_1 (by rfl) T.b_range (pe_callB call_len_seq (by rfl) T.b_len PySem.boot_len (pa_cons (pv 0) pa_nil)))) (pa_cons (pv 3) pa_nil)))) (pe_un un_neg pe_int) (fun _ _ => rfl)) (pv 2) (fun _ _ => rfl)) (pv 1) (nomark _)))))), ?_⟩
    obtain ⟨pR, rus, rfl, hpR, hRs⟩ := id hR
    have hlenR : rus.length = n := by rw [hRs.len, G.len]
    obtain ⟨pos, hp⟩ := hV.perm
    refine s_ret (P := fun u _ => u = .bl true) (e_op (Pa := fun u _ => u = vN x) (Pb := fun u _ => u = vN x) (e_op (Pa := fun u B => ∃ p, u = .ref p ∧ B p = some (.tup ((Sw.rowAfter n sq).map vN))) (Pb := fun u _ => u = vN q) (e_op (Pa := fun u B => ∃ p us rv, u = .ref p ∧ B p = some (.lst us) ∧ us[us.length - 1]? = some rv ∧ IsRow B rv (Sw.rowAfter n sq)) (Pb := fun u _ => u = .int (-1)) (e_call (PA := fun vs B => ∃ v', vs = [.ref pR, v', sv] ∧ IsRow B v' (List.range n)) (a_cons (P := fun u _ => u = .ref pR) (PR := fun vs B => ∃ v', vs = [v', sv] ∧ IsRow B v' (List.range n)) (v_var rfl) (fun _ B1 e1 _ => a_cons (P := fun u B => IsRow B u (List.range n)) (PR := fun vs _ => vs = [sv]) ((e_tupRg1 (n := n) (v_lenT (n := n) (t_var rfl (e1 _ _ hpR)) hlenR) (by omega)).wk fun u B _ ⟨p, h1, h2⟩ => ⟨p, h1, h2⟩) (fun _ B2 _ _ => av_cons (v_var rfl) av_nil) fun a as B1 B2 _ e12 h1 h2 => ⟨a, by rw [h2], h1.up e12⟩) fun a as B1 B2 _ _ h1 ⟨v', h2, h3⟩ => ⟨v', by rw [h1, h2], h3⟩) fun vs B1 e1 ⟨v', ev, hv'⟩ => ?_) (fun _ B1 _ _ => v_un v_c) fun a b B1 B2 e1 e2 ⟨p, us, rv, ea, h1, h2, h3⟩ eb => ?_) (fun _ B1 _ _ => v_var rfl) fun a b B1 B2 e1 e2 ⟨p, ea, h1⟩ eb => ?_) (fun _ B1 _ _ => v_var rfl) fun a b B1 B2 e1 e2 ea eb => ?_) ex fun y B4 H4 g4 e => ?_
    · subst ev
      exact fun B3 H3 a b Q q' E => ⟨B3, .ref pR, v', sv, n, R, sq, rfl, hR.up (e1.trans a), G, hv'.up a, hs.up (e1.trans a), hV, hl, b, fun p us rv B4 H4 g h1 h2 h3 => q' _ B4 H4 g ⟨p, us, rv, rfl, h1, h2, h3⟩⟩
    · subst ea eb
      obtain ⟨pr, rfl, hpr⟩ := h3
      exact fun B H e b Q q' => ⟨p, us, -1, .ref pr, rfl, rfl, sl_of ((e2.trans (e.trans b)) _ _ h1), atI_last h2, q' _ B H (.refl b) ⟨pr, rfl, (e2.trans e) _ _ hpr⟩⟩
    · subst ea eb
      refine fun B H e b Q q' => ⟨p, _, (q : Nat), vN x, rfl, rfl, st_of ((e2.trans (e.trans b)) _ _ h1), atI_nat ?_, q' _ B H (.refl b) rfl⟩
      rw [List.getElem?_map, Sw.of_it (by rw [hp.len]; exact hq), hit]; rfl
    · subst ea eb
      exact fun B H e b Q q' => ⟨rfl, q' _ B H (.refl b) (by rw [decide_eq_true rfl])⟩
    · rw [e]
      exact qq _ _ g4
end
end Sk

/-! check_reach. -/
namespace Sk
open PySem PySem.Spec PyProof.Rows L2
section
variable {P : Program} {w₀ : World} {K : PySem.W.Frag} {mg : Str → Option Value} {base : Heap} {C : Addr} (T : Top K mg C)
include T
theorem cal_check_reach : Cal P w₀ K mg base "check_reach" ["rankings", "item", "person", "answer"] 10 sp_check_reach := by
  refine T.d_check_reach.cal sc_check_reach (fun vs H Q E h => ?_) (fun _ _ _ _ _ _ us hl => match us, hl with | [_, _, _, _], _ => rfl) (fun f cdv A outer s H vs Q E hr h => ?_)
  · obtain ⟨B, v, a, wd, v1, n, x, q, R, rfl, _⟩ := h
    rfl
  · obtain ⟨B, v, a, wd, v1, n, x, q, R, rfl, hR, G, hx, hq, ha, hA, ex, qq⟩ := h
    refine ⟨_, (pss_cons (ps_expr ((cal_check_arguments T).pe hr (by decide) rfl (pa_cons (pv 0) (pa_cons (pv 1) (pa_cons (pv 2) pa_nil)))))
    (pss_cons (ps_if (PW.pt (pw_or (pt_not (pt_val (pe_callB call_isi (by rfl) T.b_isinstance (by decide +kernel) (pa_cons (pv 3) (pa_cons (pe_bltn (v := .ty "tuple") (by rfl) T.b_tuple (by decide +kernel) rfl) pa_nil))))) (pw_or (pt_cmpR op_ne (pe_callB call_len_seq (by rfl) T.b_len PySem.boot_len (pa_cons (pv 3) pa_nil)) pe_int (nomark _)) (pw_or1 (pt_not (pt_val (pe_callB call_isi (by rfl) T.b_isinstance (by decide +kernel) (pa_cons (pe_ix ix_tup (pv 3) pe_int (fun _ _ => rfl)) (pa_cons (pe_bltn (v := .ty "str") (by rfl) T.b_str (by decide +kernel) rfl) pa_nil))))))))) (pss_one (ps_never)) pss_nil)
    (pss_cons (ps_asg (pv 3) (pg_tup rfl (pgs_cons (pg_name (i := 4) sc_check_reach.nd rfl (Or.inl rfl)) (pgs_cons (pg_name (i := 5) sc_check_reach.nd rfl (Or.inl rfl)) pgs_nil))))
    (pss_cons (ps_if (pt_cmpR op_notIn_seq (pv 4) (pe_tup (pa_cons pe_str (pa_cons pe_str pa_nil))) (by rfl)) (pss_one (ps_never)) pss_nil)
    (pss_cons (ps_if (PW.pt (pw_and (pt_cmpR op_eq (pv 4) pe_str (nomark _)) (pw_and1 (pt_not (pt_val ((cal_brings T).pe hr (by decide) rfl (pa_cons (pv 0) (pa_cons (pv 1) (pa_cons (pv 2) (pa_cons (pv 5) pa_nil)))))))))) (pss_one (ps_never)) pss_nil)
    (pss_cons (ps_if (PW.pt (pw_and (pt_cmpR op_eq (pv 4) pe_str (nomark _)) (pw_and1 (pt_not (pt_val ((cal_blocks T).pe hr (by decide) rfl (pa_cons (pv 0) (pa_cons (pv 1) (pa_cons (pv 2) (pa_cons (pv 5) pa_nil)))))))))) (pss_one (ps_never)) pss_nil)
    (pss_one (ps_ret (pv 4))))))))), ?_⟩
    refine q_drop (P := fun _ _ => True) (e_call (av_cons (v_var rfl) (av_cons (v_var rfl) (av_cons (v_var rfl) av_nil))) fun vs B' e5 e => ?_) ex fun _ B1 H1 g1 _ => ?_
    · rw [e]
      exact fun B1 H1 a b Q q' E => ⟨B1, v, n, x, q, R, rfl, hR.up (e5.trans a), G, hx, hq, b, fun B2 H2 g => q' _ B2 H2 g trivial⟩
    obtain ⟨wd', rfl, hwd⟩ : ∃ wd' : Str, wd = .str wd' ∧ (wd' = "sequence" ∨ wd' = "block") := by
      cases hA with
      | seq => exact ⟨_, rfl, .inl rfl⟩
      | right => exact ⟨_, rfl, .inr rfl⟩
      | left => exact ⟨_, rfl, .inr rfl⟩
    have ha1 := g1.up _ _ ha
    refine q_skip (EvT.is (b := false) (t_or (t_not (t_test (v_isi (T1 := "tuple") (b := true) (e_var rfl fun B e H h => ty_tup (h _ _ (e _ _ ha1))) (by decide +kernel)))) fun _ => t_or (t_test (v_ne (v_lenT (n := 2) (t_var rfl ha1) rfl) v_c rfl)) fun _ => t_not (t_test (v_isi (T1 := "str") (b := true) (EvP.ofV (v_ixT (t_var rfl ha1) v_c (atI_nat (i := 0) rfl)) fun B e H h => ty_str) (by decide +kernel)))) (by decide)) g1.sub fun B2 H2 g2 => ?_
    have ha2 := g2.up _ _ ha1
    refine q_asgG (P := fun u _ => u = .ref a) (v_var rfl) g2.sub fun y B3 H3 g3 e => ?_
    subst e
    refine ⟨a, [.str wd', v1], rfl, st_of (g3.sub _ _ (g3.up _ _ ha2)), rfl, .str wd', [v1], rfl, v1, [], rfl, rfl, ?_⟩
    have hin : inV (.str wd') [.str "block", .str "sequence"] = true := by
      rcases hwd with h | h <;> rw [h] <;> decide +kernel
    refine q_skip (EvT.is (b := false) (t_test (v_in (k := true) (v_var rfl) ((e_tupV (xs := [.str "block", .str "sequence"]) (av_cons v_c (av_cons v_c av_nil)) (by simp)).wk fun u B _ ⟨p, h1, h2⟩ => ⟨p, h1, .inr (st_of h2)⟩) rfl (by decide +kernel))) (by rw [if_pos rfl, hin]; rfl)) g3.sub fun B4 H4 g4 => ?_
    have g14 := g1.trans (g2.trans (g3.trans g4))
    have hA4 := hA.up g14.up
    have hR4 := hR.up g14.up
    refine q_skip (EvT.is (b := false) (t_and (b := false) (t_test (v_eq (v_var rfl) v_c rfl)) fun z => t_not (t_test (b := true) (e_call (av_cons (v_var rfl) (av_cons (v_var rfl) (av_cons (v_var rfl) (av_cons (v_var rfl) av_nil)))) fun vs B' e5 e => ?_))) (Bool.and_false _)) g4.sub fun B5 H5 g5 => ?_
    · subst e
      have z := of_decide_eq_true z
      injection z with z
      cases hA4 with
      | seq _ s h1 h2 h3 h4 => exact fun B1 H1 a b Q q' E => ⟨B1, v, v1, n, x, q, R, s, rfl, hR4.up (e5.trans a), G, hq, h1.up (e5.trans a), h2, h4, h3, b, fun B2 H2 g => q' _ B2 H2 g rfl⟩
      | right => exact absurd z (by decide +kernel)
      | left => exact absurd z (by decide +kernel)
    refine q_skip (EvT.is (b := false) (t_and (b := false) (t_test (v_eq (v_var rfl) v_c rfl)) fun z => t_not (t_test (b := true) (e_call (av_cons (v_var rfl) (av_cons (v_var rfl) (av_cons (v_var rfl) (av_cons (v_var rfl) av_nil)))) fun vs B' e5 e => ?_))) (Bool.and_false _)) g5.sub fun B6 H6 g6 => ?_
    · subst e
      have z := of_decide_eq_true z
      injection z with z
      have e45 := g5.up.trans e5
      cases hA4 with
      | seq => exact absurd z (by decide +kernel)
      | right _ h0 hb => exact fun B1 H1 a b Q q' E => ⟨B1, v, v1, n, x, q, R, rfl, hR4.up (e45.trans a), G, hx, hq, .inl ⟨h0, hb.up (e45.trans a)⟩, b, fun B2 H2 g => q' _ B2 H2 g rfl⟩
      | left _ h0 hb => exact fun B1 H1 a b Q q' E => ⟨B1, v, v1, n, x, q, R, rfl, hR4.up (e45.trans a), G, hx, hq, .inr ⟨h0, hb.up (e45.trans a)⟩, b, fun B2 H2 g => q' _ B2 H2 g rfl⟩
    refine s_ret (P := fun u _ => u = .str wd') (v_var rfl) g6.sub fun y B7 H7 g7 e => ?_
    rw [e]
    exact qq _ _ (g14.trans (g5.trans (g6.trans g7)))
end
end Sk

/-! Law: likes, may, after, indices. -/
namespace Sk
open PySem PySem.Spec PyProof.Rows L2
def IsRF (H : Hp) (v : V) (r : List Nat) : Prop := ∃ a, v = .ref a ∧ FT H a (r.map vN)
theorem IsRF.up {H H' : Hp} {v : V} {r : List Nat} (h : IsRF H v r) (e : Ex H H') : IsRF H' v r := let ⟨a, h1, h2⟩ := h; ⟨a, h1, h2.up e⟩
def IsRkF (H : Hp) (v : V) (R : List (List Nat)) : Prop := ∃ a vs, v = .ref a ∧ H a = some (.tup vs) ∧ Seq2 (IsRF H) vs R
theorem IsRkF.up {H H' : Hp} {v : V} {R : List (List Nat)} (h : IsRkF H v R) (e : Ex H H') : IsRkF H' v R := let ⟨a, vs, h1, h2, h3⟩ := h; ⟨a, vs, h1, e _ _ h2, h3.imp fun _ _ h => h.up e⟩
theorem IsRkF.rk {H : Hp} {v : V} {R : List (List Nat)} (h : IsRkF H v R) : IsRk H v R := let ⟨a, vs, h1, h2, h3⟩ := h; ⟨a, vs, h1, h2, h3.imp fun _ _ ⟨a, h1, h2⟩ => ⟨a, h1, h2.tr⟩⟩
theorem IsRkF.len {K : PySem.W.Frag} {σ : L2.St} {Hc : Hp} {ta : TE} {u : V} {R : List (List Nat)} {n : Nat} (h : IsRkF Hc u R) (hv : EvV ta σ Hc u) (e : R.length = n) : EvV (tCB (rLenS K) (tCons ta tNil)) σ Hc (vN n) := by
  obtain ⟨a, vs, rfl, ha, hs⟩ := h
  exact v_lenT (EvTup.ofV hv ha) (by rw [hs.len, e])
def lsp (f : Nat → Nat → Nat → List (List Nat) → V → Prop) : Prop := True
def sp__law_likes : Sp := fun vs H Q _ => ∃ (B : Hp) (u : V) (n p y z : Nat) (R : List (List Nat)), vs = [u, vN p, vN y, vN z] ∧ IsRkF B u R ∧ Rkg n R ∧ p < n ∧ y < n ∧ z < n ∧ Ex B H ∧ ∀ B1 H1, Go B H B1 H1 → Q (.bl (Sw.likes (rkOf R) p y z)) H1
def sp__law_may : Sp := fun vs H Q _ => ∃ (B : Hp) (u rv : V) (n s : Nat) (R : List (List Nat)) (row : List Nat), vs = [u, rv, vN s] ∧ IsRkF B u R ∧ Rkg n R ∧ IsRF B rv row ∧ row.length = n ∧ (∀ i, i < n → Sw.it row i < n) ∧ s + 1 < n ∧ Ex B H ∧ ∀ B1 H1, Go B H B1 H1 → Q (.bl (Sw.likes (rkOf R) s (Sw.it row (s + 1)) (Sw.it row s) && Sw.likes (rkOf R) (s + 1) (Sw.it row s) (Sw.it row (s + 1)))) H1
def sp__law_after : Sp := fun vs H Q _ => ∃ (B : Hp) (s : Nat) (v : V) (row : List Nat), vs = [v, vN s] ∧ IsRF B v row ∧ s + 1 < row.length ∧ row.length ≤ 40 ∧ Ex B H ∧ ∀ v1 B1 H1, Go B H B1 H1 → IsRF B1 v1 (Sw.swapL row s) → Q v1 H1
def sp__law_left_index : Sp := fun vs H Q _ => ∃ (B : Hp) (u : V) (n x q y : Nat) (R : List (List Nat)), vs = [u, vN x, vN q, vN y] ∧ IsRkF B u R ∧ Rkg n R ∧ x < q ∧ q < n ∧ x < y ∧ y < n ∧ Ex B H ∧ ∀ B1 H1, Go B H B1 H1 → Q (ixV (Sw.leftIdx (rkOf R) x q y)) H1
def sp__law_stay_index : Sp := fun vs H Q _ => ∃ (B : Hp) (u : V) (n q w y : Nat) (R : List (List Nat)), vs = [u, vN q, vN w, vN y] ∧ IsRkF B u R ∧ Rkg n R ∧ 1 ≤ q ∧ q ≤ w ∧ w < n ∧ y < n ∧ Ex B H ∧ ∀ B1 H1, Go B H B1 H1 → Q (ixV (Sw.stayIdx (rkOf R) q w y)) H1
def sp__law_index : Sp := fun vs H Q _ => ∃ (B : Hp) (u v : V) (n x q w : Nat) (R : List (List Nat)) (d : Sw.Ch), vs = [u, vN x, vN q, vN w, v] ∧ IsRkF B u R ∧ Nums n x q w R ∧ IsC B v d ∧ Sw.rng x w d ∧ Ex B H ∧ ∀ B1 H1, Go B H B1 H1 → Q (ixV (Sw.idx (rkOf R) x q w d)) H1
section
variable {P : Program} {w₀ : World} {K : PySem.W.Frag} {mg : Str → Option Value} {base : Heap} {C : Addr} (T : Top K mg C)
include T
theorem cal__law_likes : Cal P w₀ K mg base "_law_likes" ["_law_lists_here", "_law_who", "_law_thing", "_law_far"] 1 sp__law_likes := by
  refine T.d__law_likes.cal sc__law_likes (fun vs H Q E h => ?_) (fun _ _ _ _ _ _ us hl => match us, hl with | [_, _, _, _], _ => rfl) (fun f cdv A outer s H vs Q E hr h => ?_)
  · obtain ⟨B, u, n, p, y, z, R, rfl, _⟩ := h
    rfl
  · obtain ⟨B, u, n, p, y, z, R, rfl, ⟨a, vs, rfl, ha, hs⟩, G, hp, hy, hz, ex, qq⟩ := h
    refine ⟨_, (pss_one (ps_ret (pe_cmpR op_lt (pe_bmF PySem.F.plainAttrs_tuple PySem.F.slot_tuple_index PySem.F.type_tuple_index mt_tup_indexI (pe_ix ix_tup (pv 0) (pv 1) (fun _ _ => rfl)) (pa_cons (pv 2) pa_nil)) (pe_bmF PySem.F.plainAttrs_tuple PySem.F.slot_tuple_index PySem.F.type_tuple_index mt_tup_indexI (pe_ix ix_tup (pv 0) (pv 1) (fun _ _ => rfl)) (pa_cons (pv 3) pa_nil)) (nomark _)))), ?_⟩
    obtain ⟨r, h1, h2, h3, h4⟩ := G.get hp hy
    obtain ⟨v, h5, b, rfl, hb⟩ := hs.get h1
    obtain ⟨r', h1', h2', _⟩ := G.get hp hz
    rw [h1] at h1'
    cases h1'
    have row : EvFT (tOp (rIxT K) (tVar 0) (tVar 1)) [some (.ref a), some (vN p), some (vN y), some (vN z)] B (r.map vN) := EvP.ofV (v_ixT (t_var rfl ha) (v_var rfl) (atI_nat h5)) fun B' e => ⟨b, rfl, hb.up e⟩
    have hrk : ∀ k, rkOf R p k = r.idxOf k := fun k => by
      unfold rkOf
      rw [List.getD_eq_getElem?_getD, h1]; rfl
    refine s_ret (v_I0 (v_index row (v_var rfl) (List.mem_of_getElem? h2)) (v_index row (v_var rfl) (List.mem_of_getElem? h2'))) ex fun v B1 H1 g e => ?_
    rw [e]
    have : decide (((r.idxOf y : Nat) : Int) < (r.idxOf z : Nat)) = Sw.likes (rkOf R) p y z := by
      unfold Sw.likes
      rw [hrk, hrk]
      exact decide_eq_decide.mpr (by omega)
    rw [this]
    exact qq _ _ g
theorem e_lk {σ : L2.St} {Hc : Hp} {ta tp ty tz : TE} {u : V} {n p y z : Nat} {R : List (List Nat)} (hR : IsRkF Hc u R) (G : Rkg n R) (hp : p < n) (hy : y < n) (hz : z < n) (h0 : EvV ta σ Hc u) (h1 : EvV tp σ Hc (vN p)) (h2 : EvV ty σ Hc (vN y)) (h3 : EvV tz σ Hc (vN z)) :
    EvV (tCall sp__law_likes [] E0 (tCons ta (tCons tp (tCons ty (tCons tz tNil))))) σ Hc (.bl (Sw.likes (rkOf R) p y z)) := e_call (av_cons h0 (av_cons h1 (av_cons h2 (av_cons h3 av_nil)))) fun vs B e ev => by
  subst ev
  exact fun B1 H1 a b Q q E => ⟨B1, u, n, p, y, z, R, rfl, hR.up (e.trans a), G, hp, hy, hz, b, fun B2 H2 g => q _ B2 H2 g rfl⟩
theorem cal__law_may : Cal P w₀ K mg base "_law_may" ["_law_lists_here", "_law_row", "_law_at"] 2 sp__law_may := by
  refine T.d__law_may.cal sc__law_may (fun vs H Q E h => ?_) (fun _ _ _ _ _ _ us hl => match us, hl with | [_, _, _], _ => rfl) (fun f cdv A outer s H vs Q E hr h => ?_)
  · obtain ⟨B, u, rv, n, s, R, row, rfl, _⟩ := h
    rfl
  · obtain ⟨B, u, rv, n, sw, R, row, rfl, hR, G, ⟨b, rfl, hb⟩, hl, hit, hs, ex, qq⟩ := h
    refine ⟨_, (pss_one (ps_ret (pe_and ((cal__law_likes T).pe hr (by decide) rfl (pa_cons (pv 0) (pa_cons (pv 2) (pa_cons (pe_ix ix_tup (pv 1) (pe_op op_add (pv 2) pe_int) (fun _ _ => rfl)) (pa_cons (pe_ix ix_tup (pv 1) (pv 2) (fun _ _ => rfl)) pa_nil))))) (pe_one ((cal__law_likes T).pe hr (by decide) rfl (pa_cons (pv 0) (pa_cons (pe_op op_add (pv 2) pe_int) (pa_cons (pe_ix ix_tup (pv 1) (pv 2) (fun _ _ => rfl)) (pa_cons (pe_ix ix_tup (pv 1) (pe_op op_add (pv 2) pe_int) (fun _ _ => rfl)) pa_nil))))))))), ?_⟩
    have it1 : EvV (tOp (rIxT K) (tVar 1) (tOp rAdd (tVar 2) (tC (.int 1)))) [some u, some (.ref b), some (vN sw)] B (vN (Sw.it row (sw + 1))) := v_ixS (s_var rfl hb.tr) (v_addN (v_var rfl) (v_c (v := .int (1 : Nat)))) (atI_nat (by rw [List.getElem?_map, Sw.of_it (by omega)]; rfl))
    have it0 : EvV (tOp (rIxT K) (tVar 1) (tVar 2)) [some u, some (.ref b), some (vN sw)] B (vN (Sw.it row sw)) := v_ixS (s_var rfl hb.tr) (v_var rfl) (atI_nat (by rw [List.getElem?_map, Sw.of_it (by omega)]; rfl))
    have l1 := hit (sw + 1) hs
    have l0 := hit sw (by omega)
    refine s_ret (v_and (e_lk T hR G (by omega) l1 l0 (v_var rfl) (v_var rfl) it1 it0) fun _ => e_lk T hR G hs l0 l1 (v_var rfl) (v_addN (v_var rfl) (v_c (v := .int (1 : Nat)))) it0 it1) ex fun v B1 H1 g e => ?_
    rw [e]
    exact qq _ _ g
theorem cal__law_after : Cal P w₀ K mg base "_law_after" ["_law_row", "_law_at"] 1 sp__law_after := by
  refine T.d__law_after.cal sc__law_after (fun vs H Q E h => ?_) (fun _ _ _ _ _ _ us hl => match us, hl with | [_, _], _ => rfl) (fun f cdv A outer s H vs Q E hr h => ?_)
  · obtain ⟨B, s, v, row, rfl, _⟩ := h
    rfl
  · obtain ⟨B, sw, v, row, rfl, ⟨p, rfl, hp⟩, hs, h40, ex, qq⟩ := h
    refine ⟨_, (pss_one (ps_ret (pe_op op_catF (pe_op op_catF (pe_slice sl_tupF (pv 0) po_none (po_some (pv 1))) (pe_tupF (pa_cons (pe_ix ix_tup (pv 0) (pe_op op_add (pv 1) pe_int) (fun _ _ => rfl)) (pa_cons (pe_ix ix_tup (pv 0) (pv 1) (fun _ _ => rfl)) pa_nil)))) (pe_slice sl_tupF (pv 0) (po_some (pe_op op_add (pv 1) pe_int)) po_none)))), ?_⟩
    have hlen : (row.map vN).length = row.length := List.length_map _
    have it1 : (row.map vN)[sw + 1]? = some (vN (Sw.it row (sw + 1))) := by rw [List.getElem?_map, Sw.of_it hs]; rfl
    have it0 : (row.map vN)[sw]? = some (vN (Sw.it row sw)) := by rw [List.getElem?_map, Sw.of_it (by omega)]; rfl
    refine s_ret (P := fun u B => IsRF B u (Sw.swapL row sw)) ((e_catF (xs := (row.map vN).take sw ++ [vN (Sw.it row (sw + 1)), vN (Sw.it row sw)]) (ys := (row.map vN).drop (sw + 2)) (e_catF (e_slF (f_var rfl hp) o_none (o_some (i := (sw : Nat)) (v_var rfl)) (cut_take (by omega))) (e_tupF (av_cons (v_ixS (s_var rfl hp.tr) (v_addN (v_var rfl) (v_c (v := .int (1 : Nat)))) (atI_nat it1)) (av_cons (v_ixS (s_var rfl hp.tr) (v_var rfl) (atI_nat it0)) av_nil)) (by simp)) (by simp only [List.length_take, List.length_cons, List.length_nil]; omega)) (e_slF (f_var rfl hp) (o_some (i := ((sw + 2 : Nat) : Int)) (v_addN (v_var rfl) (v_c (v := .int (2 : Nat))))) o_none (cut_drop (by omega))) (by simp only [List.length_take, List.length_cons, List.length_nil, List.length_append, List.length_drop]; omega)).wk fun u B e ⟨p2, h1, h2⟩ => ⟨p2, h1, ?_⟩) ex fun v B1 H1 g h => qq v B1 H1 g h
    have : (row.map vN).take sw ++ [vN (Sw.it row (sw + 1)), vN (Sw.it row sw)] ++ (row.map vN).drop (sw + 2) = (Sw.swapL row sw).map vN := by
      unfold Sw.swapL
      rw [List.map_append, List.map_append, List.map_take, List.map_drop]; rfl
    rw [← this]; exact h2
end
end Sk

/-! Law: indices, counts, wrong, clash, turned. -/
namespace Sk
open PySem PySem.Spec PyProof.Rows L2
def sp__law_counts : Sp := fun vs H Q _ => ∃ (B : Hp) (u v : V) (n x q w : Nat) (R : List (List Nat)) (d : Sw.Ch), vs = [u, vN x, vN q, vN w, v] ∧ IsRkF B u R ∧ Nums n x q w R ∧ IsC B v d ∧ Sw.rng x w d ∧ Ex B H ∧ ∀ v1 B1 H1, Go B H B1 H1 → (Sw.idx (rkOf R) x q w d = none → v1 = .non) → (∀ k, Sw.idx (rkOf R) x q w d = some k → ∃ a, v1 = .ref a ∧ B1 a = some (.tup [.int (Sw.before (rkOf R) x q w d), .int (Sw.beyond (rkOf R) x q w d)])) → Q v1 H1
def sp__law_wrong : Sp := fun vs H Q _ => ∃ (B : Hp) (u v : V) (n x q w : Nat) (R : List (List Nat)) (d : Sw.Ch), vs = [u, vN x, vN q, vN w, v] ∧ IsRkF B u R ∧ Nums n x q w R ∧ IsC B v d ∧ Sw.rng x w d ∧ Ex B H ∧ ∀ B1 H1, Go B H B1 H1 → Q (.bl (Sw.wrong (rkOf R) x q w d)) H1
section
variable {P : Program} {w₀ : World} {K : PySem.W.Frag} {mg : Str → Option Value} {base : Heap} {C : Addr} (T : Top K mg C)
include T
theorem cal__law_left_index : Cal P w₀ K mg base "_law_left_index" ["_law_lists_here", "_law_x", "_law_q", "_law_y"] 2 sp__law_left_index := by
  refine T.d__law_left_index.cal sc__law_left_index (fun vs H Q E h => ?_) (fun _ _ _ _ _ _ us hl => match us, hl with | [_, _, _, _], _ => rfl) (fun f cdv A outer s H vs Q E hr h => ?_)
  · obtain ⟨B, u, n, x, q, y, R, rfl, _⟩ := h
    rfl
  · obtain ⟨B, u, n, x, q, y, R, rfl, hR, G, hxq, hqn, hxy, hyn, ex, qq⟩ := h
    have hu0 := hr.units
    have hn := G.le
    refine ⟨_, (pss_cons (ps_set (i := 4) sc__law_left_index.nd rfl (Or.inl rfl) (pe_callB (call_min2 (by rfl)) (by rfl) T.b_min (by decide +kernel) (pa_cons (pv 3) (pa_cons (pv 2) pa_nil))))
    (pss_cons (ps_setLc (i := 5) (own := [("_law_who", 6)]) rfl sc__law_left_index.nd rfl rfl (sw_true rfl rfl rfl (by decide +kernel)) (pi_range2 (by rfl) T.b_range (pa_cons (pv 1) (pa_cons (pe_op op_add (pv 4) pe_int) pa_nil))) (blkOk_by (own := [("_law_who", 6)]) (N := N__law_left_index) (sc := defScope s__law_left_index) (by decide +kernel)) (fun _ _ _ _ _ => (pg_name (i := 6) sc__law_left_index.nd rfl (Or.inl rfl))) (fun _ _ _ _ _ => (pts_one (pt_val ((cal__law_likes T).pe hr (by decide) rfl (pa_cons (pv 0) (pa_cons (pv 6) (pa_cons (pv 3) (pa_cons (pv 1) pa_nil)))))))) (fun _ _ _ _ _ => (pv 6)))
    (pss_one (ps_ret (pe_ifExp (PW.pt (pw_or (pt_cmpR (op_eqD hu0) (pv 5) (pe_lst pa_nil) (nomark _)) (pw_or1 (pt_cmpR op_eq (pe_ix ix_list (pv 5) (pe_un un_neg pe_int) (fun _ _ => rfl)) (pv 4) (nomark _))))) pe_non (pe_op op_add (pe_op op_sub (pe_ix ix_list (pv 5) (pe_un un_neg pe_int) (fun _ _ => rfl)) (pv 1)) pe_int)))))), ?_⟩
    refine q_asg (v_min2 (f := fun i j => if j < i then j else i) (v_var rfl) (v_var rfl)) ex fun v1 B1 H1 g1 e1 => ?_
    have e1' : v1 = vN (min y q) := by
      rw [e1]
      show V.int _ = V.int _
      congr 1
      by_cases h : (q : Int) < (y : Int)
      · rw [if_pos h]; omega
      · rw [if_neg h]; omega
    subst e1'
    have hL := e_lcV (n := min y q + 1 - x) (vs := [6]) (j := 6) (te := tVar 6) (tt := tB (tCall sp__law_likes [] E0 (tCons (tVar 0) (tCons (tVar 6) (tCons (tVar 3) (tCons (tVar 1) tNil)))))) (σ := [some u, some (vN x), some (vN q), some (vN y), some (vN (min y q)), none, none]) (Hc := B1)
      (fun i => Sw.likes (rkOf R) (x + i) y x) (fun i => vN (x + i)) (i_rng2 (tr := tCons (tVar 1) (tCons (tOp rAdd (tVar 4) (tC (.int 1))) tNil)) (lo := x) (hi := min y q + 1) (av_cons (v_var rfl) (av_cons (v_addN (v_var rfl) v_c) av_nil)) (by omega) (by omega)) (by omega) (fun _ => rfl)
      (fun i v B' hi e hv => t_B (by
        subst hv
        exact e_lk T (hR.up (g1.up.trans e)) G (by omega) hyn (by omega) (v_var rfl) (v_var rfl) (v_var rfl) (v_var rfl)))
      (fun i v B' hi e hv _ => v_var (by rw [hv]; rfl))
    refine q_asg hL g1.sub fun v2 B2 H2 g2 ⟨p, e2, hp⟩ => ?_
    subst e2
    have hS : (kept (min y q + 1 - x) fun i => Sw.likes (rkOf R) (x + i) y x).map (fun i => vN (x + i)) = (Sw.leftSome (rkOf R) x q y).map vN := by
      unfold Sw.leftSome
      rw [List.map_map]; rfl
    rw [hS] at hp
    have hIx : Sw.leftIdx (rkOf R) x q y = match (Sw.leftSome (rkOf R) x q y).getLast? with | none => none | some a => if a = min y q then none else some (a - x + 1) := rfl
    have hge : ∀ b ∈ Sw.leftSome (rkOf R) x q y, x ≤ b := fun b hb => by
      obtain ⟨i, _, rfl⟩ := List.mem_map.mp hb
      exact Nat.le_add_right _ _
    generalize Sw.leftSome (rkOf R) x q y = L at hp hIx hge
    rw [hIx] at qq
    cases hl : L.getLast? with
    | none =>
      rw [hl] at qq
      have : L = [] := List.getLast?_eq_none_iff.mp hl
      subst this
      refine s_ret (P := fun u _ => u = .non) (e_if (t_or (b := true) (t_test (v_eqNil (l_var rfl hp))) (fun z => by cases z)) (fun _ => v_c) fun z => by simp at z) g2.sub fun v B3 H3 g3 e => ?_
      rw [e]
      exact qq B3 H3 ((g1.trans g2).trans g3)
    | some a =>
      rw [hl] at qq
      have hne : L ≠ [] := fun z => by subst z; cases hl
      have hLa : (L.map vN)[(L.map vN).length - 1]? = some (vN a) := by
        rw [List.length_map, List.getElem?_map, ← List.getLast?_eq_getElem?, hl]; rfl
      have ixl : EvV (tOp (rIxL K) (tVar 5) (tUn (rU fun i => .int (-i)) (tC (.int 1)))) [some u, some (vN x), some (vN q), some (vN y), some (vN (min y q)), some (.ref p), none] B2 (vN a) := v_ixL (l_var rfl hp) (v_un v_c) (atI_last hLa)
      refine s_ret (P := fun u _ => u = ixV (if a = min y q then none else some (a - x + 1))) (e_if (t_or (t_test (v_eqNil (l_var rfl hp))) fun _ => t_test (v_eq ixl (v_var rfl) rfl)) (fun z => ?_) fun z => ?_) g2.sub fun v B3 H3 g3 e => ?_
      · rw [decide_eq_false hne, Bool.false_or] at z
        have : a = min y q := by
          have := of_decide_eq_true z
          injection this with this
          omega
        rw [if_pos this]
        exact v_c
      · rw [decide_eq_false hne, Bool.false_or] at z
        have hne2 : a ≠ min y q := fun e => by
          rw [e] at z
          rw [decide_eq_true rfl] at z
          cases z
        rw [if_neg hne2]
        refine EvV.is (v_I0 (v_I0 ixl (v_var rfl)) v_c) ?_
        have := hge a (List.mem_of_getLast? hl)
        show V.int _ = V.int _
        congr 1
        omega
      · rw [e]
        exact qq B3 H3 ((g1.trans g2).trans g3)
theorem cal__law_stay_index : Cal P w₀ K mg base "_law_stay_index" ["_law_lists_here", "_law_q", "_law_w", "_law_y"] 2 sp__law_stay_index := by
  refine T.d__law_stay_index.cal sc__law_stay_index (fun vs H Q E h => ?_) (fun _ _ _ _ _ _ us hl => match us, hl with | [_, _, _, _], _ => rfl) (fun f cdv A outer s H vs Q E hr h => ?_)
  · obtain ⟨B, u, n, q, w, y, R, rfl, _⟩ := h
    rfl
  · obtain ⟨B, u, n, q, w, y, R, rfl, hR, G, hq1, hqw, hwn, hyn, ex, qq⟩ := h
    have hu0 := hr.units
    have hn := G.le
    refine ⟨_, (pss_cons (ps_setLc (i := 4) (own := [("_law_who", 5)]) rfl sc__law_stay_index.nd rfl rfl (sw_true rfl rfl rfl (by decide +kernel)) (pi_range2 (by rfl) T.b_range (pa_cons (pe_callB (call_max2 (by rfl)) (by rfl) T.b_max (by decide +kernel) (pa_cons (pv 3) (pa_cons (pe_op op_sub (pv 1) pe_int) pa_nil))) (pa_cons (pe_op op_add (pv 2) pe_int) pa_nil))) (blkOk_by (own := [("_law_who", 5)]) (N := N__law_stay_index) (sc := defScope s__law_stay_index) (by decide +kernel)) (fun _ _ _ _ _ => (pg_name (i := 5) sc__law_stay_index.nd rfl (Or.inl rfl))) (fun _ _ _ _ _ => (pts_one (pt_val ((cal__law_likes T).pe hr (by decide) rfl (pa_cons (pv 0) (pa_cons (pv 5) (pa_cons (pv 3) (pa_cons (pv 2) pa_nil)))))))) (fun _ _ _ _ _ => (pv 5)))
    (pss_one (ps_ret (pe_ifExp (PW.pt (pw_or (pt_cmpR (op_eqD hu0) (pv 4) (pe_lst pa_nil) (nomark _)) (pw_or (pt_cmpR op_le (pe_ix ix_list (pv 4) pe_int (fun _ _ => rfl)) (pv 1) (nomark _)) (pw_or1 (pt_cmpR op_eq (pe_ix ix_list (pv 4) pe_int (fun _ _ => rfl)) (pv 3) (nomark _)))))) pe_non (pe_op op_sub (pe_ix ix_list (pv 4) pe_int (fun _ _ => rfl)) (pv 1)))))), ?_⟩
    have hmx : V.int (if ((q - 1 : Nat) : Int) > (y : Int) then ((q - 1 : Nat) : Int) else (y : Int)) = vN (max y (q - 1)) := by
      show V.int _ = V.int _
      congr 1
      by_cases h : ((q - 1 : Nat) : Int) > (y : Int)
      · rw [if_pos h]; omega
      · rw [if_neg h]; omega
    have hL := e_lcV (n := w + 1 - max y (q - 1)) (vs := [5]) (j := 5) (te := tVar 5) (tt := tB (tCall sp__law_likes [] E0 (tCons (tVar 0) (tCons (tVar 5) (tCons (tVar 3) (tCons (tVar 2) tNil)))))) (σ := [some u, some (vN q), some (vN w), some (vN y), none, none]) (Hc := B)
      (fun i => Sw.likes (rkOf R) (max y (q - 1) + i) y w) (fun i => vN (max y (q - 1) + i)) (i_rng2 (tr := tCons (tCB (fun xs H Q => ∃ i j, xs = [.int i, .int j] ∧ Q (.int (if j > i then j else i)) H) (tCons (tVar 3) (tCons (tOp rSub (tVar 1) (tC (.int 1))) tNil))) (tCons (tOp rAdd (tVar 2) (tC (.int 1))) tNil)) (lo := max y (q - 1)) (hi := w + 1) (av_cons ((v_min2 (f := fun i j => if j > i then j else i) (v_var rfl) (v_subN (k := q - 1) (j := 1) (v_var rfl) v_c (by omega))).is hmx) (av_cons (v_addN (v_var rfl) v_c) av_nil)) (by omega) (by omega)) (by omega) (fun _ => rfl)
      (fun i v B' hi e hv => t_B (by
        subst hv
        exact e_lk T (hR.up e) G (by omega) hyn hwn (v_var rfl) (v_var rfl) (v_var rfl) (v_var rfl)))
      (fun i v B' hi e hv _ => v_var (by rw [hv]; rfl))
    refine q_asg hL ex fun v2 B2 H2 g2 ⟨p, e2, hp⟩ => ?_
    subst e2
    have hS : (kept (w + 1 - max y (q - 1)) fun i => Sw.likes (rkOf R) (max y (q - 1) + i) y w).map (fun i => vN (max y (q - 1) + i)) = (Sw.staySome (rkOf R) q w y).map vN := by
      unfold Sw.staySome
      rw [List.map_map]; rfl
    rw [hS] at hp
    have hIx : Sw.stayIdx (rkOf R) q w y = match (Sw.staySome (rkOf R) q w y).head? with | none => none | some a => if a ≤ q ∨ a = y then none else some (a - q) := rfl
    generalize Sw.staySome (rkOf R) q w y = L at hp hIx
    rw [hIx] at qq
    cases L with
    | nil =>
      refine s_ret (P := fun u _ => u = .non) (e_if (t_or (b := true) (t_test (v_eqNil (l_var rfl hp))) (fun z => by cases z)) (fun _ => v_c) fun z => by simp at z) g2.sub fun v B3 H3 g3 e => ?_
      rw [e]
      exact qq B3 H3 (g2.trans g3)
    | cons a L =>
      have ixl : EvV (tOp (rIxL K) (tVar 4) (tC (.int 0))) [some u, some (vN q), some (vN w), some (vN y), some (.ref p), none] B2 (vN a) := v_ixL (l_var rfl hp) v_c (atI_nat (i := 0) rfl)
      refine s_ret (P := fun u _ => u = ixV (if a ≤ q ∨ a = y then none else some (a - q))) (e_if (t_or (t_test (v_eqNil (l_var rfl hp))) fun _ => t_or (t_test (v_I0 ixl (v_var rfl))) fun _ => t_test (v_eq ixl (v_var rfl) rfl)) (fun z => ?_) fun z => ?_) g2.sub fun v B3 H3 g3 e => ?_
      · have : a ≤ q ∨ a = y := by
          simp only [Bool.or_eq_true, decide_eq_true_eq] at z
          rcases z with z | z | z
          · cases z
          · exact .inl (by omega)
          · exact .inr (by injection z with z; omega)
        rw [if_pos this]
        exact v_c
      · have hne2 : ¬ (a ≤ q ∨ a = y) := fun e => by
          simp only [Bool.or_eq_false_iff, decide_eq_false_iff_not] at z
          rcases e with e | e
          · exact z.2.1 (by omega)
          · exact z.2.2 (by rw [e])
        rw [if_neg hne2]
        exact v_subN (k := a - q) ixl (v_var rfl) (by omega)
      · rw [e]
        exact qq B3 H3 (g2.trans g3)
theorem cal__law_index : Cal P w₀ K mg base "_law_index" ["_law_lists_here", "_law_x", "_law_q", "_law_w", "_law_pick"] 3 sp__law_index := by
  refine T.d__law_index.cal sc__law_index (fun vs H Q E h => ?_) (fun _ _ _ _ _ _ us hl => match us, hl with | [_, _, _, _, _], _ => rfl) (fun f cdv A outer s H vs Q E hr h => ?_)
  · obtain ⟨B, u, v, n, x, q, w, R, d, rfl, _⟩ := h
    rfl
  · obtain ⟨B, u, v, n, x, q, w, R, d, rfl, hR, N, hd, hrd, ex, qq⟩ := h
    have := N.xq
    have := N.qw
    have := N.wn
    have hd1 := hrd.1
    have hd2 := hrd.2
    refine ⟨_, (pss_cons (ps_if (pt_cmpR op_eq (pe_ix ix_tup (pv 4) pe_int (fun _ _ => rfl)) pe_str (nomark _)) (pss_one (ps_ret ((cal__law_left_index T).pe hr (by decide) rfl (pa_cons (pv 0) (pa_cons (pv 1) (pa_cons (pv 2) (pa_cons (pe_ix ix_tup (pv 4) pe_int (fun _ _ => rfl)) pa_nil))))))) pss_nil)
    (pss_one (ps_ret ((cal__law_stay_index T).pe hr (by decide) rfl (pa_cons (pv 0) (pa_cons (pv 2) (pa_cons (pv 3) (pa_cons (pe_ix ix_tup (pv 4) pe_int (fun _ _ => rfl)) pa_nil)))))))), ?_⟩
    refine q_when (v_isL (v_var rfl) hd) ex (fun z B1 H1 g1 => ?_) (fun z B1 H1 g1 => ?_)
    · have hi : Sw.idx (rkOf R) x q w d = Sw.leftIdx (rkOf R) x q d.1 := if_pos z
      rw [hi] at qq
      refine s_ret (P := fun u _ => u = ixV (Sw.leftIdx (rkOf R) x q d.1)) (e_call (av_cons (v_var rfl) (av_cons (v_var rfl) (av_cons (v_var rfl) (av_cons (v_c0 (v_var rfl) (hd.up g1.up)) av_nil)))) fun vs B' e5 e => ?_) g1.sub fun v B2 H2 g2 e => ?_
      · rw [e]
        exact fun B1 H1 a b Q q' E => ⟨B1, u, n, x, q, d.1, R, rfl, hR.up (g1.up.trans (e5.trans a)), N.G, by omega, by omega, by omega, by omega, b, fun B2 H2 g => q' _ B2 H2 g rfl⟩
      · rw [e]
        exact qq _ _ (g1.trans g2)
    · have hi : Sw.idx (rkOf R) x q w d = Sw.stayIdx (rkOf R) q w d.1 := if_neg (by rw [z]; decide)
      rw [hi] at qq
      refine s_ret (P := fun u _ => u = ixV (Sw.stayIdx (rkOf R) q w d.1)) (e_call (av_cons (v_var rfl) (av_cons (v_var rfl) (av_cons (v_var rfl) (av_cons (v_c0 (v_var rfl) (hd.up g1.up)) av_nil)))) fun vs B' e5 e => ?_) g1.sub fun v B2 H2 g2 e => ?_
      · rw [e]
        exact fun B1 H1 a b Q q' E => ⟨B1, u, n, q, w, d.1, R, rfl, hR.up (g1.up.trans (e5.trans a)), N.G, by omega, by omega, by omega, by omega, b, fun B2 H2 g => q' _ B2 H2 g rfl⟩
      · rw [e]
        exact qq _ _ (g1.trans g2)
theorem e_ix {σ : L2.St} {Hc : Hp} {t0 t1 t2 t3 t4 : TE} {u v : V} {n x q w : Nat} {R : List (List Nat)} {d : Sw.Ch} (hR : IsRkF Hc u R) (N : Nums n x q w R) (hd : IsC Hc v d) (hrd : Sw.rng x w d) (h0 : EvV t0 σ Hc u) (h1 : EvV t1 σ Hc (vN x)) (h2 : EvV t2 σ Hc (vN q)) (h3 : EvV t3 σ Hc (vN w)) (h4 : EvV t4 σ Hc v) :
    EvV (tCall sp__law_index [] E0 (tCons t0 (tCons t1 (tCons t2 (tCons t3 (tCons t4 tNil)))))) σ Hc (ixV (Sw.idx (rkOf R) x q w d)) := e_call (av_cons h0 (av_cons h1 (av_cons h2 (av_cons h3 (av_cons h4 av_nil))))) fun vs B e ev => by
  subst ev
  exact fun B1 H1 a b Q q' E => ⟨B1, u, v, n, x, q, w, R, d, rfl, hR.up (e.trans a), N, hd.up (e.trans a), hrd, b, fun B2 H2 g => q' _ B2 H2 g rfl⟩
theorem cal__law_counts : Cal P w₀ K mg base "_law_counts" ["_law_lists_here", "_law_x", "_law_q", "_law_w", "_law_pick"] 4 sp__law_counts := by
  refine T.d__law_counts.cal sc__law_counts (fun vs H Q E h => ?_) (fun _ _ _ _ _ _ us hl => match us, hl with | [_, _, _, _, _], _ => rfl) (fun f cdv A outer s H vs Q E hr h => ?_)
  · obtain ⟨B, u, v, n, x, q, w, R, d, rfl, _⟩ := h
    rfl
  · obtain ⟨B, u, v, n, x, q, w, R, d, rfl, hR, N, hd, hrd, ex, qq⟩ := h
    refine ⟨_, (pss_cons (ps_set (i := 5) sc__law_counts.nd rfl (Or.inl rfl) ((cal__law_index T).pe hr (by decide) rfl (pa_cons (pv 0) (pa_cons (pv 1) (pa_cons (pv 2) (pa_cons (pv 3) (pa_cons (pv 4) pa_nil)))))))
    (pss_cons (ps_if (pt_cmpR op_isN (pv 5) pe_non (nomark _)) (pss_one (ps_ret pe_non)) pss_nil)
    (pss_cons (ps_set (i := 6) sc__law_counts.nd rfl (Or.inl rfl) (pe_op op_sub (pe_op op_sub (pe_ix ix_tup (pv 4) pe_int (fun _ _ => rfl)) (pv 1)) (pv 5)))
    (pss_one (ps_ret (pe_ifExp (pt_cmpR op_eq (pe_ix ix_tup (pv 4) pe_int (fun _ _ => rfl)) pe_str (nomark _)) (pe_tup (pa_cons (pe_op op_sub (pv 5) pe_int) (pa_cons (pv 5) pa_nil))) (pe_tup (pa_cons (pv 6) (pa_cons (pv 6) pa_nil))))))))), ?_⟩
    refine q_asg (e_ix T hR N hd hrd (v_var rfl) (v_var rfl) (v_var rfl) (v_var rfl) (v_var rfl)) ex fun v1 B1 H1 g1 e1 => ?_
    subst e1
    refine q_when (EvT.is (t_test (v_isN (v_var rfl))) (ixV_non _)) g1.sub (fun z B2 H2 g2 => ?_) (fun z B2 H2 g2 => ?_)
    · have z := of_decide_eq_true z
      refine s_ret (P := fun u _ => u = .non) v_c g2.sub fun v B3 H3 g3 e => ?_
      exact qq _ _ _ (g1.trans (g2.trans g3)) (fun _ => e) fun k hk => by rw [z] at hk; cases hk
    · have z := of_decide_eq_false z
      cases hk : Sw.idx (rkOf R) x q w d with
      | none => exact absurd hk z
      | some k =>
        have hd2 := hd.up (g1.up.trans g2.up)
        refine q_asg (v_sub (v_sub (v_c0 (v_var rfl) hd2) (v_var rfl)) (v_var (v := .int (k : Nat)) rfl)) g2.sub fun v2 B3 H3 g3 e2 => ?_
        subst e2
        have hd3 := hd2.up g3.up
        refine s_ret (P := fun u B => ∃ a, u = .ref a ∧ B a = some (.tup [.int (Sw.before (rkOf R) x q w d), .int (Sw.beyond (rkOf R) x q w d)])) (e_if (v_isL (v_var rfl) hd3) (fun z => (e_tupV (xs := [.int (Sw.before (rkOf R) x q w d), .int (Sw.beyond (rkOf R) x q w d)]) (av_cons (EvV.is (v_sub (v_var (v := .int (k : Nat)) rfl) v_c) ?_) (av_cons (EvV.is (v_var (v := .int (k : Nat)) rfl) ?_) av_nil)) (by simp))) (fun z => (e_tupV (xs := [.int (Sw.before (rkOf R) x q w d), .int (Sw.beyond (rkOf R) x q w d)]) (av_cons (EvV.is (v_var rfl) ?_) (av_cons (EvV.is (v_var rfl) ?_) av_nil)) (by simp)))) g3.sub fun v B4 H4 g4 h4 => qq _ _ _ (g1.trans (g2.trans (g3.trans g4))) (fun h => by rw [hk] at h; cases h) fun k' hk' => h4
        · unfold Sw.before; rw [hk, if_pos z]; rfl
        · unfold Sw.beyond Sw.before; rw [hk, if_pos z, if_pos z]
          show V.int _ = V.int ((k : Int) - 1 + 1)
          congr 1; omega
        · unfold Sw.before; rw [hk, if_neg (by rw [z]; decide)]; rfl
        · unfold Sw.beyond Sw.before; rw [hk, if_neg (by rw [z]; decide), if_neg (by rw [z]; decide)]
          show V.int _ = V.int ((d.1 : Int) - x - k + 0)
          congr 1; omega
theorem cal__law_wrong : Cal P w₀ K mg base "_law_wrong" ["_law_lists_here", "_law_x", "_law_q", "_law_w", "_law_pick"] 5 sp__law_wrong := by
  refine T.d__law_wrong.cal sc__law_wrong (fun vs H Q E h => ?_) (fun _ _ _ _ _ _ us hl => match us, hl with | [_, _, _, _, _], _ => rfl) (fun f cdv A outer s H vs Q E hr h => ?_)
  · obtain ⟨B, u, v, n, x, q, w, R, d, rfl, _⟩ := h
    rfl
  · obtain ⟨B, u, v, n, x, q, w, R, d, rfl, hR, N, hd, hrd, ex, qq⟩ := h
    have := N.xq
    have := N.qw
    refine ⟨_, (pss_cons (ps_set (i := 5) sc__law_wrong.nd rfl (Or.inl rfl) ((cal__law_counts T).pe hr (by decide) rfl (pa_cons (pv 0) (pa_cons (pv 1) (pa_cons (pv 2) (pa_cons (pv 3) (pa_cons (pv 4) pa_nil)))))))
    (pss_cons (ps_if (PW.pt (pw_or (pt_cmpR op_isN (pv 5) pe_non (nomark _)) (pw_or1 (PW.pt (pw_and (pt_cmpR op_eq (pe_ix ix_tup (pv 4) pe_int (fun _ _ => rfl)) (pe_op op_add (pv 1) pe_int) (nomark _)) (pw_and1 (pt_cmpR op_ne (pe_ix ix_tup (pv 5) pe_int (fun _ _ => rfl)) pe_int (nomark _)))))))) (pss_one (ps_ret pe_bl)) pss_nil)
    (pss_one (ps_ret (pe_and (pe_cmpR op_eq (pe_ix ix_tup (pv 4) pe_int (fun _ _ => rfl)) (pe_op op_sub (pv 3) pe_int) (nomark _)) (pe_one (pe_cmpR op_ne (pe_ix ix_tup (pv 5) pe_int (fun _ _ => rfl)) (pe_op op_sub (pe_op op_sub (pv 2) (pv 1)) pe_int) (nomark _)))))))), ?_⟩
    have hW : Sw.wrong (rkOf R) x q w d = if Sw.idx (rkOf R) x q w d = none ∨ d.1 = x + 1 ∧ Sw.before (rkOf R) x q w d ≠ 0 then true else decide ((d.1 : Int) = w - 1 ∧ Sw.beyond (rkOf R) x q w d ≠ (q : Int) - x - 1) := rfl
    refine q_asg (P := fun v1 B1 => (Sw.idx (rkOf R) x q w d = none → v1 = .non) ∧ (∀ k, Sw.idx (rkOf R) x q w d = some k → ∃ a, v1 = .ref a ∧ B1 a = some (.tup [.int (Sw.before (rkOf R) x q w d), .int (Sw.beyond (rkOf R) x q w d)]))) (e_call (av_cons (v_var rfl) (av_cons (v_var rfl) (av_cons (v_var rfl) (av_cons (v_var rfl) (av_cons (v_var rfl) av_nil))))) fun vs B' e5 e => ?_) ex fun v1 B1 H1 g1 ⟨h1, h2⟩ => ?_
    · rw [e]
      exact fun B1 H1 a b Q q' E => ⟨B1, u, v, n, x, q, w, R, d, rfl, hR.up (e5.trans a), N, hd.up (e5.trans a), hrd, b, fun v1 B2 H2 g h1 h2 => q' _ B2 H2 g ⟨h1, h2⟩⟩
    have hd1 := hd.up g1.up
    cases hk : Sw.idx (rkOf R) x q w d with
    | none =>
      have e1 := h1 hk
      subst e1
      refine q_when (EvT.is (b := true) (t_or (b := true) (t_test (v_isN (v_var rfl))) (fun z => by rw [decide_eq_true rfl] at z; cases z)) (Bool.or_true _)) g1.sub (fun _ B2 H2 g2 => ?_) (fun z => by cases z)
      refine s_ret (P := fun u _ => u = .bl true) v_c g2.sub fun v B3 H3 g3 e => ?_
      rw [e]
      have := qq _ _ (g1.trans (g2.trans g3))
      rw [hW, if_pos (.inl hk)] at this
      exact this
    | some k =>
      obtain ⟨a, e1, ha⟩ := h2 k hk
      subst e1
      have t2 : EvT (tTest (tOp rEq (tOp (rIxT K) (tVar 4) (tC (.int 0))) (tOp rAdd (tVar 1) (tC (.int 1))))) [some u, some (vN x), some (vN q), some (vN w), some v, some (.ref a)] B1 (decide (d.1 = x + 1)) := EvT.is (t_test (v_eq (v_c0 (v_var rfl) hd1) (v_addN (j := 1) (v_var rfl) v_c) rfl)) (decide_eq_decide.mpr ⟨fun z => by injection z with z; omega, fun z => by rw [z]⟩)
      have t3 := t_test (v_ne (v_ixT (K := K) (σ := [some u, some (vN x), some (vN q), some (vN w), some v, some (.ref a)]) (ta := tVar 5) (t_var rfl ha) v_c (atI_nat (i := 0) rfl)) (v_c (v := .int 0)) rfl)
      refine q_when (t_or (EvT.is (b := false) (t_test (v_isN (v_var rfl))) (decide_eq_false (fun z => by cases z))) fun _ => t_and t2 fun _ => t3) g1.sub (fun z B2 H2 g2 => ?_) (fun z B2 H2 g2 => ?_)
      · have hp : d.1 = x + 1 ∧ Sw.before (rkOf R) x q w d ≠ 0 := by
          simp only [Bool.false_or, Bool.and_eq_true, decide_eq_true_eq] at z
          refine ⟨z.1, fun e0 => ?_⟩
          have z2 := z.2
          rw [e0] at z2
          exact absurd z2 (by decide)
        refine s_ret (P := fun u _ => u = .bl true) v_c g2.sub fun v B3 H3 g3 e => ?_
        rw [e]
        have := qq _ _ (g1.trans (g2.trans g3))
        rw [hW, if_pos (.inr hp)] at this
        exact this
      · have hne : ¬ (Sw.idx (rkOf R) x q w d = none ∨ d.1 = x + 1 ∧ Sw.before (rkOf R) x q w d ≠ 0) := by
          rw [hk]
          rintro (z' | ⟨z1, z2⟩)
          · cases z'
          · simp only [Bool.false_or, Bool.and_eq_false_iff, decide_eq_false_iff_not] at z
            rcases z with z | z
            · exact z z1
            · simp at z
              exact z2 z
        refine s_ret (P := fun u _ => u = .bl (Sw.wrong (rkOf R) x q w d)) (EvV.is (v_and (v_eq (v_c0 (v_var rfl) (hd1.up g2.up)) (v_sub (v_var rfl) v_c) rfl) fun _ => v_ne (v_ixT (t_var rfl (g2.up _ _ ha)) v_c (atI_nat (i := 1) rfl)) (v_sub (v_sub (v_var rfl) (v_var rfl)) v_c) rfl) ?_) g2.sub fun v B3 H3 g3 e => ?_
        · rw [hW, if_neg hne]
          congr 1
          rw [Bool.eq_iff_iff]
          simp
        · rw [e]
          exact qq _ _ (g1.trans (g2.trans g3))
theorem cal__law_turned : Cal P w₀ K mg base "_law_turned" ["_law_pick"] 1 sp_opposite := by
  refine T.d__law_turned.cal sc__law_turned (fun vs H Q E h => ?_) (fun _ _ _ _ _ _ us hl => match us, hl with | [_], _ => rfl) (fun f cdv A outer s H vs Q E hr h => ?_)
  · obtain ⟨B, v, d, rfl, _⟩ := h
    rfl
  · obtain ⟨B, v, d, rfl, hd, ex, qq⟩ := h
    refine ⟨_, (pss_one (ps_ret (pe_tup (pa_cons (pe_ix ix_tup (pv 0) pe_int (fun _ _ => rfl)) (pa_cons (pe_ifExp (pt_cmpR op_eq (pe_ix ix_tup (pv 0) pe_int (fun _ _ => rfl)) pe_str (nomark _)) pe_str pe_str) pa_nil))))), ?_⟩
    refine s_ret (P := fun u B => IsC B u (Sw.opp d)) ((e_tupV (xs := [vN d.1, .str (word (!d.2))]) (av_cons (v_c0 (v_var rfl) hd) (av_cons (e_if (v_isL (v_var rfl) hd) (fun z => EvV.is v_c ?_) fun z => EvV.is v_c ?_) av_nil)) (by simp)).wk fun u B e ⟨p, h1, h2⟩ => ⟨p, h1, h2⟩) ex fun v B1 H1 g e => qq v B1 H1 g e
    · rw [z]; rfl
    · rw [z]; rfl
end
end Sk

/-! Law: clash, picks, mirrored, brings. -/
namespace Sk
open PySem PySem.Spec PyProof.Rows L2
section
variable {K : PySem.W.Frag} {σ : L2.St} {Hc : Hp} {ta tb : TE} {u v : V} {d e : Sw.Ch}
theorem v_minC (ha : EvV ta σ Hc u) (hb : EvV tb σ Hc v) (hd : IsC Hc u d) (he : IsC Hc v e) (hne : d.1 ≠ e.1) : EvV (tCB rMinIS (tCons ta (tCons tb tNil))) σ Hc (if d.1 < e.1 then u else v) := fun B H a b Q q =>
  ha B H a b _ fun x B1 H1 g1 e1 => hb B1 H1 (a.trans g1.up) g1.sub _ fun y B2 H2 g2 e2 => by
    subst e1 e2
    obtain ⟨t1, rfl, h1⟩ := hd.up (a.trans (g1.up.trans (g2.up.trans g2.sub)))
    obtain ⟨t2, rfl, h2⟩ := he.up (a.trans (g1.up.trans (g2.up.trans g2.sub)))
    refine ⟨t1, t2, (d.1 : Nat), (e.1 : Nat), word d.2, word e.2, rfl, h1, h2, by omega, q _ B2 H2 (g1.trans g2) ?_⟩
    by_cases hl : d.1 < e.1
    · rw [if_pos hl, if_neg (by omega)]
    · rw [if_neg hl, if_pos (by omega)]
theorem v_maxC (ha : EvV ta σ Hc u) (hb : EvV tb σ Hc v) (hd : IsC Hc u d) (he : IsC Hc v e) (hne : d.1 ≠ e.1) : EvV (tCB rMaxIS (tCons ta (tCons tb tNil))) σ Hc (if d.1 < e.1 then v else u) := fun B H a b Q q =>
  ha B H a b _ fun x B1 H1 g1 e1 => hb B1 H1 (a.trans g1.up) g1.sub _ fun y B2 H2 g2 e2 => by
    subst e1 e2
    obtain ⟨t1, rfl, h1⟩ := hd.up (a.trans (g1.up.trans (g2.up.trans g2.sub)))
    obtain ⟨t2, rfl, h2⟩ := he.up (a.trans (g1.up.trans (g2.up.trans g2.sub)))
    refine ⟨t1, t2, (d.1 : Nat), (e.1 : Nat), word d.2, word e.2, rfl, h1, h2, by omega, q _ B2 H2 (g1.trans g2) ?_⟩
    by_cases hl : d.1 < e.1
    · rw [if_pos hl, if_pos (by omega)]
    · rw [if_neg hl, if_neg (by omega)]
end
def sp__law_clash : Sp := fun vs H Q _ => ∃ (B : Hp) (u va vb : V) (n x q w : Nat) (R : List (List Nat)) (d e : Sw.Ch), vs = [u, vN x, vN q, vN w, va, vb] ∧ IsRkF B u R ∧ Nums n x q w R ∧ IsC B va d ∧ IsC B vb e ∧ Sw.rng x w d ∧ Sw.rng x w e ∧ Ex B H ∧ ∀ B1 H1, Go B H B1 H1 → Q (.bl (Sw.clash n (rkOf R) x q w d e)) H1
section
variable {P : Program} {w₀ : World} {K : PySem.W.Frag} {mg : Str → Option Value} {base : Heap} {C : Addr} (T : Top K mg C)
include T
theorem e_wrongL {σ : L2.St} {Hc : Hp} {t0 t1 t2 t3 t4 : TE} {u v : V} {n x q w : Nat} {R : List (List Nat)} {d : Sw.Ch} (hR : IsRkF Hc u R) (N : Nums n x q w R) (hd : IsC Hc v d) (hrd : Sw.rng x w d) (h0 : EvV t0 σ Hc u) (h1 : EvV t1 σ Hc (vN x)) (h2 : EvV t2 σ Hc (vN q)) (h3 : EvV t3 σ Hc (vN w)) (h4 : EvV t4 σ Hc v) :
    EvV (tCall sp__law_wrong [] E0 (tCons t0 (tCons t1 (tCons t2 (tCons t3 (tCons t4 tNil)))))) σ Hc (.bl (Sw.wrong (rkOf R) x q w d)) := e_call (av_cons h0 (av_cons h1 (av_cons h2 (av_cons h3 (av_cons h4 av_nil))))) fun vs B e ev => by
  subst ev
  exact fun B1 H1 a b Q q' E => ⟨B1, u, v, n, x, q, w, R, d, rfl, hR.up (e.trans a), N, hd.up (e.trans a), hrd, b, fun B2 H2 g => q' _ B2 H2 g rfl⟩
theorem e_cnt {σ : L2.St} {Hc : Hp} {t0 t1 t2 t3 t4 : TE} {u v : V} {n x q w k : Nat} {R : List (List Nat)} {d : Sw.Ch} (hR : IsRkF Hc u R) (N : Nums n x q w R) (hd : IsC Hc v d) (hrd : Sw.rng x w d) (hk : Sw.idx (rkOf R) x q w d = some k) (h0 : EvV t0 σ Hc u) (h1 : EvV t1 σ Hc (vN x)) (h2 : EvV t2 σ Hc (vN q)) (h3 : EvV t3 σ Hc (vN w)) (h4 : EvV t4 σ Hc v) :
    EvTup (tCall sp__law_counts [] E0 (tCons t0 (tCons t1 (tCons t2 (tCons t3 (tCons t4 tNil)))))) σ Hc [.int (Sw.before (rkOf R) x q w d), .int (Sw.beyond (rkOf R) x q w d)] := e_call (av_cons h0 (av_cons h1 (av_cons h2 (av_cons h3 (av_cons h4 av_nil))))) fun vs B e ev => by
  subst ev
  exact fun B1 H1 a b Q q' E => ⟨B1, u, v, n, x, q, w, R, d, rfl, hR.up (e.trans a), N, hd.up (e.trans a), hrd, b, fun v1 B2 H2 g _ h2 => q' _ B2 H2 g (h2 k hk)⟩
theorem cal__law_clash : Cal P w₀ K mg base "_law_clash" ["_law_lists_here", "_law_x", "_law_q", "_law_w", "_law_pick", "_law_far"] 6 sp__law_clash := by
  refine T.d__law_clash.cal sc__law_clash (fun vs H Q E h => ?_) (fun _ _ _ _ _ _ us hl => match us, hl with | [_, _, _, _, _, _], _ => rfl) (fun f cdv A outer s H vs Q E hr h => ?_)
  · obtain ⟨B, u, va, vb, n, x, q, w, R, d, e, rfl, _⟩ := h
    rfl
  · obtain ⟨B, u, va, vb, n, x, q, w, R, d, e, rfl, hR, N, hd, he, hrd, hre, ex, qq⟩ := h
    have hu := hu_of hr
    have hu0 := hr.units
    have hG := N.G
    have := N.xq
    have := N.qw
    have := N.wn
    have hCl : Sw.clash n (rkOf R) x q w d e = if Sw.wrong (rkOf R) x q w d = true ∨ Sw.wrong (rkOf R) x q w e = true then true else if d.1 = e.1 then decide (d ≠ e) else
      if (if d.1 < e.1 then e else d).1 = (if d.1 < e.1 then d else e).1 + 1 ∧ Sw.beyond (rkOf R) x q w (if d.1 < e.1 then d else e) ≠ Sw.before (rkOf R) x q w (if d.1 < e.1 then e else d) then true else !Sw.agree n (rkOf R) x q w (if d.1 < e.1 then d else e) (if d.1 < e.1 then e else d) := rfl
    refine ⟨_, (pss_cons (ps_if (PW.pt (pw_or (pt_val ((cal__law_wrong T).pe hr (by decide) rfl (pa_cons (pv 0) (pa_cons (pv 1) (pa_cons (pv 2) (pa_cons (pv 3) (pa_cons (pv 4) pa_nil))))))) (pw_or1 (pt_val ((cal__law_wrong T).pe hr (by decide) rfl (pa_cons (pv 0) (pa_cons (pv 1) (pa_cons (pv 2) (pa_cons (pv 3) (pa_cons (pv 5) pa_nil)))))))))) (pss_one (ps_ret pe_bl)) pss_nil)
    (pss_cons (ps_if (pt_cmpR op_eq (pe_ix ix_tup (pv 4) pe_int (fun _ _ => rfl)) (pe_ix ix_tup (pv 5) pe_int (fun _ _ => rfl)) (nomark _)) (pss_one (ps_ret (pe_cmpR (op_neD hu0) (pv 4) (pv 5) (nomark _)))) pss_nil)
    (pss_cons (ps_par (i := 6) (j := 7) (by rfl) sc__law_clash.nd rfl rfl (by decide) rfl rfl (pa_cons (pe_callB (cr_minIS rfl hu) (by rfl) T.b_min (by decide +kernel) (pa_cons (pv 4) (pa_cons (pv 5) pa_nil))) (pa_cons (pe_callB (cr_maxIS rfl hu) (by rfl) T.b_max (by decide +kernel) (pa_cons (pv 4) (pa_cons (pv 5) pa_nil))) pa_nil)) (by rfl))
    (pss_cons (ps_par (i := 8) (j := 9) (by rfl) sc__law_clash.nd rfl rfl (by decide) rfl rfl (pa_cons ((cal__law_counts T).pe hr (by decide) rfl (pa_cons (pv 0) (pa_cons (pv 1) (pa_cons (pv 2) (pa_cons (pv 3) (pa_cons (pv 6) pa_nil)))))) (pa_cons ((cal__law_counts T).pe hr (by decide) rfl (pa_cons (pv 0) (pa_cons (pv 1) (pa_cons (pv 2) (pa_cons (pv 3) (pa_cons (pv 7) pa_nil)))))) pa_nil)) (by rfl))
    (pss_cons (ps_if (PW.pt (pw_and (pt_cmpR op_eq (pe_ix ix_tup (pv 7) pe_int (fun _ _ => rfl)) (pe_op op_add (pe_ix ix_tup (pv 6) pe_int (fun _ _ => rfl)) pe_int) (nomark _)) (pw_and1 (pt_cmpR op_ne (pe_ix ix_tup (pv 8) pe_int (fun _ _ => rfl)) (pe_ix ix_tup (pv 9) pe_int (fun _ _ => rfl)) (nomark _))))) (pss_one (ps_ret pe_bl)) pss_nil)
    (pss_cons (ps_if (PW.pt (pw_or (pt_cmpR op_eq (pe_ix ix_tup (pv 6) pe_int (fun _ _ => rfl)) pe_str (nomark _)) (pw_or1 (pt_cmpR op_eq (pe_ix ix_tup (pv 7) pe_int (fun _ _ => rfl)) pe_str (nomark _))))) (pss_one (ps_ret pe_bl)) pss_nil)
    (pss_cons (ps_set (i := 10) sc__law_clash.nd rfl (Or.inl rfl) (pe_op op_sub (pe_op op_add (pe_op op_add (pv 1) ((cal__law_index T).pe hr (by decide) rfl (pa_cons (pv 0) (pa_cons (pv 1) (pa_cons (pv 2) (pa_cons (pv 3) (pa_cons (pv 6) pa_nil))))))) ((cal__law_index T).pe hr (by decide) rfl (pa_cons (pv 0) (pa_cons (pv 1) (pa_cons (pv 2) (pa_cons (pv 3) (pa_cons (pv 7) pa_nil))))))) pe_int))
    (pss_cons (ps_if (pt_cmpR op_ge (pe_op op_add (pv 10) pe_int) (pe_callB call_len_seq (by rfl) T.b_len PySem.boot_len (pa_cons (pv 0) pa_nil)) (nomark _)) (pss_one (ps_ret pe_bl)) pss_nil)
    (pss_one (ps_ret (pe_or (pe_not ((cal__law_likes T).pe hr (by decide) rfl (pa_cons (pv 0) (pa_cons (pv 10) (pa_cons (pe_ix ix_tup (pv 7) pe_int (fun _ _ => rfl)) (pa_cons (pe_ix ix_tup (pv 6) pe_int (fun _ _ => rfl)) pa_nil)))))) (pe_one (pe_not ((cal__law_likes T).pe hr (by decide) rfl (pa_cons (pv 0) (pa_cons (pe_op op_add (pv 10) pe_int) (pa_cons (pe_ix ix_tup (pv 6) pe_int (fun _ _ => rfl)) (pa_cons (pe_ix ix_tup (pv 7) pe_int (fun _ _ => rfl)) pa_nil)))))))))))))))))), ?_⟩
    refine q_when (t_or (t_B (e_wrongL T hR N hd hrd (v_var rfl) (v_var rfl) (v_var rfl) (v_var rfl) (v_var rfl))) fun _ => t_B (e_wrongL T hR N he hre (v_var rfl) (v_var rfl) (v_var rfl) (v_var rfl) (v_var rfl))) ex (fun z B1 H1 g1 => ?_) (fun z B1 H1 g1 => ?_)
    · refine s_ret (P := fun u _ => u = .bl true) v_c g1.sub fun v B2 H2 g2 ev => ?_
      rw [ev]
      have := qq B2 H2 (g1.trans g2)
      rw [hCl, if_pos (by simpa using z)] at this
      exact this
    have hz : ¬ (Sw.wrong (rkOf R) x q w d = true ∨ Sw.wrong (rkOf R) x q w e = true) := by simpa using z
    rw [hCl, if_neg hz] at qq
    have hix : ∀ d, ¬ Sw.wrong (rkOf R) x q w d = true → ∃ k, Sw.idx (rkOf R) x q w d = some k := fun d h => by
      cases hk : Sw.idx (rkOf R) x q w d with
      | some k => exact ⟨k, rfl⟩
      | none =>
        exfalso
        apply h
        unfold Sw.wrong
        rw [if_pos (.inl hk)]
    obtain ⟨k, hk⟩ := hix d fun h => hz (.inl h)
    obtain ⟨l, hl⟩ := hix e fun h => hz (.inr h)
    have hd1 := hd.up g1.up
    have he1 := he.up g1.up
    refine q_when (EvT.is (t_test (v_eq (v_c0 (v_var rfl) hd1) (v_c0 (v_var rfl) he1) rfl)) (b := decide (d.1 = e.1)) (decide_eq_decide.mpr ⟨fun z => by injection z with z; omega, fun z => by rw [z]⟩)) g1.sub (fun z B2 H2 g2 => ?_) (fun z B2 H2 g2 => ?_)
    · refine s_ret (v_neC (v_var rfl) (v_var rfl) (hd1.up g2.up) (he1.up g2.up)) g2.sub fun v B3 H3 g3 ev => ?_
      rw [ev]
      have := qq B3 H3 ((g1.trans g2).trans g3)
      rw [if_pos (of_decide_eq_true z)] at this
      rw [← decide_not]
      exact this
    have hne := of_decide_eq_false z
    rw [if_neg hne] at qq
    have g12 := g1.trans g2
    have hd2 := hd.up g12.up
    have he2 := he.up g12.up
    obtain ⟨vl, vh, cl, ch, el, eh, evl, evh, hcl, hch, hrl, hrh, ⟨kl, hkl⟩, ⟨kh, hkh⟩⟩ : ∃ (vl vh : V) (cl ch : Sw.Ch), (if d.1 < e.1 then d else e) = cl ∧ (if d.1 < e.1 then e else d) = ch ∧ (if d.1 < e.1 then va else vb) = vl ∧ (if d.1 < e.1 then vb else va) = vh ∧ IsC B vl cl ∧ IsC B vh ch ∧ Sw.rng x w cl ∧ Sw.rng x w ch ∧ (∃ k, Sw.idx (rkOf R) x q w cl = some k) ∧ (∃ k, Sw.idx (rkOf R) x q w ch = some k) := by
      by_cases hlt : d.1 < e.1
      · exact ⟨va, vb, d, e, if_pos hlt, if_pos hlt, if_pos hlt, if_pos hlt, hd, he, hrd, hre, ⟨k, hk⟩, ⟨l, hl⟩⟩
      · exact ⟨vb, va, e, d, if_neg hlt, if_neg hlt, if_neg hlt, if_neg hlt, he, hd, hre, hrd, ⟨l, hl⟩, ⟨k, hk⟩⟩
    rw [el, eh] at qq
    refine q_par (P1 := fun a _ => a = vl) (P2 := fun a _ => a = vh) (EvV.is (v_minC (v_var rfl) (v_var rfl) hd2 he2 hne) evl) (fun _ B' e' _ => EvV.is (v_maxC (v_var rfl) (v_var rfl) (hd2.up e') (he2.up e') hne) evh) g2.sub fun a b Ba B3 H3 g3 _ ea eb => ?_
    subst ea eb
    have g13 := g12.trans g3
    refine q_par (e_cnt T (hR.up g13.up) N (hcl.up g13.up) hrl hkl (v_var rfl) (v_var rfl) (v_var rfl) (v_var rfl) (v_var rfl)) (fun _ B' e' _ => e_cnt T (hR.up (g13.up.trans e')) N (hch.up (g13.up.trans e')) hrh hkh (v_var rfl) (v_var rfl) (v_var rfl) (v_var rfl) (v_var rfl)) g3.sub fun a' b' Ba B4 H4 g4 eab ⟨pa, ea, ha⟩ ⟨pb, eb, hb⟩ => ?_
    subst ea eb
    have g14 := g13.trans g4
    have ha4 := eab _ _ ha
    refine q_when (t_and (EvT.is (t_test (v_eq (v_c0 (v_var rfl) (hch.up g14.up)) (v_addN (v_c0 (v_var rfl) (hcl.up g14.up)) (v_c (v := .int (1 : Nat)))) rfl)) (b := decide (ch.1 = cl.1 + 1)) (decide_eq_decide.mpr ⟨fun z => by injection z with z; omega, fun z => by rw [z]⟩)) fun _ => t_test (v_ne (v_ixT (t_var rfl ha4) v_c (atI_nat (i := 1) rfl)) (v_ixT (t_var rfl hb) v_c (atI_nat (i := 0) rfl)) rfl)) g4.sub (fun z B5 H5 g5 => ?_) (fun z B5 H5 g5 => ?_)
    · refine s_ret (P := fun u _ => u = .bl true) v_c g5.sub fun v B6 H6 g6 ev => ?_
      rw [ev]
      have := qq _ _ ((g14.trans g5).trans g6)
      rw [if_pos (by simpa using z)] at this
      exact this
    have hnn : ¬ (ch.1 = cl.1 + 1 ∧ Sw.beyond (rkOf R) x q w cl ≠ Sw.before (rkOf R) x q w ch) := by simpa using z
    rw [if_neg hnn] at qq
    have g15 := g14.trans g5
    have hA : Sw.agree n (rkOf R) x q w cl ch = if cl.2 = true ∨ ch.2 = false then true else if n ≤ (x + kl + kh) - 1 + 1 then false else Sw.likes (rkOf R) ((x + kl + kh) - 1) ch.1 cl.1 && Sw.likes (rkOf R) ((x + kl + kh) - 1 + 1) cl.1 ch.1 := by
      unfold Sw.agree
      rw [hkl, hkh]; rfl
    rw [hA] at qq
    refine q_when (t_or (v_isL (v_var rfl) (hcl.up g15.up)) fun _ => v_isS (v_var rfl) (hch.up g15.up)) g5.sub (fun z B6 H6 g6 => ?_) (fun z B6 H6 g6 => ?_)
    · refine s_ret (P := fun u _ => u = .bl false) v_c g6.sub fun v B7 H7 g7 ev => ?_
      rw [ev]
      have := qq _ _ ((g15.trans g6).trans g7)
      rw [if_pos (by simpa using z)] at this
      exact this
    have hz2 : ¬ (cl.2 = true ∨ ch.2 = false) := by simpa using z
    rw [if_neg hz2] at qq
    have g16 := g15.trans g6
    have hl1 : 1 ≤ kh := by
      have : ch.2 = true := by
        cases h : ch.2 with
        | true => rfl
        | false => exact absurd (.inr h) hz2
      unfold Sw.idx at hkh
      rw [if_pos this] at hkh
      obtain ⟨a, _, _, _, _, e0⟩ := Sw.leftIdx_iff.mp hkh
      omega
    have il := e_ix T (σ := [some u, some (vN x), some (vN q), some (vN w), some va, some vb, some a, some b, some (.ref pa), some (.ref pb), none]) (t0 := tVar 0) (t1 := tVar 1) (t2 := tVar 2) (t3 := tVar 3) (t4 := tVar 6) (hR.up g16.up) N (hcl.up g16.up) hrl (v_var rfl) (v_var rfl) (v_var rfl) (v_var rfl) (v_var rfl)
    have ih := e_ix T (σ := [some u, some (vN x), some (vN q), some (vN w), some va, some vb, some a, some b, some (.ref pa), some (.ref pb), none]) (t0 := tVar 0) (t1 := tVar 1) (t2 := tVar 2) (t3 := tVar 3) (t4 := tVar 7) (hR.up g16.up) N (hch.up g16.up) hrh (v_var rfl) (v_var rfl) (v_var rfl) (v_var rfl) (v_var rfl)
    rw [hkl] at il
    rw [hkh] at ih
    refine q_asg (v_subN (k := x + kl + kh - 1) (j := 1) (v_addN (i := x + kl) (j := kh) (v_addN (i := x) (j := kl) (v_var rfl) il) ih) v_c (by omega)) g6.sub fun v2 B7 H7 g7 ev => ?_
    subst ev
    have g17 := g16.trans g7
    refine q_when (t_test (v_I0 (v_addN (v_var rfl) (v_c (v := .int (1 : Nat)))) ((hR.up g17.up).len (v_var rfl) hG.len))) g7.sub (fun z B8 H8 g8 => ?_) (fun z B8 H8 g8 => ?_)
    · refine s_ret (P := fun u _ => u = .bl true) v_c g8.sub fun v B9 H9 g9 ev => ?_
      rw [ev]
      have := qq _ _ ((g17.trans g8).trans g9)
      rw [if_pos (by have := of_decide_eq_true z; omega)] at this
      exact this
    · have hn : ¬ n ≤ x + kl + kh - 1 + 1 := fun h => by
        have := of_decide_eq_false z
        omega
      rw [if_neg hn] at qq
      have g18 := g17.trans g8
      have hcl8 := hcl.up g18.up
      have hch8 := hch.up g18.up
      have := hrl.1
      have := hrl.2
      have := hrh.1
      have := hrh.2
      refine s_ret (P := fun u _ => u = .bl (!(Sw.likes (rkOf R) (x + kl + kh - 1) ch.1 cl.1 && Sw.likes (rkOf R) (x + kl + kh - 1 + 1) cl.1 ch.1))) (EvV.is (v_or (v_not (e_lk T (hR.up g18.up) hG (by omega) (by omega) (by omega) (v_var rfl) (v_var rfl) (v_c0 (v_var rfl) hch8) (v_c0 (v_var rfl) hcl8))) fun _ => v_not (e_lk T (hR.up g18.up) hG (by omega) (by omega) (by omega) (v_var rfl) (v_addN (v_var rfl) (v_c (v := .int (1 : Nat)))) (v_c0 (v_var rfl) hcl8) (v_c0 (v_var rfl) hch8))) (by rw [Bool.not_and])) g8.sub fun v B9 H9 g9 ev => ?_
      rw [ev]
      exact qq _ _ (g18.trans g9)
end
end Sk

/-! Law: picks, mirrored, brings. -/
namespace Sk
open PySem PySem.Spec PyProof.Rows L2
def picksL (x w : Nat) : List Sw.Ch := ((List.range (w - (x + 1))).map fun i => (x + 1 + i, true)) ++ ((List.range (w - (x + 1))).map fun i => (x + 1 + i, false))
theorem picks_mem {x w : Nat} {d : Sw.Ch} : d ∈ picksL x w ↔ Sw.rng x w d := by
  obtain ⟨y, b⟩ := d
  unfold picksL Sw.rng
  rw [List.mem_append, List.mem_map, List.mem_map]
  constructor
  · rintro (⟨i, hi, e⟩ | ⟨i, hi, e⟩)
    all_goals
      have hi := List.mem_range.mp hi
      have e := congrArg Prod.fst e
      have e : x + 1 + i = y := e
      exact ⟨by show x < y; omega, by show y < w; omega⟩
  · rintro ⟨h1, h2⟩
    have h1 : x < y := h1
    have h2 : y < w := h2
    have e : x + 1 + (y - (x + 1)) = y := by omega
    cases b with
    | true => exact .inl ⟨y - (x + 1), List.mem_range.mpr (by omega), by rw [e]⟩
    | false => exact .inr ⟨y - (x + 1), List.mem_range.mpr (by omega), by rw [e]⟩
theorem seq2_app {α : Type} {P : V → α → Prop} {us vs : List V} {xs ys : List α} (a : Seq2 P us xs) (b : Seq2 P vs ys) : Seq2 P (us ++ vs) (xs ++ ys) := by
  have la := a.len
  refine ⟨by rw [List.length_append, List.length_append, a.len, b.len], fun k v c h1 h2 => ?_⟩
  by_cases hk : k < us.length
  · rw [List.getElem?_append_left hk] at h1
    rw [List.getElem?_append_left (by omega)] at h2
    exact a.at_ k v c h1 h2
  · rw [List.getElem?_append_right (by omega)] at h1
    rw [List.getElem?_append_right (by omega), ← la] at h2
    exact b.at_ _ v c h1 h2
def sp__law_picks : Sp := fun vs H Q _ => ∃ (B : Hp) (x w : Nat), vs = [vN x, vN w] ∧ (x ≤ 40 ∧ w ≤ 40) ∧ Ex B H ∧ ∀ p us B1 H1, Go B H B1 H1 → B1 p = some (.lst us) → Seq2 (IsC B1) us (picksL x w) → Q (.ref p) H1
def sp__law_mirrored : Sp := fun vs H Q _ => ∃ (B : Hp) (v : V) (n : Nat) (R : List (List Nat)), vs = [v] ∧ IsRkF B v R ∧ Rkg n R ∧ Ex B H ∧ ∀ v1 B1 H1, Go B H B1 H1 → IsRkF B1 v1 (mirR n R) → Q v1 H1
def sp__law_brings : Sp := fun vs H Q _ => ∃ (B : Hp) (u sv : V) (n x q : Nat) (R : List (List Nat)) (s : List Nat), vs = [u, sv, vN x, vN q] ∧ IsRkF B u R ∧ Rkg n R ∧ q < n ∧ IsRow B sv s ∧ Sw.Valid n (rkOf R) s ∧ s.length ≤ 4000 ∧ Sw.it (Sw.rowAfter n s) q = x ∧ Ex B H ∧ ∀ B1 H1, Go B H B1 H1 → Q (.bl true) H1
section
variable {P : Program} {w₀ : World} {K : PySem.W.Frag} {mg : Str → Option Value} {base : Heap} {C : Addr} (T : Top K mg C)
include T
theorem cal__law_picks : Cal P w₀ K mg base "_law_picks" ["_law_x", "_law_w"] 1 sp__law_picks := by
  refine T.d__law_picks.cal sc__law_picks (fun vs H Q E h => ?_) (fun _ _ _ _ _ _ us hl => match us, hl with | [_, _], _ => rfl) (fun f cdv A outer s H vs Q E hr h => ?_)
  · obtain ⟨B, x, w, rfl, _⟩ := h
    rfl
  · obtain ⟨B, x, w, rfl, ⟨hx, hw⟩, ex, qq⟩ := h
    refine ⟨_, (pss_one (ps_ret (pe_op op_cat (pe_lc (own := [("_law_y", 2)]) rfl sc__law_picks.nd (pi_range2 (by rfl) T.b_range (pa_cons (pe_op op_add (pv 0) pe_int) (pa_cons (pv 1) pa_nil))) (blkOk_by (own := [("_law_y", 2)]) (N := N__law_picks) (sc := defScope s__law_picks) (by decide +kernel)) (fun _ _ _ _ _ => (pg_name (i := 2) sc__law_picks.nd rfl (Or.inl rfl))) (fun _ _ _ _ _ => pts_nil) (fun _ _ _ _ _ => (pe_tup (pa_cons (pv 2) (pa_cons pe_str pa_nil))))) (pe_lc (own := [("_law_y", 2)]) rfl sc__law_picks.nd (pi_range2 (by rfl) T.b_range (pa_cons (pe_op op_add (pv 0) pe_int) (pa_cons (pv 1) pa_nil))) (blkOk_by (own := [("_law_y", 2)]) (N := N__law_picks) (sc := defScope s__law_picks) (by decide +kernel)) (fun _ _ _ _ _ => (pg_name (i := 2) sc__law_picks.nd rfl (Or.inl rfl))) (fun _ _ _ _ _ => pts_nil) (fun _ _ _ _ _ => (pe_tup (pa_cons (pv 2) (pa_cons pe_str pa_nil)))))))), ?_⟩
    have lc : ∀ {B' : Hp} (b : Bool) (wd : Str), wd = word b → Ex B B' → EvP (tLc (iRng2 (tCons (tOp rAdd (tVar 0) (tC (.int 1))) (tCons (tVar 1) tNil))) (gName 2) tYes (tTup (tCons (tVar 2) (tCons (tC (.str wd)) tNil))) [2]) [some (vN x), some (vN w), none] B' fun u B => ∃ p us, u = .ref p ∧ B p = some (.lst us) ∧ Seq2 (IsC B) us ((List.range (w - (x + 1))).map fun i => (x + 1 + i, b)) := fun {B'} b wd hwd eB => by
      subst hwd
      refine e_lc (n := w - (x + 1)) (fun i v B => IsC B v (x + 1 + i, b)) (fun _ => true) (i_rng2 (lo := x + 1) (hi := w) (av_cons (v_addN (v_var rfl) (v_c (v := .int (1 : Nat)))) (av_cons (v_var rfl) av_nil)) (by omega) (by omega)) (by omega) (fun i v B2 hi e hv => g_name fun B3 e3 => ⟨rfl, t_yes, fun _ => ?_⟩) (fun i v B B' _ e h => h.up e) fun p xs B e hp hs => ⟨p, xs, rfl, hp, ?_⟩
      · subst hv
        exact (e_tupV (xs := [vN (x + 1 + i), .str (word b)]) (av_cons (v_var rfl) (av_cons v_c av_nil)) (by simp)).wk fun u B _ ⟨p, h1, h2⟩ => ⟨p, h1, h2⟩
      · rw [kept_all] at hs
        exact hs.map fun _ _ h => h
    refine s_ret (P := fun u B => ∃ p us, u = .ref p ∧ B p = some (.lst us) ∧ Seq2 (IsC B) us (picksL x w)) (fun B0 H0 a b Q q => (lc true "left" rfl (Ex.refl _)) B0 H0 a b _ fun v1 B1 H1 g1 ⟨p1, us1, e1, h1, s1⟩ => (lc false "stay" rfl (a.trans g1.up)) B1 H1 (Ex.refl _) g1.sub _ fun v2 B2 H2 g2 ⟨p2, us2, e2, h2, s2⟩ => ?_) ex fun v B3 H3 g3 ⟨p, us, ev, h1, h2⟩ => ?_
    · have l1 := s1.len
      have l2 := s2.len
      rw [List.length_map, List.length_range] at l1 l2
      refine ⟨p1, p2, us1, us2, e1, e2, (g2.up.trans g2.sub) _ _ h1, g2.sub _ _ h2, Nat.le_trans (by omega : us1.length + us2.length ≤ 100) (by decide), fun l hl => q _ _ _ ((g1.trans g2).laid hl) ⟨l, _, rfl, upd_same, ?_⟩⟩
      have eN := Ex.new (g2.sub.none hl) (o := .lst (us1 ++ us2))
      exact seq2_app (s1.imp fun _ _ h => h.up (g2.up.trans eN)) (s2.imp fun _ _ h => h.up eN)
    · subst ev
      exact qq p us B3 H3 g3 h1 h2
theorem cal__law_mirrored : Cal P w₀ K mg base "_law_mirrored" ["_law_lists_here"] 1 sp__law_mirrored := by
  refine T.d__law_mirrored.cal sc__law_mirrored (fun vs H Q E h => ?_) (fun _ _ _ _ _ _ us hl => match us, hl with | [_], _ => rfl) (fun f cdv A outer s H vs Q E hr h => ?_)
  · obtain ⟨B, v, n, R, rfl, _⟩ := h
    rfl
  · obtain ⟨B, v, n, R, rfl, ⟨p, us, rfl, hp, hs⟩, G, ex, q⟩ := h
    have hlen : us.length = n := by rw [hs.len, G.len]
    refine ⟨_, (pss_cons (ps_set (i := 1) sc__law_mirrored.nd rfl (by first | exact Or.inl rfl | exact Or.inr rfl) (pe_op op_sub (pe_callB call_len_seq (by rfl) T.b_len PySem.boot_len (pa_cons (pv 0) pa_nil)) pe_int))
    (pss_one (ps_ret (pe_callTy call_tuple_of (by rfl) T.b_tuple (by decide +kernel) (pa_cons (pe_lc (te := tCB (rTupOfF K) (tCons (tLc (iTup K (tVar 3)) (gName 2) tYes (tOp rSub (tVar 1) (tVar 2)) [2]) tNil)) (own := [("_law_ranked", 3)]) rfl sc__law_mirrored.nd (pi_tup (pe_revT (pv 0))) (blkOk_by (own := [("_law_ranked", 3)]) (N := N__law_mirrored) (sc := defScope s__law_mirrored) (by decide +kernel)) (fun _ _ _ _ _ => (pg_name (i := 3) sc__law_mirrored.nd rfl (Or.inl rfl))) (fun _ _ _ _ _ => pts_nil) (fun _ _ _ _ _ => (pe_callTy call_tuple_ofF (by rfl) T.b_tuple (by decide +kernel) (pa_cons (pe_lc (own := [("_law_thing", 2)]) rfl sc__law_mirrored.nd (pi_tup (pv 3)) (blkOk_by (own := [("_law_thing", 2)]) (N := N__law_mirrored) (sc := cS [(".0", .local), ("_law_ranked", .local), ("tuple", .globalImplicit), ("_law_top", .cell)]) (by decide +kernel)) (fun _ _ _ _ _ => (pg_name (i := 2) sc__law_mirrored.nd rfl (by first | exact Or.inl rfl | exact Or.inr rfl))) (fun _ _ _ _ _ => pts_nil) (fun _ _ _ _ _ => (pe_op op_sub (pv 1) (pv 2)))) pa_nil)))) pa_nil))))), ?_⟩
    refine q_asg (v_I0 (v_lenT (t_var rfl hp) hlen) v_c) ex fun v1 B1 H1 g1 e1 => ?_
    subst e1
    have hp1 := g1.up _ _ hp
    refine s_ret (P := fun u B => IsRkF B u (mirR n R)) ?_ g1.sub fun v B2 H2 g2 h2 => q v B2 H2 (g1.trans g2) h2
    have hL : EvP (tLc (iTup K (tRevT K (tVar 0))) (gName 3) tYes (tCB (rTupOfF K) (tCons (tLc (iTup K (tVar 3)) (gName 2) tYes (tOp rSub (tVar 1) (tVar 2)) [2]) tNil)) [3]) [some (.ref p), some (.int ((n : Nat) - 1)), none, none] B1 fun u B => ∃ a vs, u = .ref a ∧ B a = some (.lst vs) ∧ Seq2 (IsRF B) vs (mirR n R) := by
      have hrev : us.reverse.length = n := by rw [List.length_reverse, hlen]
      refine e_lc (n := n) (fun i v B => ∃ r, R.reverse[i]? = some r ∧ IsRF B v (r.map (n - 1 - ·))) (fun _ => true) ((i_tup (e_revT (t_var rfl hp1)).st).is hrev) (by have := G.le; omega) (fun i x B hi e hx => g_name fun B' e' => ⟨rfl, t_yes, fun _ => ?_⟩) (fun i v B B' _ e ⟨r, h1, h2⟩ => ⟨r, h1, h2.up e⟩) fun p2 xs B e h1 h2 => ⟨p2, xs, rfl, h1, ?_⟩
      · rw [List.getElem?_reverse (by omega)] at hx
        obtain ⟨r, h1, a, rfl, ha⟩ := hs.back hx
        have ha' := ha.up (g1.up.trans (e.trans e'))
        have hr : R.reverse[i]? = some r := by rw [List.getElem?_reverse (by rw [G.len]; exact hi), ← hs.len]; exact h1
        obtain ⟨hl, hnd, hlt⟩ := G.row r (List.mem_of_getElem? h1)
        refine (e_tupOfF (xs := r.map fun k => vN (n - 1 - k)) ?_).wk fun v B5 e5 ⟨p5, h5, h6⟩ => ⟨r, hr, p5, h5, by rw [List.map_map]; exact h6⟩
        refine (e_lcV (n := n) (fun _ => true) (fun i => vN (n - 1 - r.getD i 0)) ((i_tup (s_var rfl ha'.tr)).is (by rw [List.length_map, hl])) (by have := G.le; omega) (fun x => rfl) (fun _ _ _ _ _ _ => t_yes) fun i x B hi e hx _ => ?_).wk fun v B e ⟨p', h1, h2⟩ => ⟨p', h1, ?_⟩
        · rw [List.getElem?_map] at hx
          cases hk : r[i]? with
          | none => rw [hk] at hx; cases hx
          | some k =>
            rw [hk] at hx
            have hx := Option.some.inj hx
            subst hx
            have kl := hlt k (List.mem_of_getElem? hk)
            refine EvV.is (v_I0 (v_var rfl) (v_var rfl)) ?_
            rw [List.getD_eq_getElem?_getD, hk]
            show V.int _ = V.int _
            congr 1
            show (n : Int) - 1 - (k : Int) = ((n - 1 - k : Nat) : Int)
            omega
        · rw [h2, kept_all]
          congr 2
          refine List.ext_getElem? fun i => ?_
          rw [List.getElem?_map, List.getElem?_map]
          by_cases hi : i < n
          · rw [List.getElem?_range hi, List.getElem?_eq_getElem (by omega : i < r.length)]
            show some (vN (n - 1 - r.getD i 0)) = some (vN (n - 1 - r[i]))
            rw [List.getD_eq_getElem?_getD, List.getElem?_eq_getElem (by omega : i < r.length)]; rfl
          · rw [List.getElem?_eq_none (by rw [List.length_range]; omega), List.getElem?_eq_none (by omega)]; rfl
      · rw [kept_all] at h2
        have hn : (mirR n R).length = n := by unfold mirR; rw [List.length_map, List.length_reverse, G.len]
        refine seq2_range (P := fun v i => ∃ r, R.reverse[i]? = some r ∧ IsRF B v (r.map (n - 1 - ·))) (by rw [hn]; exact h2) fun i v x hx ⟨r, h3, h4⟩ => ?_
        unfold mirR at hx
        rw [List.getElem?_map, h3] at hx
        rw [← Option.some.inj hx]; exact h4
    exact e_tupOfP (K := K) (PL := fun vs B => Seq2 (IsRF B) vs (mirR n R)) hL fun vs B B' e h => h.imp fun _ _ h => h.up e
theorem cal__law_brings : Cal P w₀ K mg base "_law_brings" ["_law_lists_here", "_law_moves_here", "_law_thing", "_law_who"] 3 sp__law_brings := by
  refine T.d__law_brings.cal sc__law_brings (fun vs H Q E h => ?_) (fun _ _ _ _ _ _ us hl => match us, hl with | [_, _, _, _], _ => rfl) (fun f cdv A outer s H vs Q E hr h => ?_)
  · obtain ⟨B, u, sv, n, x, q, R, s, rfl, _⟩ := h
    rfl
  · obtain ⟨B, u, sv, n, x, q, R, sq, rfl, hR, G, hq, ⟨ps, rfl, hps⟩, hV, hl, hit, ex, qq⟩ := h
    have hn := G.le
    have hn1 := G.pos
    refine ⟨_, (pss_cons (ps_set (i := 4) sc__law_brings.nd rfl (Or.inl rfl) (pe_tupRgF rfl (by rfl) T.b_tuple (prg_1 (by rfl) T.b_range (pe_callB call_len_seq (by rfl) T.b_len PySem.boot_len (pa_cons (pv 0) pa_nil)))))
    (pss_cons (ps_for PassesOwn.never rfl (pi_tup (pv 1)) (pg_name (i := 5) sc__law_brings.nd rfl (Or.inl rfl))
      (pss_cons (ps_if (pt_not (pt_val ((cal__law_may T).pe hr (by decide) rfl (pa_cons (pv 0) (pa_cons (pv 4) (pa_cons (pv 5) pa_nil)))))) (pss_one (ps_ret pe_bl)) pss_nil)
      (pss_one (ps_set (i := 4) sc__law_brings.nd rfl (Or.inl rfl) ((cal__law_after T).pe hr (by decide) rfl (pa_cons (pv 4) (pa_cons (pv 5) pa_nil)))))))
    (pss_one (ps_ret (pe_cmpR op_eq (pe_ix ix_tup (pv 4) (pv 3) (fun _ _ => rfl)) (pv 2) (nomark _)))))), ?_⟩
    refine q_asg (P := fun u B => IsRF B u (List.range n)) ((e_tupRgF (n := n) (hR.len (v_var rfl) G.len) (by omega)).wk fun u B _ ⟨p, h1, h2⟩ => ⟨p, h1, h2⟩) ex fun hv0 B1 H1 g1 h0 => ?_
    have hsl : (sq.map vN).length = sq.length := List.length_map _
    refine q_for (Hc := B1) (fun i σ1 B3 H3 => ∃ hv s5, σ1 = [some u, some (.ref ps), some (vN x), some (vN q), some hv, s5] ∧ Go B H B3 H3 ∧ IsRF B3 hv (Sw.rowAfter n (sq.take i)))
      ((i_tup (t_var rfl (g1.up _ _ hps)).st).is hsl) g1.sub (fun B3 H3 g3 => ⟨_, _, rfl, g1.trans g3, h0.up g3.up⟩) (fun i σ1 B3 H3 y B4 H4 hi e3 e3' hW g4 hy => ?_) (fun σ1 B3 H3 e3 e3' hW => ?_)
    · obtain ⟨hv, s5, rfl, gg, hrow⟩ := hW
      have hi' : i < sq.length := hi
      rw [List.getElem?_map, List.getElem?_eq_getElem hi'] at hy
      have hy := (Option.some.inj hy).symm
      subst hy
      have hsi : sq[i]? = some sq[i] := List.getElem?_eq_getElem hi'
      generalize sq[i] = k at hsi
      have ok := hV i k hsi
      have gg4 := gg.trans g4
      have hrow4 := hrow.up g4.up
      obtain ⟨pos, hp⟩ := Sw.Valid.perm (n := n) (rk := rkOf R) (seq := sq.take i) fun j t hj => by
        have hj' : j < i := by
          have := (List.getElem?_eq_some_iff.mp hj).1
          rw [List.length_take] at this; omega
        rw [List.getElem?_take, if_pos hj'] at hj
        have := hV j t hj
        rw [List.take_take, Nat.min_eq_left (by omega)]
        exact this
      generalize hrw : Sw.rowAfter n (sq.take i) = row at ok hrow4 hp
      have hrl := hp.len
      obtain ⟨o1, o2, o3⟩ := ok
      rw [hrl] at o1
      refine q_skip (EvT.is (b := false) (t_not (t_test (b := true) (e_call (av_cons (v_var rfl) (av_cons (v_var rfl) (av_cons (v_var rfl) av_nil))) fun vs B' e5 e => ?_))) rfl) g4.sub fun B5 H5 g5 => ?_
      · rw [e]
        refine fun B1 H1 a b Q q' E => ⟨B1, u, hv, n, k, R, row, rfl, hR.up (gg4.up.trans (e5.trans a)), G, hrow4.up (e5.trans a), hrl, hp.lt, o1, b, fun B2 H2 g => q' _ B2 H2 g ?_⟩
        unfold Sw.likes
        rw [decide_eq_true o2, decide_eq_true o3]; rfl
      refine s_asg (P := fun u B => IsRF B u (Sw.swapL row k)) (e_call (av_cons (v_var rfl) (av_cons (v_var rfl) av_nil)) fun vs B' e5 e => ?_) g5.sub fun v6 B6 H6 g6 h6 => ?_
      · rw [e]
        exact fun B1 H1 a b Q q' E => ⟨B1, k, hv, row, rfl, hrow4.up (g5.up.trans (e5.trans a)), by omega, by omega, b, fun v2 B2 H2 g h => q' _ B2 H2 g h⟩
      refine ⟨B6, g4.up.trans (g5.up.trans g6.up), g6.sub, v6, _, rfl, gg4.trans (g5.trans g6), ?_⟩
      rw [List.take_succ, hsi]
      show IsRF B6 v6 (Sw.rowAfter n (sq.take i ++ [k]))
      rw [Sw.rowAfter_snoc, hrw]
      exact h6
    · obtain ⟨hv, s5, rfl, gg, pr, rfl, hpr⟩ := hW
      rw [List.take_length] at hpr
      obtain ⟨pos, hp⟩ := hV.perm
      refine s_ret (EvV.is (v_eq (v_ixS (s_var rfl hpr.tr) (v_var rfl) (atI_nat (v := vN x) (by rw [List.getElem?_map, Sw.of_it (by rw [hp.len]; exact hq), hit]; rfl))) (v_var rfl) rfl) rfl) e3' fun v B4 H4 g4 e => ?_
      rw [e, decide_eq_true rfl]
      exact qq _ _ (gg.trans g4)
end
end Sk

/-! Law: is_walk. -/
namespace Sk
open PySem PySem.Spec PyProof.Rows L2
section
variable {K : PySem.W.Frag} {σ : L2.St} {Hc : Hp} {ta tb : TE} {d : Sw.Ch} {cs : List Sw.Ch}
theorem v_notInCL (ha : EvP ta σ Hc fun u B => IsC B u d) (hb : EvP tb σ Hc fun u B => ∃ p us, u = .ref p ∧ B p = some (.lst us) ∧ Seq2 (IsC B) us cs) : EvV (tOp (rNotInD K) ta tb) σ Hc (.bl (!decide (d ∈ cs))) := by
  rw [← mem_dC]
  exact e_op ha (fun _ _ e _ => hb.mono e) fun x y B1 B2 e1 e2 h1 ⟨p, us, ep, hp, hs⟩ B H e b Q q => ⟨dC d, cs.map dC, (h1.up (e2.trans (e.trans b))).dp, by rw [ep]; exact .lst (sl_of ((e.trans b) _ _ hp)) (dp_chs (hs.imp fun _ _ h => h.up (e.trans b))), dC_shaped d, shaped_chs cs, q _ B H (.refl b) rfl⟩
end
def sp__law_is_walk : Sp := fun vs H Q _ => ∃ (B : Hp) (u : V) (wp : Addr) (n x q w : Nat) (R : List (List Nat)) (us : List V) (cs : List Sw.Ch), vs = [u, vN x, vN q, vN w, .ref wp] ∧ IsRkF B u R ∧ Nums n x q w R ∧ B wp = some (.tup us) ∧ Seq2 (IsC B) us cs ∧ Sw.IsWalk n (rkOf R) x q w cs ∧ cs.length ≤ 400 ∧ Ex B H ∧ ∀ B1 H1, Go B H B1 H1 → Q (.bl true) H1
section
variable {P : Program} {w₀ : World} {K : PySem.W.Frag} {mg : Str → Option Value} {base : Heap} {C : Addr} (T : Top K mg C)
include T
theorem cal__law_is_walk : Cal P w₀ K mg base "_law_is_walk" ["_law_lists_here", "_law_x", "_law_q", "_law_w", "_law_path"] 7 sp__law_is_walk := by
  refine T.d__law_is_walk.cal sc__law_is_walk (fun vs H Q E h => ?_) (fun _ _ _ _ _ _ us hl => match us, hl with | [_, _, _, _, _], _ => rfl) (fun f cdv A outer s H vs Q E hr h => ?_)
  · obtain ⟨B, u, wp, n, x, q, w, R, us, cs, rfl, _⟩ := h
    rfl
  · obtain ⟨B, u, wp, n, x, q, w, R, us, cs, rfl, hR, N, hwp, hus, W, h400, ex, qq⟩ := h
    have hu := hu_of hr
    have hu0 := hr.units
    have hu65 : (A.deeper (envOfC "_law_is_walk" (defScope s__law_is_walk) s.heap.objs.size f cdv)).units + 65 < cLine := by have := hr.un; omega
    have hn := N.G.le
    have hxq := N.xq
    have hqw := N.qw
    have hwn := N.wn
    have ul := hus.len
    have h3 := W.len
    refine ⟨_, (pss_cons (ps_if (PW.pt (pw_or (pt_not (pt_val (pe_callB call_isi (by rfl) T.b_isinstance (by decide +kernel) (pa_cons (pv 4) (pa_cons (pe_bltn (v := .ty "tuple") (by rfl) T.b_tuple (by decide +kernel) rfl) pa_nil))))) (pw_or (pt_cmpR op_lt (pe_callB call_len_seq (by rfl) T.b_len PySem.boot_len (pa_cons (pv 4) pa_nil)) pe_int (nomark _)) (pw_or (pt_cmpR (op_neD hu0) (pe_ix ix_tup (pv 4) pe_int (fun _ _ => rfl)) (pe_ix ix_tup (pv 4) (pe_un un_neg pe_int) (fun _ _ => rfl)) (nomark _)) (pw_or1 (pt_cmpR (op_notInT hu65) ((cal__law_turned T).pe hr (by decide) rfl (pa_cons (pe_ix ix_tup (pv 4) pe_int (fun _ _ => rfl)) pa_nil)) (pv 4) (by rfl))))))) (pss_one (ps_ret pe_bl)) pss_nil)
    (pss_cons (ps_if (pt_cmpR (op_neD hu0) (pe_lc (tt := tTest (tOp (rNotInD K) (tVar 5) (tCall sp__law_picks [] E0 (tCons (tVar 1) (tCons (tVar 3) tNil))))) (own := [("_law_pick", 5)]) rfl sc__law_is_walk.nd (pi_tup (pv 4)) (blkOk_by (own := [("_law_pick", 5)]) (N := N__law_is_walk) (sc := defScope s__law_is_walk) (by decide +kernel)) (fun _ _ _ _ _ => (pg_name (i := 5) sc__law_is_walk.nd rfl (Or.inl rfl))) (fun _ _ _ _ _ => (pts_one (pt_cmpR (op_notInD hu65) (pv 5) ((cal__law_picks T).pe hr (by decide) rfl (pa_cons (pv 1) (pa_cons (pv 3) pa_nil))) (by rfl)))) (fun _ _ _ _ _ => (pv 5))) (pe_lst pa_nil) (nomark _)) (pss_one (ps_ret pe_bl)) pss_nil)
    (pss_cons (ps_for PassesOwn.never rfl (RZ.pi_zipA (by rfl) T.b_zip (pa_cons (pv 4) (pa_cons (pe_slice sl_tupA (pv 4) (po_some pe_int) po_none) pa_nil))) (pg_tup rfl (pgs_cons (pg_name (i := 5) sc__law_is_walk.nd rfl (Or.inl rfl)) (pgs_cons (pg_name (i := 6) sc__law_is_walk.nd rfl (Or.inl rfl)) pgs_nil)))
      (pss_one (ps_if (pt_not (pt_val ((cal__law_clash T).pe hr (by decide) rfl (pa_cons (pv 0) (pa_cons (pv 1) (pa_cons (pv 2) (pa_cons (pv 3) (pa_cons (pv 5) (pa_cons ((cal__law_turned T).pe hr (by decide) rfl (pa_cons (pv 6) pa_nil)) pa_nil))))))))) (pss_one (ps_ret pe_bl)) pss_nil)))
    (pss_one (ps_ret pe_bl))))), ?_⟩
    obtain ⟨c0, hc0, hcl, hopp⟩ := W.ends
    obtain ⟨v0, hv0, hvc0⟩ := hus.get hc0
    obtain ⟨v1, hv1, hvc1⟩ := hus.get hcl
    rw [← ul] at hv1
    have cAt : ∀ {i : Nat} {v : V}, us[i]? = some v → ∃ d, cs[i]? = some d ∧ IsC B v d ∧ Sw.rng x w d := fun h => by
      obtain ⟨d, h1, h2⟩ := hus.back h
      exact ⟨d, h1, h2, W.rng d (List.mem_of_getElem? h1)⟩
    refine q_skip (EvT.is (b := false) (t_or (t_not (t_test (v_isi (T1 := "tuple") (b := true) (e_var rfl fun B e H h => ty_tup (h _ _ (e _ _ hwp))) (by decide +kernel)))) fun _ => t_or (t_test (v_I0 (v_lenT (n := us.length) (t_var rfl hwp) rfl) v_c)) fun _ => t_or (t_test (e_op (P := fun u _ => u = .bl (!decide (c0 = c0))) (v_ixT (t_var rfl hwp) v_c (atI_nat (i := 0) hv0)) (fun _ B' e _ => v_ixT (t_var rfl (e _ _ hwp)) (v_un v_c) (atI_last hv1)) fun a b B3 B4 e3 e4 ea eb => ?_)) fun _ => t_test (v_notInC (d := Sw.opp c0) (cs := cs) (e_call (av_cons (v_ixT (t_var rfl hwp) v_c (atI_nat (i := 0) hv0)) av_nil) fun vs B3 e3 ev => ?_) (e_var rfl fun B3 e3 => ⟨wp, us, rfl, e3 _ _ hwp, hus.imp fun _ _ h => h.up e3⟩))) (by rw [decide_eq_false (by omega : ¬ ((us.length : Nat) : Int) < 3), decide_eq_true rfl, decide_eq_true hopp]; rfl)) ex fun B1 H1 g1 => ?_
    · subst ea eb
      rw [← dC_eqv]
      have eB := e3.trans e4
      exact fun B H e b Q q' => ⟨dC c0, dC c0, (hvc0.up (eB.trans (e.trans b))).dp, (hvc1.up (eB.trans (e.trans b))).dp, dC_shaped c0, dC_shaped c0, q' _ B H (.refl b) rfl⟩
    · rw [ev]
      exact fun B4 H4 a b Q q' E => ⟨B4, v0, c0, rfl, hvc0.up (e3.trans a), b, fun v2 B5 H5 g h => q' _ B5 H5 g h⟩
    have hwp1 := g1.up _ _ hwp
    refine q_skip (EvT.is (b := false) (t_test (v_neNilC (us := []) (cs := []) (e_lc (n := us.length) (fun i v B => True) (fun _ => false) (i_tup (t_var rfl hwp1).st) (by omega) (fun i v B' hi e hv => g_name fun B5 e5 => ⟨rfl, EvT.is (b := false) (t_test (v_notInCL (d := (cs.getD i (0, true))) (cs := picksL x w) ?_ (e_call (av_cons (v_var rfl) (av_cons (v_var rfl) av_nil)) fun vs B3 e3 ev => ?_))) ?_, fun z => by cases z⟩) (fun _ _ _ _ _ _ h => h) fun p xs B e hp hs => ?_))) (by rw [decide_eq_true rfl]; rfl)) g1.sub fun B2 H2 g2 => ?_
    · obtain ⟨d, hd1, hd2, hd3⟩ := cAt hv
      rw [List.getD_eq_getElem?_getD, hd1]
      exact e_var rfl fun B6 e6 => hd2.up (g1.up.trans (e.trans (e5.trans e6)))
    · rw [ev]
      exact fun B4 H4 a b Q q' E => ⟨B4, x, w, rfl, ⟨by omega, by omega⟩, b, fun p us B5 H5 g h1 h2 => q' _ B5 H5 g ⟨p, us, rfl, h1, h2⟩⟩
    · obtain ⟨d, hd1, hd2, hd3⟩ := cAt hv
      rw [List.getD_eq_getElem?_getD, hd1]
      show (!decide (d ∈ picksL x w)) = false
      rw [decide_eq_true (picks_mem.mpr hd3)]; rfl
    · have h0 : kept us.length (fun _ => false) = [] := List.filter_eq_nil_iff.mpr fun _ _ h => by cases h
      rw [h0] at hs
      have : xs = [] := List.length_eq_zero_iff.mp hs.len
      subst this
      exact ⟨p, rfl, hp, Seq2.nil⟩
    have g12 := g1.trans g2
    have hwp2 := g12.up _ _ hwp
    have hmin : min us.length (us.drop 1).length = us.length - 1 := by rw [List.length_drop]; omega
    refine q_for (Hc := B2) (fun i σ1 B3 H3 => ∃ s5 s6, σ1 = [some u, some (vN x), some (vN q), some (vN w), some (.ref wp), s5, s6] ∧ Go B H B3 H3)
      ((i_zipT (t_var rfl hwp2) (e_slA (ys := us.drop 1) (t_var rfl hwp2) (o_some (i := ((1 : Nat) : Int)) v_c) o_none (cut_drop (by omega)))).is hmin) g2.sub (fun B3 H3 g3 => ⟨_, _, rfl, g12.trans g3⟩) (fun i σ1 B3 H3 y B4 H4 hi e3 e3' hW g4 hy => ?_) (fun σ1 B3 H3 e3 e3' hW => ?_)
    · obtain ⟨s5, s6, rfl, gg⟩ := hW
      obtain ⟨Tt, a, b, rfl, ha, hb, hTt⟩ := hy
      refine (g_pair hTt (S := fun σ2 B => σ2 = [some u, some (vN x), some (vN q), some (vN w), some (.ref wp), some a, some b]) fun _ _ => rfl) B4 H4 (Ex.refl _) g4.sub _ fun σ2 B5 H5 g5 e => ?_
      subst e
      rw [List.getElem?_drop] at hb
      obtain ⟨da, ha1, ha2, ha3⟩ := cAt ha
      obtain ⟨db, hb1, hb2, hb3⟩ := cAt hb
      have himp := W.chain i da db ha1 (by rw [Nat.add_comm] at hb1; exact hb1)
      have gg5 := gg.trans (g4.trans g5)
      refine s_if (EvT.is (b := false) (t_not (t_test (b := true) (e_call (PA := fun vs B => ∃ v', vs = [u, vN x, vN q, vN w, a, v'] ∧ IsC B v' (Sw.opp db)) (a_cons (P := fun z _ => z = u) (PR := fun vs B => ∃ v', vs = [vN x, vN q, vN w, a, v'] ∧ IsC B v' (Sw.opp db)) (v_var rfl) (fun _ Ba ea _ => a_cons (P := fun z _ => z = vN x) (PR := fun vs B => ∃ v', vs = [vN q, vN w, a, v'] ∧ IsC B v' (Sw.opp db)) (v_var rfl) (fun _ Bb eb _ => a_cons (P := fun z _ => z = vN q) (PR := fun vs B => ∃ v', vs = [vN w, a, v'] ∧ IsC B v' (Sw.opp db)) (v_var rfl) (fun _ Bc ec _ => a_cons (P := fun z _ => z = vN w) (PR := fun vs B => ∃ v', vs = [a, v'] ∧ IsC B v' (Sw.opp db)) (v_var rfl) (fun _ Bd ed _ => a_cons (P := fun z _ => z = a) (PR := fun vs B => ∃ v', vs = [v'] ∧ IsC B v' (Sw.opp db)) (v_var rfl) (fun _ Be ee _ => a_one (P := fun v' B => IsC B v' (Sw.opp db)) (e_call (av_cons (v_var rfl) av_nil) fun vs B6 e6 ev => ?_) (fun v' B2 _ h => ⟨v', rfl, h⟩) fun v' B1 B2 e h => h.up e) fun z zs B1 B2 _ _ h1 ⟨v', h2, h3⟩ => ⟨v', by rw [h1, h2], h3⟩) fun z zs B1 B2 _ _ h1 ⟨v', h2, h3⟩ => ⟨v', by rw [h1, h2], h3⟩) fun z zs B1 B2 _ _ h1 ⟨v', h2, h3⟩ => ⟨v', by rw [h1, h2], h3⟩) fun z zs B1 B2 _ _ h1 ⟨v', h2, h3⟩ => ⟨v', by rw [h1, h2], h3⟩) fun z zs B1 B2 _ _ h1 ⟨v', h2, h3⟩ => ⟨v', by rw [h1, h2], h3⟩) fun vs B6 e6 ⟨v', ev, hv'⟩ => ?_))) rfl) g5.sub (fun z => by cases z) (fun _ B6 H6 g6 => ⟨B6, g4.up.trans (g5.up.trans g6.up), g6.sub, _, _, rfl, gg5.trans g6⟩)
      · rw [ev]
        have eB := gg5.up.trans (ea.trans (eb.trans (ec.trans (ed.trans (ee.trans e6)))))
        exact fun B7 H7 a' b' Q q' E => ⟨B7, b, db, rfl, hb2.up (eB.trans a'), b', fun v2 B8 H8 g h => q' _ B8 H8 g h⟩
      · subst ev
        have eB := gg5.up.trans e6
        exact fun B7 H7 a' b' Q q' E => ⟨B7, u, a, v', n, x, q, w, R, da, Sw.opp db, rfl, hR.up (eB.trans a'), N, ha2.up (eB.trans a'), hv'.up a', ha3, hb3, b', fun B8 H8 g => q' _ B8 H8 g (by show V.bl (Sw.imp n (rkOf R) x q w da db) = _; rw [himp])⟩
    · obtain ⟨s5, s6, rfl, gg⟩ := hW
      refine s_ret (P := fun u _ => u = .bl true) v_c e3' fun v B4 H4 g4 e => ?_
      rw [e]
      exact qq _ _ (gg.trans g4)
end
end Sk

/-! Defs that are called with no guard under way. -/
namespace Sk
open PySem PySem.Spec PyProof.Rows L2
/-- room, and no repr under way -/
structure RoomG (k : Nat) (A : Around) : Prop where
  room : Room k A
  none : A.guards = some []
theorem RoomG.deeper {k : Nat} {A : Around} (r : RoomG (k + 1) A) (env : Env) : RoomG k (A.deeper env) := ⟨r.room.deeper env, r.none⟩
theorem RoomG.mono {j k : Nat} {A : Around} (r : RoomG k A) (h : j ≤ k) : RoomG j A := ⟨r.room.mono h, r.none⟩
structure FnOkG (P : Program) (w : World) (K : PySem.W.Frag) (mg : Str → Option Value) (base : Heap) (CX : CXT) (k : Nat) (f : Addr) (fd : FuncData) (ps : List Str) (sp : Sp) : Prop where
  len : ∀ vs H Q E, sp vs H Q E → vs.length = ps.length
  run : ∀ (A : Around) (outer : List Env) (s : Shared) (H : Hp) (args : Args) (us : List Value) (vs : List V) (Q : VK) (E : XK), RoomG k A → Env0 P w K mg base A outer s H → BindsTo s fd args (ps.zip us) → Vals vs us → sp vs H Q E →
    codeAny (model P w) A (.call (.ref f) args) (CR CX outer P w H s Q E) s
theorem fnG_of {CX : CXT} {P : Program} {w : World} {K : PySem.W.Frag} {mg : Str → Option Value} {base : Heap} {k : Nat} {f : Addr} {name qual : Str} {params : Arguments} {body : List Stmt} {scope : Scope} {dV kV doc pm cdv ct oc : Value} {an od : Option Addr}
    {osl : Array (Option Value)} {N ps : List Str} {sp : Sp} (lk : K.lookup f = some ⟨oc, od, .func (PySem.W.fnOf name qual params body scope dV kV doc pm an cdv ct), osl⟩) (hcd : PySem.W.codeIn K cdv qual = true) (S : FnScope N ps scope)
    (len : ∀ vs H Q E, sp vs H Q E → vs.length = ps.length)
    (hbody : ∀ (A : Around) (outer : List Env) (s : Shared) (H : Hp) (vs : List V) (Q : VK) (E : XK), RoomG k (A.deeper (envOfC qual scope s.heap.objs.size f cdv)) → sp vs H Q E →
      ∃ t, PSs (cxOf CX P w K mg base N qual scope f cdv A outer s H E) body t ∧ t { nx := fun _ H' => Q .non H', rt := Q } (start N vs) H) :
    FnOkG P w K mg base CX (k + 1) f (PySem.W.fnOf name qual params body scope dV kV doc pm an cdv ct) ps sp := by
  refine ⟨len, fun A outer s H args us vs Q E hr e0 hb r hsp => ?_⟩
  have hl := len _ _ _ _ hsp
  have KX : K.In s.heap := e0.mod.kin.keeps fun b o e => (e0.bs b o e).1
  have lim : s.heap.NoLimit := e0.mod.nolimit.keeps fun b o e => (e0.bs b o e).1
  have hkind : ∀ y ∈ ps.zip us, scope.names.lookup y.1 = some .local ∨ (scope.names.lookup y.1 = some .cell ∧ ((cellsFrom (s.heap.objs.size + 1) scope.names []).lookup y.1).isSome = true) := fun ⟨n, v⟩ hy => by
    rcases S.par n (List.of_mem_zip hy).1 with q | q
    · exact .inl q
    · exact .inr ⟨q, PySem.W.cellsFrom_some _ _ _ (.inl q)⟩
  refine codeAny_call_function hr.room.depth (KX _ _ lk) rfl S.co S.gen rfl (PySem.W.codeRec_of KX hcd) (hb _ _ _ _ ?_)
  refine wpAny_newFunctionEnv_cells S.kind hkind fun env he s1 x => ?_
  subst he
  refine ⟨lim.keeps x.toInCall.keep, codeAny_func ?_⟩
  obtain ⟨t, ht, hq⟩ := hbody A outer s H vs Q E (hr.deeper _) hsp
  have I : L2.Inv (cxOf CX P w K mg base N qual scope f cdv A outer s H E) [] (start N vs) H s1 := inv_start S hr.room.hd e0 hl r x
  refine wpAny_mono (ht.run [] s1 (start N vs) H _ I hq) (fun fl s' hs => ?_) fun e s' hs => hs
  have fin : ∀ {σ' : L2.St} {H' : Hp} {v : V} {u : Value}, L2.Inv (cxOf CX P w K mg base N qual scope f cdv A outer s H E) [] σ' H' s' → RelV v u → Q v H' → CE outer P w H s Q u s' :=
    fun {σ' H' v u} J rv q => ⟨v, H', J.os, J.bare, J.base, J.hok, rv, q⟩
  cases fl with
  | ret u =>
    obtain ⟨v, σ', H', J, rv, q⟩ := hs
    exact fin J rv q
  | next =>
    obtain ⟨σ', H', J, q⟩ := hs
    exact fin (v := V.non) (u := Value.none) J rfl q
  | brk => obtain ⟨σ', H', J, q⟩ := hs; exact False.elim q
  | cont => obtain ⟨σ', H', J, q⟩ := hs; exact False.elim q
structure CalG (P : Program) (w : World) (K : PySem.W.Frag) (mg : Str → Option Value) (base : Heap) (x : Str) (ps : List Str) (k : Nat) (sp : Sp) : Prop where
  ex : ∃ (f : Addr) (fd : FuncData), FnOkG P w K mg base CX0 k f fd ps sp ∧ mg x = some (.ref f) ∧ PySem.W.keepIn K (.ref f) = true ∧ Binds K fd ps []
section
variable {P : Program} {w : World} {K : PySem.W.Frag} {mg : Str → Option Value} {base : Heap}
theorem Df.calG {x : Str} {st : Stmt} {N ps : List Str} {k : Nat} {sp : Sp} (D : Df K mg x st) (S : FnScope N ps (defScope st)) (len : ∀ vs H Q E, sp vs H Q E → vs.length = ps.length)
    (hb : ∀ (kV doc pm : Value) (an : Option Addr) (cdv ct : Value) (us : List Value), us.length = ps.length → bindArgs (PySem.W.fnOf x x (defArgs st) (defBody st) (defScope st) .none kV doc pm an cdv ct) ⟨us, []⟩ = pure (ps.zip us))
    (hbody : ∀ (f : Addr) (cdv : Value) (A : Around) (outer : List Env) (s : Shared) (H : Hp) (vs : List V) (Q : VK) (E : XK), RoomG k (A.deeper (envOfC x (defScope st) s.heap.objs.size f cdv)) → sp vs H Q E →
      ∃ t, PSs (cxOf CX0 P w K mg base N x (defScope st) f cdv A outer s H E).nox (defBody st) t ∧ t { nx := fun _ H' => Q .non H', rt := Q } (start N vs) H) : CalG P w K mg base x ps (k + 1) sp := by
  obtain ⟨f, fd, F, g⟩ := D
  obtain ⟨oc, od, kV, doc, pm, an, cdv, ct, osl, e, lk, hcd⟩ := F.ex
  refine ⟨f, fd, ?_, g, F.kp, F.binds hb⟩
  subst e
  refine fnG_of lk hcd S len fun A outer s H vs Q E hr hsp => ?_
  obtain ⟨t, h, q⟩ := hbody f cdv A outer s H vs Q E hr hsp
  exact ⟨t, h.nox, q⟩
end
section
variable {X : Cx} {x : Str} {ps : List Str} {k j : Nat} {sp : Sp} {e : Expr} {es : List Expr} {t : TA} {p pos : Pos}
theorem CalG.pe (c : CalG X.prog X.w X.K X.mg X.base x ps k sp) (hr : RoomG j X.A) (hk : k ≤ j) (hg : Gl X x) (ha : PA X (e :: es) t)
    (hst : starEach (e :: es) X.env = (false, eval e X.env) :: starEach es X.env := by rfl) (hpl : (backTo pos (starEach es X.env)).any (·.1) = false := by rfl) (hdb : (x == ("__debug__" : Str)) = false := by decide) : PE X (.Call (.Name x p) (e :: es) [] pos) (tCall sp [] E0 t) := by
  obtain ⟨f, fd, F, g, kp, b⟩ := c.ex
  refine ⟨fun pins s σ H Q I h => ?_⟩
  refine wpAny_Call_Name_kw (ld_glob I hg g ?_ hdb)
  refine PySem.W.callWith_K (h₀ := X.base) I.ok.mod.kin kp (thn (ha.run pos pins s σ H _ I h) fun us s1 ⟨vs, H1, I1, r, q⟩ => ⟨I1.kIn, ?_⟩) hst hpl
  have r2 : Vals (vs ++ []) (us ++ []) := r.append .nil
  have hl : (us ++ []).length = ps.length := by rw [← r2.length]; exact F.len _ _ _ _ q
  refine wpAny_call (codeAny_mono (F.run X.A X.stack s1 H1 ⟨us, []⟩ (us ++ []) (vs ++ []) Q E0 (hr.mono hk) I1.env0 (b s1 us I1.kIn hl) r2 q) fun r s' hq => ?_)
  cases r with
  | error e => exact pass0 pins σ H1 s1 e s' I1 hq
  | ok fl =>
    cases fl with
    | ret u => exact I1.after hq
    | next => exact False.elim hq
    | brk => exact False.elim hq
    | cont => exact False.elim hq
end
end Sk

/-! repr of a tuple of one text, no repr under way. -/
namespace Sk
open PySem PySem.Spec PyProof.Rows L2
def rReprT (K : PySem.W.Frag) : List V → Hp → VK → Prop := fun vs H Q => ∃ (a : Addr), vs = [.ref a] ∧ SqT K H a [.str "index"] ∧ Q (.str (tupleText [reprText "index"])) H
theorem cr_reprT {X : Cx} (hu : X.A.units + 1 < cLine) (hg : X.A.guards = some []) : CallR X (.builtin "repr") (rReprT X.K) := by
  intro pins s σ H vs us Q I r h
  obtain ⟨a, rfl, ha, q⟩ := h
  obtain ⟨u, rfl, ru⟩ := vals1 r
  obtain rfl : u = Value.ref a := ru
  obtain ⟨its, rv, ⟨o, ho, hc, n, hd⟩, _⟩ := I.tuple ha
  have h1 : (reprText "index").length ≤ sizeLine := Nat.le_trans (show (reprText "index").length ≤ 100 by decide +kernel) (by decide)
  have h2 : (tupleText [reprText "index"]).length ≤ sizeLine := Nat.le_trans (show (tupleText [reprText "index"]).length ≤ 100 by decide +kernel) (by decide)
  refine call_repr_slot hu ⟨o, ho, hc⟩ F.slot_tuple_repr ?_
  refine call_tuple_repr (ts := [reprText "index"]) ⟨o, ho, hc⟩ hg (fun c hc => by cases hc) ho hd (repr_all (l := ["index"]) rv fun y hy => ?_) (fun u tk => ⟨_, u, rfl, .str (tupleText [reprText "index"]), H, I.tok _, ⟨u, rfl⟩, q⟩) h2
  have := List.mem_singleton.mp hy
  subst this
  exact h1
end Sk

/-! Law: is_block. -/
namespace Sk
open PySem PySem.Spec PyProof.Rows L2
def sp__law_is_block : Sp := fun vs H Q _ => ∃ (B : Hp) (u v : V) (n x q : Nat) (R : List (List Nat)), vs = [u, vN x, vN q, v] ∧ IsRkF B u R ∧ Rkg n R ∧ x < q ∧ q < n ∧ IsBlk n x q R B v ∧ Ex B H ∧ ∀ B1 H1, Go B H B1 H1 → Q (.bl true) H1
section
variable {K : PySem.W.Frag} {σ : L2.St} {Hc : Hp} {ta tb : TE}
theorem v_neSame {xs : List Nat} (h1 : EvLst ta σ Hc (xs.map vN)) (h2 : EvLst tb σ Hc (xs.map vN)) : EvV (tOp (rNeD K) ta tb) σ Hc (.bl false) := by
  refine EvV.is (v_neD (d := .list (xs.map fun k => PyData.int (k : Nat))) (e := .list (xs.map fun k => PyData.int (k : Nat))) (h1.wk fun v B _ ⟨p, h1, h2⟩ => ?_) (h2.wk fun v B _ ⟨p, h1, h2⟩ => ?_) (shaped_ints xs) (shaped_ints xs)) ?_
  · subst h1
    exact ⟨.lst (sl_of h2) (dp_ints xs), fun B' e => .lst (sl_of (e _ _ h2)) (dp_ints xs)⟩
  · subst h1
    exact fun B' e => .lst (sl_of (e _ _ h2)) (dp_ints xs)
  · rw [SeqAt.eqv_refl _ (SeqAt.canLay_of_shaped (shaped_ints xs))]; rfl
theorem e_repr {p : Addr} {B0 : Hp} (h : EvP ta σ Hc fun u B => ∃ p, u = .ref p ∧ SqT K B p [.str "index"]) : EvV (tCB (rReprT K) (tCons ta tNil)) σ Hc (.str (tupleText [reprText "index"])) := fun B H a b Q q =>
  h B H a b _ fun v B1 H1 g1 ⟨p, e, hp⟩ => ⟨p, by rw [e], g1.sub.t hp, q _ B1 H1 g1 rfl⟩
end
section
variable {P : Program} {w₀ : World} {K : PySem.W.Frag} {mg : Str → Option Value} {base : Heap} {C : Addr} (T : Top K mg C)
include T
theorem cal__law_is_block : CalG P w₀ K mg base "_law_is_block" ["_law_lists_here", "_law_x", "_law_q", "_law_block"] 8 sp__law_is_block := by
  refine T.d__law_is_block.calG sc__law_is_block (fun vs H Q E h => ?_) (fun _ _ _ _ _ _ us hl => match us, hl with | [_, _, _, _], _ => rfl) (fun f cdv A outer s H vs Q E hrG h => ?_)
  · obtain ⟨B, u, v, n, x, q, R, rfl, _⟩ := h
    rfl
  · obtain ⟨B, u, v, n, x, q, R, rfl, hR, G, hxq, hqn, ⟨bp, us, rfl, hbp, hul, hent⟩, ex, qq⟩ := h
    have hr := hrG.room
    have hu := hu_of hr
    have hu0 := hr.units
    have hn := G.le
    have hgd : (A.deeper (envOfC "_law_is_block" (defScope s__law_is_block) s.heap.objs.size f cdv)).guards = some [] := hrG.none
    refine ⟨_, (pss_cons (ps_if (PW.pt (pw_or (pt_not (pt_val (pe_callB call_isi (by rfl) T.b_isinstance (by decide +kernel) (pa_cons (pv 3) (pa_cons (pe_bltn (v := .ty "tuple") (by rfl) T.b_tuple (by decide +kernel) rfl) pa_nil))))) (pw_or1 (pt_cmpR (op_neD hu0) (pe_lc (te := tOp (rIxT K) (tVar 4) (tC (.int 0))) (own := [("_law_pair", 4)]) rfl sc__law_is_block.nd (pi_tup (pv 3)) (blkOk_by (own := [("_law_pair", 4)]) (N := N__law_is_block) (sc := defScope s__law_is_block) (by decide +kernel)) (fun _ _ _ _ _ => (pg_name (i := 4) sc__law_is_block.nd rfl (Or.inl rfl))) (fun _ _ _ _ _ => pts_nil) (fun _ _ _ _ _ => (pe_ix ix_tup (pv 4) pe_int (fun _ _ => rfl)))) (pe_listRg rfl (by rfl) T.b_list (prg_2 (by rfl) T.b_range (pv 2) (pe_callB call_len_seq (by rfl) T.b_len PySem.boot_len (pa_cons (pv 0) pa_nil)))) (nomark _))))) (pss_one (ps_ret pe_bl)) pss_nil)
    (pss_cons (ps_for PassesOwn.never rfl (pi_tup (pv 3)) (pg_tup rfl (pgs_cons (pg_name (i := 5) sc__law_is_block.nd rfl (Or.inl rfl)) (pgs_cons (pg_name (i := 6) sc__law_is_block.nd rfl (Or.inl rfl)) pgs_nil)))
      (pss_cons (ps_set (i := 7) sc__law_is_block.nd rfl (Or.inl rfl) (pe_cmpR op_eq ((cal__law_left_index T).pe hr (by decide) rfl (pa_cons (pv 0) (pa_cons (pv 1) (pa_cons (pv 2) (pa_cons (pv 5) pa_nil))))) (pe_op op_sub (pv 2) (pv 1)) (nomark _)))
      (pss_cons (ps_if (PW.pt (pw_and (pt_not (pt_val (pv 7))) (pw_and1 (pt_cmpR op_ne (pe_callB (cr_reprT hu hgd) (by rfl) T.b_repr (by decide +kernel) (pa_cons (pv 6) pa_nil)) (pe_callB (cr_reprT hu hgd) (by rfl) T.b_repr (by decide +kernel) (pa_cons (pe_tup (pa_cons pe_str pa_nil)) pa_nil)) (nomark _))))) (pss_one (ps_ret pe_bl)) pss_nil)
      (pss_cons (ps_if (PW.pt (pw_and (pt_val (pv 7)) (pw_and1 (PW.pt (pw_or (pt_cmpR op_ne (pe_ix ix_tup (pv 6) pe_int (fun _ _ => rfl)) pe_str (nomark _)) (pw_or1 (pt_cmpR op_ne (pe_callB call_len_seq (by rfl) T.b_len PySem.boot_len (pa_cons (pv 6) pa_nil)) pe_int (nomark _)))))))) (pss_one (ps_ret pe_bl)) pss_nil)
      (pss_one (ps_if (PW.pt (pw_and (pt_val (pv 7)) (pw_and1 (pt_not (pt_val ((cal__law_is_walk T).pe hr (by decide) rfl (pa_cons (pv 0) (pa_cons (pv 1) (pa_cons (pv 2) (pa_cons (pv 5) (pa_cons (pe_ix ix_tup (pv 6) pe_int (fun _ _ => rfl)) pa_nil))))))))))) (pss_one (ps_ret pe_bl)) pss_nil))))))
    (pss_one (ps_ret pe_bl)))), ?_⟩
    refine q_skip (EvT.is (b := false) (t_or (t_not (t_test (v_isi (T1 := "tuple") (b := true) (e_var rfl fun B e H h => ty_tup (h _ _ (e _ _ hbp))) (by decide +kernel)))) fun _ => t_test (v_neSame (xs := (List.range (n - q)).map fun i => q + i) ?_ ?_)) rfl) ex fun B1 H1 g1 => ?_
    · refine (e_lcV (n := us.length) (fun _ => true) (fun i => vN (q + i)) (i_tup (t_var rfl hbp).st) (by omega) (fun x => rfl) (fun _ _ _ _ _ _ => t_yes) fun i v B' hi e hv _ => ?_).wk fun v B e ⟨p', h1, h2⟩ => ⟨p', h1, by rw [h2, kept_all, List.map_map, hul]; rfl⟩
      obtain ⟨ea, er, rfl, hea, _⟩ := hent i v hv
      exact v_ixT (t_var rfl (e _ _ hea)) v_c (atI_nat (i := 0) rfl)
    · exact (e_lstRg2 (lo := q) (hi := n) (v_var rfl) (hR.len (v_var rfl) G.len) (by omega) (by omega)).wk fun v B e ⟨p', h1, h2⟩ => ⟨p', h1, by rw [h2, List.map_map]; rfl⟩
    have hbp1 := g1.up _ _ hbp
    refine q_for (Hc := B1) (fun i σ1 B3 H3 => ∃ s4 s5 s6 s7, σ1 = [some u, some (vN x), some (vN q), some (.ref bp), s4, s5, s6, s7] ∧ Go B H B3 H3)
      (i_tup (t_var rfl hbp1).st) g1.sub (fun B3 H3 g3 => ⟨_, _, _, _, rfl, g1.trans g3⟩) (fun i σ1 B3 H3 y B4 H4 hi e3 e3' hW g4 hy => ?_) (fun σ1 B3 H3 e3 e3' hW => ?_)
    · obtain ⟨s4, s5, s6, s7, rfl, gg⟩ := hW
      have gg4 := gg.trans g4
      obtain ⟨ea, er, rfl, hea, hrs⟩ := (hent i y hy).up gg4.up
      have hiN : i < n - q := by omega
      refine (g_pair (st_of hea) (S := fun σ2 B => σ2 = [some u, some (vN x), some (vN q), some (.ref bp), s4, some (vN (q + i)), some (.ref er), s7]) fun _ _ => rfl) B4 H4 (Ex.refl _) g4.sub _ fun σ2 B5 H5 g5 e => ?_
      subst e
      have gg5 := gg4.trans g5
      have hR5 := hR.up gg5.up
      have N : Nums n x q (q + i) R := ⟨G, hxq, by omega, by omega⟩
      refine q_asg (P := fun u _ => u = .bl (decide (Sw.leftIdx (rkOf R) x q (q + i) = some (q - x)))) ((v_eq (x := ixV (Sw.leftIdx (rkOf R) x q (q + i))) (e_call (av_cons (v_var rfl) (av_cons (v_var rfl) (av_cons (v_var rfl) (av_cons (v_var rfl) av_nil)))) fun vs B' e5 e => ?_) (v_subN (k := q - x) (v_var rfl) (v_var rfl) (by omega)) (scal_ix _ _)).is (by rw [ixV_eq])) g5.sub fun v6 B6 H6 g6 e6 => ?_
      · rw [e]
        exact fun B1 H1 a b Q q' E => ⟨B1, u, n, x, q, q + i, R, rfl, hR5.up (e5.trans a), G, hxq, hqn, by omega, by omega, b, fun B2 H2 g => q' _ B2 H2 g rfl⟩
      subst e6
      have gg6 := gg5.trans g6
      have hrs6 := hrs.up (g5.up.trans g6.up)
      have fin : ∀ {B7 H7 : Hp} {s7' : Option V}, Go B6 H6 B7 H7 → Nxt (fun σ1 B3 H3 => ∃ s4 s5 s6 s7, σ1 = [some u, some (vN x), some (vN q), some (.ref bp), s4, s5, s6, s7] ∧ Go B H B3 H3) B3 [some u, some (vN x), some (vN q), some (.ref bp), s4, some (vN (q + i)), some (.ref er), s7'] H7 := fun {B7 H7 s7'} g7 => ⟨B7, g4.up.trans (g5.up.trans (g6.up.trans g7.up)), g7.sub, _, _, _, _, rfl, gg6.trans g7⟩
      cases hrs6 with
      | index h1 h2 =>
        have hf : decide (Sw.leftIdx (rkOf R) x q (q + i) = some (q - x)) = false := decide_eq_false h2
        rw [hf]
        refine q_skip (EvT.is (b := false) (t_and (t_not (t_B (v_var rfl))) fun _ => t_test (v_ne (x := .str (tupleText [reprText "index"])) (y := .str (tupleText [reprText "index"])) (e_repr (p := er) (B0 := B6) (e_var rfl fun B' e => ⟨er, rfl, st_of (e _ _ h1)⟩)) (e_repr (p := er) (B0 := B6) ((e_tupV (xs := [.str "index"]) (av_cons v_c av_nil) (by simp)).wk fun u B _ ⟨p, h1, h2⟩ => ⟨p, h1, st_of h2⟩)) rfl)) (by rw [decide_eq_true rfl]; rfl)) g6.sub fun B7 H7 g7 => ?_
        refine q_skip (EvT.is (b := false) (t_and (b := false) (t_B (v_var rfl)) fun z => by cases z) rfl) g7.sub fun B8 H8 g8 => ?_
        exact s_if (EvT.is (b := false) (t_and (b := false) (t_B (v_var rfl)) fun z => by cases z) rfl) g8.sub (fun z => by cases z) fun _ B9 H9 g9 => fin (g7.trans (g8.trans g9))
      | walk wp ws cs h1 h2 h3 h4 h5 h6 =>
        have ht : decide (Sw.leftIdx (rkOf R) x q (q + i) = some (q - x)) = true := decide_eq_true h6
        rw [ht]
        refine q_skip (EvT.is (b := false) (t_and (b := false) (t_not (t_B (v_var rfl))) fun z => by cases z) rfl) g6.sub fun B7 H7 g7 => ?_
        have h17 := g7.up _ _ h1
        refine q_skip (EvT.is (b := false) (t_and (t_B (v_var rfl)) fun _ => t_or (t_test (v_ne (v_ixT (t_var rfl h17) v_c (atI_nat (i := 0) rfl)) v_c rfl)) fun _ => t_test (v_ne (v_lenT (n := 2) (t_var rfl h17) rfl) v_c rfl)) (by decide +kernel)) g7.sub fun B8 H8 g8 => ?_
        have h18 := g8.up _ _ h17
        refine s_if (EvT.is (b := false) (t_and (t_B (v_var rfl)) fun _ => t_not (t_test (b := true) (e_call (av_cons (v_var rfl) (av_cons (v_var rfl) (av_cons (v_var rfl) (av_cons (v_var rfl) (av_cons (v_ixT (t_var rfl h18) v_c (atI_nat (i := 1) rfl)) av_nil))))) fun vs B' e5 e => ?_))) rfl) g8.sub (fun z => by cases z) fun _ B9 H9 g9 => fin (g7.trans (g8.trans g9))
        rw [e]
        have eB := g7.up.trans (g8.up.trans e5)
        exact fun B1 H1 a b Q q' E => ⟨B1, u, wp, n, x, q, q + i, R, ws, cs, rfl, hR.up (gg6.up.trans (eB.trans a)), N, (eB.trans a) _ _ h2, h3.imp fun _ _ h => h.up (eB.trans a), h4, h5, b, fun B2 H2 g => q' _ B2 H2 g rfl⟩
    · obtain ⟨s4, s5, s6, s7, rfl, gg⟩ := hW
      refine s_ret (P := fun u _ => u = .bl true) v_c e3' fun v B4 H4 g4 e => ?_
      rw [e]
      exact qq _ _ (gg.trans g4)
end
end Sk

/-! Law: mixed. -/
namespace Sk
open PySem PySem.Spec PyProof.Rows L2
theorem mulW {i j : Int} {a b : Nat} (h1 : i.natAbs < 2 ^ a) (h2 : j.natAbs < 2 ^ b) (h : a + b ≤ 1000) : CMulW i j := by
  have l : ∀ {x k : Nat}, x < 2 ^ k → x.log2 ≤ k := fun {x k} h => by
    by_cases hx : x = 0
    · subst hx; exact Nat.zero_le _
    · exact Nat.le_of_lt ((Nat.log2_lt hx).mpr h)
  have e1 := l h1
  have e2 := l h2
  show i.natAbs.log2 + j.natAbs.log2 < 1000000
  omega
theorem mul_lt2 {i j : Int} {a b : Nat} (h1 : i.natAbs < 2 ^ a) (h2 : j.natAbs < 2 ^ b) : (i * j).natAbs < 2 ^ (a + b) := by
  rw [Int.natAbs_mul, Nat.pow_add]
  exact Nat.mul_lt_mul'' h1 h2
section
variable {σ : L2.St} {Hc : Hp} {ta tb : TE} {i j : Int}
theorem v_mulW (h : CMulW i j) (ha : EvV ta σ Hc (.int i)) (hb : EvV tb σ Hc (.int j)) : EvV (tOp (rI CMulW fun i j => .int (i * j)) ta tb) σ Hc (.int (i * j)) := v_I (g := fun i j => .int (i * j)) h ha hb
theorem v_modP (h : 0 < j) (ha : EvV ta σ Hc (.int i)) (hb : EvV tb σ Hc (.int j)) : EvV (tOp (rI (fun _ j => 0 < j) fun i j => .int (i % j)) ta tb) σ Hc (.int (i % j)) := v_I (C := fun _ j => 0 < j) (g := fun i j => .int (i % j)) h ha hb
theorem v_divW (h : CDivW i j) (ha : EvV ta σ Hc (.int i)) (hb : EvV tb σ Hc (.int j)) : EvV (tOp (rI CDivW fun i j => .int (i / j)) ta tb) σ Hc (.int (i / j)) := v_I (g := fun i j => .int (i / j)) h ha hb
theorem v_k (k : Int) : EvV (tC (.int k)) σ Hc (.int k) := v_c
end
def sp__law_mixed : Sp := fun vs H Q _ => ∃ (B : Hp) (c n : Int), vs = [.int c, .int n] ∧ (c.natAbs < 2 ^ 100 ∧ 0 ≤ n ∧ n < 2 ^ 60) ∧ Ex B H ∧ ∀ r B1 H1, Go B H B1 H1 → 0 ≤ r → r < 2 ^ 31 → Q (.int r) H1
section
variable {P : Program} {w₀ : World} {K : PySem.W.Frag} {mg : Str → Option Value} {base : Heap} {C : Addr} (T : Top K mg C)
include T
theorem cal__law_mixed : Cal P w₀ K mg base "_law_mixed" ["_law_cell", "_law_n"] 1 sp__law_mixed := by
  refine T.d__law_mixed.cal sc__law_mixed (fun vs H Q E h => ?_) (fun _ _ _ _ _ _ us hl => match us, hl with | [_, _], _ => rfl) (fun f cdv A outer s H vs Q E hr h => ?_)
  · obtain ⟨B, c, n, rfl, _⟩ := h
    rfl
  · obtain ⟨B, c, n, rfl, ⟨hc, hn0, hn⟩, ex, qq⟩ := h
    refine ⟨_, (pss_cons (ps_set (i := 2) sc__law_mixed.nd rfl (Or.inl rfl) (pe_op op_add (pe_op op_add (pe_op op_mod (pe_op op_mulW (pe_op op_mulW (pv 0) (pe_op op_add pe_int (pe_op op_mulW pe_int (pv 1)))) pe_int) pe_int) (pe_op op_mulW (pe_op op_mulW pe_int (pv 1)) (pv 1))) (pe_op op_mulW pe_int (pv 1))))
    (pss_one (ps_ret (pe_op op_fdivW (pe_op op_mod (pe_op op_mulW (pv 2) pe_int) pe_int) pe_int)))), ?_⟩
    have n1 : (1 + 2 * n).natAbs < 2 ^ 62 := by omega
    have n2 : n.natAbs < 2 ^ 60 := by omega
    have a1 : (c * (1 + 2 * n)).natAbs < 2 ^ (100 + 62) := mul_lt2 hc n1
    have k1 : (48271 : Int).natAbs < 2 ^ 20 := by decide
    have k2 : (2 : Int).natAbs < 2 ^ 2 := by decide
    have k3 : (7919 : Int).natAbs < 2 ^ 20 := by decide
    have k4 : (104729 : Int).natAbs < 2 ^ 20 := by decide
    have k5 : (69621 : Int).natAbs < 2 ^ 20 := by decide
    have a3 : (7919 * n).natAbs < 2 ^ (20 + 60) := mul_lt2 k3 n2
    have b1 : (7919 * n * n).natAbs < 2 ^ (20 + 60 + 60) := mul_lt2 a3 n2
    have b2 : (104729 * n).natAbs < 2 ^ (20 + 60) := mul_lt2 k4 n2
    refine q_asg (v_add (v_add (v_modP (by omega) (v_mulW (mulW a1 k1 (by omega)) (v_mulW (mulW hc n1 (by omega)) (v_var rfl) (v_add (v_k 1) (v_mulW (mulW k2 n2 (by omega)) (v_k 2) (v_var rfl)))) (v_k 48271)) (v_k 2147483647)) (v_mulW (mulW a3 n2 (by omega)) (v_mulW (mulW k3 n2 (by omega)) (v_k 7919) (v_var rfl)) (v_var rfl))) (v_mulW (mulW k4 n2 (by omega)) (v_k 104729) (v_var rfl))) ex fun v1 B1 H1 g1 e1 => ?_
    have ht : (c * (1 + 2 * n) * 48271 % 2147483647 + 7919 * n * n + 104729 * n).natAbs < 2 ^ 200 := by
      have b3 : 0 ≤ c * (1 + 2 * n) * 48271 % 2147483647 ∧ c * (1 + 2 * n) * 48271 % 2147483647 < 2147483647 := ⟨Int.emod_nonneg _ (by omega), Int.emod_lt_of_pos _ (by omega)⟩
      generalize c * (1 + 2 * n) * 48271 % 2147483647 = X at b3 ⊢
      generalize 7919 * n * n = Y at b1 ⊢
      generalize 104729 * n = Z at b2 ⊢
      omega
    generalize hT : c * (1 + 2 * n) * 48271 % 2147483647 + 7919 * n * n + 104729 * n = t at ht e1
    subst e1
    refine s_ret (v_divW ⟨by omega, by decide⟩ (v_modP (by omega) (v_mulW (mulW ht k5 (by omega)) (v_var rfl) (v_k 69621)) (v_k 2147483629)) (v_k 7)) g1.sub fun v B2 H2 g2 e => ?_
    rw [e]
    have h0 := Int.emod_nonneg (t * 69621) (show (2147483629 : Int) ≠ 0 by omega)
    have h1 := Int.emod_lt_of_pos (t * 69621) (show (0 : Int) < 2147483629 by omega)
    generalize t * 69621 % 2147483629 = r at h0 h1 ⊢
    exact qq _ _ _ (g1.trans g2) (by omega) (by omega)
end
end Sk

/-! Law: folded. -/
namespace Sk
open PySem PySem.Spec PyProof.Rows L2
theorem i_enumL {K : PySem.W.Frag} {σ : L2.St} {Hc : Hp} {tl : TE} {xs : List V} (hl : EvP tl σ Hc fun u B => ∃ p, u = .ref p ∧ SqL K B p xs) : EvI (iEnum K (tCons tl tNil)) σ Hc xs.length fun i v B => ∃ T x, v = .ref T ∧ xs[i]? = some x ∧ SqT K B T [.int (i : Nat), x] := fun B H a b R q =>
  hl B H a b _ fun v B1 H1 g1 ⟨p, e, hs⟩ => ⟨p, xs, by rw [e], g1.sub.l hs, q _ B1 H1 g1
    ⟨fun i H hi h => ⟨xs, xs[i], h.l hs, List.getElem?_eq_getElem hi⟩, fun H h => ⟨xs, h.l hs, Nat.le_refl _⟩, fun i B2 H x H' hi h1 h2 y => by
      obtain ⟨T, x', e1, hn, e2, h3⟩ := y
      subst e1 e2
      exact ⟨_, (GoF.refl h2).laid hn, T, x', rfl, h3 xs ((h1.trans h2).l hs), st_of upd_same⟩⟩⟩
/-- a comprehension of values, its list hidden -/
theorem f_lcV {σ : L2.St} {Hc : Hp} {te : TE} {wi : TI} {n j : Nat} {Y : Nat → V → Hp → Prop} {vs : List Nat} (fv : Nat → V) (hi : EvI wi σ Hc n Y) (hn : n ≤ 100000) (hw : ∀ x, wipe ((wipe σ vs).set j (some x)) vs = wipe σ vs)
    (he : ∀ i x B, i < n → Ex Hc B → Y i x B → EvV te ((wipe σ vs).set j (some x)) B (fv i)) : EvF (tLc wi (gName j) tYes te vs) σ Hc (.lst ((List.range n).map fv)) := fun B H a b Q q =>
  hi B H a b _ fun J B1 H1 g1 w D hD => by
    refine ⟨fun i m H' => m = n - i ∧ i ≤ n ∧ ∃ B', Go B1 H1 B' H' ∧ B' D = none ∧ H' D = some (.lst ((List.range i).map fv)), ⟨n, by simp, Nat.zero_le _, B1, GoF.new (.refl g1.sub) hD, g1.sub.none hD, upd_same⟩, ?_⟩
    rintro i m H' ⟨rfl, hin, B', gg, hBD, hacc⟩
    by_cases hlt : i < n
    · refine .inr ⟨w.goes i H' hlt (gg.up.trans gg.sub), fun H'' => i + 1 ≤ n ∧ ∃ B', Go B1 H1 B' H'' ∧ B' D = none ∧ H'' D = some (.lst ((List.range (i + 1)).map fv)), fun H'' h => ⟨n - (i + 1), by omega, rfl, h⟩, fun x H2 y => ?_⟩
      obtain ⟨B2, g2, hY⟩ := w.yields i B' H' x H2 hlt gg.up gg.sub y
      refine ⟨hw x, ?_⟩
      show te _ H2 _
      have gD : H' D ≠ none := by rw [hacc]; simp
      refine he i x B2 hlt ((a.trans g1.up).trans (gg.up.trans g2.up)) hY B2 H2 (Ex.refl _) g2.sub _ fun v B3 H3 g3 ev => ?_
      subst ev
      have g23 := g2.trans g3
      refine ⟨_, g23.ex D _ hacc, ?_, hlt, B3, (gg.trans g23).mut hD (g23.off D hBD gD), g23.off D hBD gD, ?_⟩
      · rw [List.length_map, List.length_range]
        exact Nat.lt_of_le_of_lt (by omega : i ≤ 100000) (by decide)
      · rw [upd_same, List.range_succ, List.map_append]; rfl
    · have e : i = n := by omega
      subst e
      exact .inl ⟨w.stops H' (gg.up.trans gg.sub), q D H' (g1.trans gg).back (g1.there D hD) hacc⟩
/-- 64 cells -/
def Cells (cs : List Int) : Prop := cs.length = 64 ∧ ∀ c ∈ cs, 0 ≤ c ∧ c < 2147483647
theorem Cells.set {cs : List Int} {i : Nat} {c : Int} (h : Cells cs) (h0 : 0 ≤ c) (h1 : c < 2147483647) : Cells (cs.set i c) := ⟨by rw [List.length_set, h.1], fun d hd => by
  rcases List.mem_or_eq_of_mem_set hd with e | e
  · exact h.2 d e
  · rw [e]; exact ⟨h0, h1⟩⟩
theorem Cells.at_ {cs : List Int} {i : Nat} (h : Cells cs) (hi : i < 64) : ∃ c, cs[i]? = some c ∧ 0 ≤ c ∧ c < 2147483647 := by
  have hl : i < cs.length := by rw [h.1]; exact hi
  exact ⟨cs[i], List.getElem?_eq_getElem hl, h.2 _ (List.getElem_mem hl)⟩
def sp__law_folded (K : PySem.W.Frag) : Sp := fun vs H Q _ => ∃ (B : Hp) (p : Addr) (ns : List Int), vs = [.ref p] ∧ SqL K B p (ns.map V.int) ∧ ns.length ≤ 100000 ∧ Ex B H ∧ ∀ p1 cs B1 H1, Go B H B1 H1 → B1 p1 = some (.lst (cs.map V.int)) → Cells cs → Q (.ref p1) H1
section
variable {P : Program} {w₀ : World} {K : PySem.W.Frag} {mg : Str → Option Value} {base : Heap} {C : Addr} (T : Top K mg C)
include T
theorem cal__law_folded : Cal P w₀ K mg base "_law_folded" ["_law_script"] 1 (sp__law_folded K) := by
  refine T.d__law_folded.cal sc__law_folded (fun vs H Q E h => ?_) (fun _ _ _ _ _ _ us hl => match us, hl with | [_], _ => rfl) (fun f cdv A outer s H vs Q E hr h => ?_)
  · obtain ⟨B, p, ns, rfl, _⟩ := h
    rfl
  · obtain ⟨B, p, ns, rfl, hp, hl, ex, qq⟩ := h
    refine ⟨_, (pss_cons (ps_setLc (i := 1) (own := [("_law_n", 2)]) rfl sc__law_folded.nd rfl rfl (sw_true rfl rfl rfl (by decide +kernel)) (pi_range1 (by rfl) T.b_range (pa_cons pe_int pa_nil)) (blkOk_by (own := [("_law_n", 2)]) (N := N__law_folded) (sc := defScope s__law_folded) (by decide +kernel)) (fun _ _ _ _ _ => (pg_name (i := 2) sc__law_folded.nd rfl (Or.inl rfl))) (fun _ _ _ _ _ => pts_nil) (fun _ _ _ _ _ => (pe_op op_add pe_int (pv 2))))
    (pss_cons (ps_for PassesOwn.never rfl (pi_enum (by rfl) T.b_enumerate (pa_cons (pv 0) pa_nil)) (pg_tup rfl (pgs_cons (pg_name (i := 2) sc__law_folded.nd rfl (Or.inl rfl)) (pgs_cons (pg_name (i := 3) sc__law_folded.nd rfl (Or.inl rfl)) pgs_nil)))
      (pss_one (ps_asg (pe_op op_mod (pe_op op_add (pe_op op_mulW (pe_ix ix_list (pv 1) (pe_op op_mod (pv 2) pe_int) (fun _ _ => rfl)) pe_int) (pv 3)) pe_int) (pg_sub (pv 1) (pe_op op_mod (pv 2) pe_int) set_list))))
    (pss_cons (ps_for PassesOwn.never rfl (pi_range2 (by rfl) T.b_range (pa_cons pe_int (pa_cons pe_int pa_nil))) (pg_name (i := 2) sc__law_folded.nd rfl (Or.inl rfl))
      (pss_one (ps_asg (pe_op op_mod (pe_op op_add (pe_ix ix_list (pv 1) (pv 2) (fun _ _ => rfl)) (pe_op op_mulW (pe_ix ix_list (pv 1) (pe_op op_sub (pv 2) pe_int) (fun _ _ => rfl)) pe_int)) pe_int) (pg_sub (pv 1) (pv 2) set_list))))
    (pss_one (ps_ret (pv 1)))))), ?_⟩
    refine q_asgF (f_lcV (n := 64) (j := 2) (vs := [2]) (Y := fun i x _ => x = vN i) (fun i => .int (17 + (i : Nat))) (i_rng1 (m := 64) (av_cons v_c av_nil) (by omega)) (by omega) (fun _ => rfl) (fun i v B' hi e hv => v_add (v_k 17) (v_var (by rw [hv]; rfl)))) ex fun pf H1 g1 hfn hf => ?_
    have Bf : B pf = none := ex.none hfn
    have C0 : Cells ((List.range 64).map fun i => 17 + ((i : Nat) : Int)) := ⟨by simp, fun c hc => by
      obtain ⟨i, hi, rfl⟩ := List.mem_map.mp hc
      have := List.mem_range.mp hi
      omega⟩
    have k1 : (48271 : Int).natAbs < 2 ^ 20 := by decide
    have k2 : (16807 : Int).natAbs < 2 ^ 20 := by decide
    refine q_for (Hc := B) (fun i σ1 B3 H3 => ∃ cs s2 s3, σ1 = [some (.ref p), some (.ref pf), s2, s3] ∧ Go B H B3 H3 ∧ B3 pf = none ∧ H3 pf = some (.lst (cs.map V.int)) ∧ Cells cs)
      (i_enumL (e_var rfl fun B' e => ⟨p, rfl, e.l hp⟩)) g1.sub (fun B3 H3 g3 => ⟨_, _, _, rfl, g1.trans g3, g3.off pf Bf (by rw [hf]; simp), (by rw [g3.ex _ _ hf, List.map_map]; rfl), C0⟩) (fun i σ1 B3 H3 y B4 H4 hi e3 e3' hW g4 hy => ?_) (fun σ1 B3 H3 e3 e3' hW => ?_)
    · obtain ⟨cs, s2, s3, rfl, gg, Bf3, hf3, hC⟩ := hW
      obtain ⟨Tt, u, rfl, hu, hTt⟩ := hy
      rw [List.getElem?_map] at hu
      obtain ⟨cell, hcell, rfl⟩ := Option.map_eq_some_iff.mp hu
      refine (g_pair hTt (S := fun σ2 B => σ2 = [some (.ref p), some (.ref pf), some (vN i), some (.int cell)]) fun _ _ => rfl) B4 H4 (Ex.refl _) g4.sub _ fun σ2 B5 H5 g5 e => ?_
      subst e
      have g45 := g4.trans g5
      have gg5 := gg.trans g45
      have hf5 := g45.ex _ _ hf3
      have Bf5 := g45.off pf Bf3 (by rw [hf3]; simp)
      obtain ⟨c, hc, c0, c1⟩ := hC.at_ (Nat.mod_lt i (by omega : 0 < 64))
      have hix : ∀ {B' : Hp}, EvV (tOp (rI (fun _ j => 0 < j) fun i j => .int (i % j)) (tVar 2) (tC (.int 64))) [some (.ref p), some (.ref pf), some (vN i), some (.int cell)] B' (vN (i % 64)) := (v_modP (i := (i : Nat)) (by omega) (v_var rfl) (v_k 64)).is (by show V.int _ = V.int _; congr 1)
      have cb : c.natAbs < 2 ^ 31 := by omega
      refine s_setL (Hc := H5) (i := i % 64) (v_modP (by omega) (v_add (v_mulW (mulW cb k1 (by omega)) (v_ixL (l_var rfl hf5) hix (atI_nat (by rw [List.getElem?_map, hc]; rfl))) (v_k 48271)) (v_var rfl)) (v_k 2147483647)) (v_var rfl) hix (Ex.refl _) hf5 (by rw [List.length_map, hC.1]; exact Nat.mod_lt _ (by omega)) fun H6 g6 => ?_
      have gz := (gg5.trans (g6.hid gg5.sub)).mut (l := pf) (o := .lst ((cs.map V.int).set (i % 64) (.int ((c * 48271 + cell) % 2147483647)))) hfn Bf5
      refine ⟨B5, g45.up, gz.sub, cs.set (i % 64) ((c * 48271 + cell) % 2147483647), _, _, rfl, gz, Bf5, by rw [upd_same, List.map_set], hC.set (Int.emod_nonneg _ (by omega)) (Int.emod_lt_of_pos _ (by omega))⟩
    · obtain ⟨cs, s2, s3, rfl, gg, Bf3, hf3, hC⟩ := hW
      refine q_for (Hc := B3) (fun i σ1 B4 H4 => ∃ cs s2 s3, σ1 = [some (.ref p), some (.ref pf), s2, s3] ∧ Go B H B4 H4 ∧ B4 pf = none ∧ H4 pf = some (.lst (cs.map V.int)) ∧ Cells cs)
        (i_rng2 (lo := 1) (hi := 64) (av_cons v_c (av_cons v_c av_nil)) (by omega) (by omega)) e3' (fun B4 H4 g4 => ⟨cs, _, _, rfl, gg.trans g4, g4.off pf Bf3 (by rw [hf3]; simp), g4.ex _ _ hf3, hC⟩) (fun i σ1 B4 H4 y B5 H5 hi e4 e4' hW g5 hy => ?_) (fun σ1 B4 H4 e4 e4' hW => ?_)
      · obtain ⟨cs, s2, s3, rfl, gg, Bf4, hf4, hC⟩ := hW
        subst hy
        have gg5 := gg.trans g5
        have hf5 := g5.ex _ _ hf4
        have Bf5 := g5.off pf Bf4 (by rw [hf4]; simp)
        obtain ⟨c, hc, c0, c1⟩ := hC.at_ (show 1 + i < 64 by omega)
        obtain ⟨d, hd, d0, d1⟩ := hC.at_ (show i < 64 by omega)
        have db : d.natAbs < 2 ^ 31 := by omega
        refine s_setL (Hc := H5) (i := 1 + i) (v_modP (by omega) (v_add (v_ixL (l_var rfl hf5) (v_var rfl) (atI_nat (by rw [List.getElem?_map, hc]; rfl))) (v_mulW (mulW db k2 (by omega)) (v_ixL (l_var rfl hf5) (v_subN (k := i) (j := 1) (v_var rfl) v_c (by omega)) (atI_nat (by rw [List.getElem?_map, hd]; rfl))) (v_k 16807))) (v_k 2147483647)) (v_var rfl) (v_var rfl) (Ex.refl _) hf5 (by rw [List.length_map, hC.1]; omega) fun H6 g6 => ?_
        have gz := (gg5.trans (g6.hid gg5.sub)).mut (l := pf) (o := .lst ((cs.map V.int).set (1 + i) (.int ((c + d * 16807) % 2147483647)))) hfn Bf5
        exact ⟨B5, g5.up, gz.sub, cs.set (1 + i) ((c + d * 16807) % 2147483647), _, _, rfl, gz, Bf5, by rw [upd_same, List.map_set], hC.set (Int.emod_nonneg _ (by omega)) (Int.emod_lt_of_pos _ (by omega))⟩
      · obtain ⟨cs, s2, s3, rfl, gg, Bf4, hf4, hC⟩ := hW
        have gz := gg.shown hf4 hfn
        refine s_ret (Hc := upd B4 pf (.lst (cs.map V.int))) (P := fun u _ => u = .ref pf) (v_var rfl) gz.sub fun y B5 H5 g5 e => ?_
        rw [e]
        exact qq pf cs B5 H5 (gz.trans g5) (g5.up _ _ upd_same) hC
end
end Sk

/-! Law: draw. -/
namespace Sk
open PySem PySem.Spec PyProof.Rows L2
theorem putK_len {κ : Type} [DecidableEq κ] {kvs : List (κ × V)} {k : κ} {v u : V} (h : valV kvs k = some u) : (putK kvs k v).length = kvs.length := by
  unfold putK
  by_cases ha : (kvs.any fun kv => decide (kv.1 = k)) = true
  · rw [if_pos ha, List.length_map]
  · exfalso
    apply ha
    unfold valV at h
    cases hf : kvs.find? fun kv => decide (kv.1 = k) with
    | none => rw [hf] at h; cases h
    | some kv => exact List.any_eq_true.mpr ⟨kv, List.mem_of_find?_eq_some hf, List.find?_some (p := fun kv : κ × V => decide (kv.1 = k)) hf⟩
/-- the machine that draws: its dict, the great cells, the cells -/
structure IsM (H : Hp) (pm pg pc : Addr) (spot : Nat) : Prop where
  ex : ∃ (kvs : List (Key × V)) (gs : List Nat) (cs : List Int), H pm = some (.dK kvs) ∧ valV kvs (.inr "cells") = some (.ref pc) ∧ valV kvs (.inr "great") = some (.ref pg) ∧ valV kvs (.inr "spot") = some (vN spot) ∧ kvs.length ≤ 3 ∧ H pc = some (.lst (cs.map V.int)) ∧ Cells cs ∧ H pg = some (.lst (gs.map vN)) ∧ gs.length ≤ 100000 ∧ pc ≠ pg
def F2 (pm pg : Addr) : Addr → Prop := fun b => b = pm ∨ b = pg
def sp__law_draw : Sp := fun vs H Q _ => ∃ (B : Hp) (pm pg pc : Addr) (spot top : Nat), vs = [.ref pm, vN top] ∧ (1 ≤ top ∧ top ≤ 1000) ∧ spot < 2 ^ 50 ∧ B pm = none ∧ B pg = none ∧ IsM H pm pg pc spot ∧ Ex B H ∧ ∀ k H1, k < top → GoF (F2 pm pg) B H B H1 → IsM H1 pm pg pc (spot + 1) → Q (vN k) H1
section
variable {K : PySem.W.Frag} {σ : L2.St} {Hc H : Hp} {ta td ty tv : TE} {D : Ends} {tz : TS} {pm : Addr} {v : V}
theorem v_neNilN {xs : List Nat} (h : EvLst ta σ Hc (xs.map vN)) : EvV (tOp (rNeD K) ta (tLst tNil)) σ Hc (.bl (!decide (xs = []))) := by
  refine EvV.is (v_neD (d := .list (xs.map fun k => PyData.int (k : Nat))) (e := .list []) (h.wk fun v B _ ⟨p, h1, h2⟩ => ?_) ((e_lstV (xs := []) av_nil (by simp)).wk fun v B _ ⟨p, h1, h2⟩ => ?_) (shaped_ints xs) (by rfl)) ?_
  · subst h1
    exact ⟨.lst (sl_of h2) (dp_ints xs), fun B' e => .lst (sl_of (e _ _ h2)) (dp_ints xs)⟩
  · subst h1
    exact fun B' e => .lst (sl_of (e _ _ h2)) .nil
  · cases xs with
    | nil => rfl
    | cons a l => rfl
/-- d[k] = v over the whole heap -/
theorem q_dputK {kvs : List (Key × V)} {k : Key} (hv : EvV tv σ H v) (hd : EvV td σ H (.ref pm)) (hy : EvV ty σ H (kV k)) (hk : H pm = some (.dK kvs)) (hl : kvs.length ≤ 100000) (c : ∀ H1, Go H H H H1 → tz D σ (upd H1 pm (.dK (putK kvs k v)))) : tSeq (sDPut td ty tv) tz D σ H :=
  hv H H (Ex.refl _) (Ex.refl _) _ fun v1 B1 H1 g1 e1 => hd B1 H1 g1.up g1.sub _ fun x B2 H2 g2 e2 => hy B2 H2 (g1.up.trans g2.up) g2.sub _ fun y B3 H3 g3 e3 =>
    ⟨pm, _, e2, .inl ⟨kvs, k, ((g1.trans g2).trans g3).ex _ _ hk, e3, Nat.lt_of_le_of_lt hl (by decide), rfl⟩, by rw [e1]; exact c H3 ((g1.trans g2).trans g3).back⟩
theorem v_dgetS {kvs : List (Key × V)} {k : Str} {u : V} (hd : EvV td σ Hc (.ref pm)) (hk : Hc pm = some (.dK kvs)) (h : valV kvs (.inr k) = some u) : EvV (tDGet td (tC (.str k))) σ Hc u := e_dget (p := pm) (kvs := kvs) (k := .inr k) (hd.ofV fun B e => ⟨rfl, .inl (e _ _ hk)⟩) (v_c (v := .str k)) h fun _ _ => rfl
end
section
variable {P : Program} {w₀ : World} {K : PySem.W.Frag} {mg : Str → Option Value} {base : Heap} {C : Addr} (T : Top K mg C)
include T
theorem cal__law_draw : Cal P w₀ K mg base "_law_draw" ["_law_m", "_law_top"] 2 sp__law_draw := by
  refine T.d__law_draw.cal sc__law_draw (fun vs H Q E h => ?_) (fun _ _ _ _ _ _ us hl => match us, hl with | [_, _], _ => rfl) (fun f cdv A outer s H vs Q E hr h => ?_)
  · obtain ⟨B, pm, pg, pc, spot, top, rfl, _⟩ := h
    rfl
  · obtain ⟨B, pm, pg, pc, spot, top, rfl, ⟨t1, t2⟩, hsp, Bm, Bg, ⟨kvs, gs, cs, hm, hkc, hkg, hks, hkl, hc, hC, hg, hgl, ncg⟩, ex, qq⟩ := h
    have hu := hu_of hr
    have hu0 := hr.units
    refine ⟨_, (pss_cons (ps_set (i := 2) sc__law_draw.nd rfl (Or.inl rfl) (pe_dget hu (pv 0) pe_str (fun _ _ => rfl)))
    (pss_cons (ps_dput hu (pv 0) pe_str (pe_op op_add (pv 2) pe_int) rfl)
    (pss_cons (ps_if (pt_cmpR (op_neD hu0) (pe_dget hu (pv 0) pe_str (fun _ _ => rfl)) (pe_lst pa_nil) (nomark _)) (pss_cons (ps_set (i := 3) sc__law_draw.nd rfl (Or.inl rfl) (pe_op op_mod (pv 2) (pe_callB call_len_seq (by rfl) T.b_len PySem.boot_len (pa_cons (pe_dget hu (pv 0) pe_str (fun _ _ => rfl)) pa_nil))))
      (pss_cons (ps_set (i := 4) sc__law_draw.nd rfl (Or.inl rfl) (pe_ix ix_list (pe_dget hu (pv 0) pe_str (fun _ _ => rfl)) (pv 3) (fun _ _ => rfl)))
      (pss_one (ps_if (pt_cmpR op_gt (pv 4) pe_int (nomark _)) (pss_cons (ps_asg (pe_op op_fdivW (pv 4) (pv 1)) (pg_sub (pe_dget hu (pv 0) pe_str (fun _ _ => rfl)) (pv 3) set_list))
        (pss_one (ps_ret (pe_op op_mod (pv 4) (pv 1))))) pss_nil)))) pss_nil)
    (pss_one (ps_ret (pe_op op_mod ((cal__law_mixed T).pe hr (by decide) rfl (pa_cons ((cal__law_mixed T).pe hr (by decide) rfl (pa_cons (pe_op op_add (pe_ix ix_list (pe_dget hu (pv 0) pe_str (fun _ _ => rfl)) (pe_op op_mod (pv 2) pe_int) (fun _ _ => rfl)) (pe_op op_mulW pe_int (pe_op op_fdivW (pv 2) pe_int))) (pa_cons (pv 2) pa_nil))) (pa_cons (pe_op op_add (pv 2) pe_int) pa_nil))) (pv 1))))))), ?_⟩
    have nmg : pm ≠ pg := fun e => by subst e; rw [hm] at hg; cases hg
    have nmc : pm ≠ pc := fun e => by subst e; rw [hm] at hc; cases hc
    refine q_asg (Hc := H) (v_dgetS (v_var rfl) hm hks) (Ex.refl _) fun v1 B1 H1 g1 e1 => ?_
    subst e1
    have g1' := g1.hid ex
    have m1 := g1'.ex _ _ hm
    refine q_dputK (pm := pm) (k := .inr "spot") (v := vN (spot + 1)) (v_addN (v_var rfl) (v_c (v := .int (1 : Nat)))) (v_var rfl) v_c m1 (by omega) fun H2 g2 => ?_
    have g2' := g1'.trans (g2.hid g1'.sub)
    have gA : GoF (F2 pm pg) B H B (upd H2 pm (.dK (putK kvs (.inr "spot") (vN (spot + 1))))) := g2'.f.chg (.inl rfl) Bm
    have hm2 : upd H2 pm (.dK (putK kvs (.inr "spot") (vN (spot + 1)))) pm = some (.dK (putK kvs (.inr "spot") (vN (spot + 1)))) := upd_same
    have hc2 : upd H2 pm (.dK (putK kvs (.inr "spot") (vN (spot + 1)))) pc = some (.lst (cs.map V.int)) := by rw [upd_ne nmc.symm]; exact g2'.ex _ _ hc
    have hg2 : upd H2 pm (.dK (putK kvs (.inr "spot") (vN (spot + 1)))) pg = some (.lst (gs.map vN)) := by rw [upd_ne nmg.symm]; exact g2'.ex _ _ hg
    have kc2 : valV (putK kvs (.inr "spot") (vN (spot + 1))) (.inr "cells") = some (.ref pc) := by rw [valV_put, if_neg (by decide +kernel)]; exact hkc
    have kg2 : valV (putK kvs (.inr "spot") (vN (spot + 1))) (.inr "great") = some (.ref pg) := by rw [valV_put, if_neg (by decide +kernel)]; exact hkg
    have ks2 : valV (putK kvs (.inr "spot") (vN (spot + 1))) (.inr "spot") = some (vN (spot + 1)) := by rw [valV_put, if_pos rfl]
    have kl2 : (putK kvs (.inr "spot") (vN (spot + 1))).length ≤ 3 := by rw [putK_len hks]; exact hkl
    generalize putK kvs (.inr "spot") (vN (spot + 1)) = kv2 at gA hm2 hc2 hg2 kc2 kg2 ks2 kl2 ⊢
    generalize upd H2 pm (.dK kv2) = H3 at gA hm2 hc2 hg2 ⊢
    -- the last road
    have lastR : ∀ {H4 : Hp} {s3 s4 : Option V} {D : Ends}, Go B H3 B H4 → (∀ k H5, k < top → GoF (F2 pm pg) B H B H5 → IsM H5 pm pg pc (spot + 1) → D.rt (vN k) H5) → tRet (tOp (rI (fun _ j => 0 < j) fun i j => .int (i % j)) (tCall sp__law_mixed [] E0 (tCons (tCall sp__law_mixed [] E0 (tCons (tOp rAdd (tOp (rIxL K) (tDGet (tVar 0) (tC (.str "cells"))) (tOp (rI (fun _ j => 0 < j) fun i j => .int (i % j)) (tVar 2) (tC (.int 64)))) (tOp (rI CMulW fun i j => .int (i * j)) (tC (.int 31)) (tOp (rI CDivW fun i j => .int (i / j)) (tVar 2) (tC (.int 64))))) (tCons (tVar 2) tNil))) (tCons (tOp rAdd (tVar 2) (tC (.int 7))) tNil))) (tVar 1)) D [some (.ref pm), some (vN top), some (vN spot), s3, s4] H4 := fun {H4 s3 s4 D} g4 k => by
      have hm4 := g4.ex _ _ hm2
      have hc4 := g4.ex _ _ hc2
      have hg4 := g4.ex _ _ hg2
      obtain ⟨c, hcc, c0, c1⟩ := hC.at_ (Nat.mod_lt spot (by omega : 0 < 64))
      have hix : EvV (tOp (rI (fun _ j => 0 < j) fun i j => .int (i % j)) (tVar 2) (tC (.int 64))) [some (.ref pm), some (vN top), some (vN spot), s3, s4] H4 (vN (spot % 64)) := (v_modP (i := (spot : Nat)) (by omega) (v_var rfl) (v_k 64)).is (by show V.int _ = V.int _; congr 1)
      have hdv : EvV (tOp (rI CDivW fun i j => .int (i / j)) (tVar 2) (tC (.int 64))) [some (.ref pm), some (vN top), some (vN spot), s3, s4] H4 (.int ((spot : Int) / 64)) := v_divW ⟨by omega, by decide⟩ (v_var rfl) (v_k 64)
      have d1 : ((spot : Int) / 64).natAbs < 2 ^ 50 := by omega
      have k31 : (31 : Int).natAbs < 2 ^ 10 := by decide
      have hsum := v_add (v_ixL (K := K) (σ := [some (.ref pm), some (vN top), some (vN spot), s3, s4]) (EvLst.ofV (v_dgetS (td := tVar 0) (v_var rfl) hm4 kc2) hc4) hix (atI_nat (by rw [List.getElem?_map, hcc]; rfl))) (v_mulW (mulW k31 d1 (by omega)) (v_k 31) hdv)
      refine s_ret (Hc := H4) (P := fun u _ => ∃ k : Nat, u = vN k ∧ k < top) (e_op (Pa := fun u _ => ∃ r : Int, u = .int r ∧ 0 ≤ r) (Pb := fun u _ => u = vN top) (e_call (PA := fun vs _ => ∃ r : Int, vs = [.int r, .int ((spot : Int) + 7)] ∧ 0 ≤ r ∧ r < 2 ^ 31) (a_cons (P := fun u _ => ∃ r : Int, u = .int r ∧ 0 ≤ r ∧ r < 2 ^ 31) (PR := fun vs _ => vs = [.int ((spot : Int) + 7)]) (e_call (av_cons hsum (av_cons (v_var rfl) av_nil)) fun vs B' e5 e => ?_) (fun _ B' e' _ => av_cons (v_add (v_var rfl) (v_k 7)) av_nil) fun a as B1 B2 _ _ ⟨r, h1, h2⟩ h3 => ⟨r, by rw [h1, h3], h2⟩) fun vs B' e5 ⟨r, e, h0, h1⟩ => ?_) (fun _ B' e' _ => v_var rfl) fun a b B1 B2 e1 e2 ⟨r, ea, h0⟩ eb => ?_) (Ex.refl _) fun y B5 H5 g5 ⟨k', ey, hk'⟩ => ?_
      · rw [e]
        exact fun B1 H1 a b Q q' E => ⟨B1, _, (spot : Nat), rfl, ⟨by omega, by omega, by omega⟩, b, fun r B2 H2 g h0 h1 => q' _ B2 H2 g ⟨r, rfl, h0, h1⟩⟩
      · rw [e]
        exact fun B1 H1 a b Q q' E => ⟨B1, r, (spot : Int) + 7, rfl, ⟨by omega, by omega, by omega⟩, b, fun r B2 H2 g h0 h1 => q' _ B2 H2 g ⟨r, rfl, h0⟩⟩
      · subst ea eb
        refine fun B H e b Q q' => ⟨r, (top : Nat), rfl, rfl, by omega, q' _ B H (.refl b) ⟨(r % (top : Nat)).toNat, ?_, ?_⟩⟩
        · have := Int.emod_nonneg r (show ((top : Nat) : Int) ≠ 0 by omega)
          show V.int _ = V.int _
          congr 1
          exact (Int.toNat_of_nonneg this).symm
        · have h2 := Int.emod_nonneg r (show ((top : Nat) : Int) ≠ 0 by omega)
          have h3 := Int.emod_lt_of_pos r (show (0 : Int) < (top : Nat) by omega)
          omega
      · subst ey
        have g5' := g5.hid g4.sub
        have gz := (gA.trans g4.f).trans g5'.f
        exact k k' H5 hk' gz ⟨kv2, gs, cs, g5'.ex _ _ hm4, kc2, kg2, ks2, kl2, g5'.ex _ _ hc4, hC, g5'.ex _ _ hg4, hgl, ncg⟩
    refine q_when (Hc := H3) (t_test (v_neNilN (EvLst.ofV (v_dgetS (v_var rfl) hm2 kg2) hg2))) (Ex.refl _) (fun z B4 H4 g4 => ?_) (fun z B4 H4 g4 => lastR (g4.hid gA.sub) qq)
    have z' : gs ≠ [] := fun e => by rw [e, decide_eq_true rfl] at z; cases z
    have gl0 : 0 < gs.length := List.length_pos_iff.mpr z'
    have g4' := g4.hid gA.sub
    have hm4 := g4'.ex _ _ hm2
    have hg4 := g4'.ex _ _ hg2
    refine q_asg (Hc := H4) ((v_modP (i := (spot : Nat)) (j := (gs.length : Nat)) (by omega) (v_var rfl) (v_lenL (n := gs.length) (EvLst.ofV (v_dgetS (v_var rfl) hm4 kg2) hg4) (List.length_map _))).is (w := vN (spot % gs.length)) (by show V.int _ = V.int _; congr 1)) (Ex.refl _) fun v5 B5 H5 g5 e5 => ?_
    subst e5
    have g5' := g5.hid g4'.sub
    have hm5 := g5'.ex _ _ hm4
    have hg5 := g5'.ex _ _ hg4
    have hat : spot % gs.length < gs.length := Nat.mod_lt _ gl0
    have hgat : (gs.map vN)[spot % gs.length]? = some (vN gs[spot % gs.length]) := by rw [List.getElem?_map, List.getElem?_eq_getElem hat]; rfl
    generalize gs[spot % gs.length] = cell at hgat
    refine q_asg (Hc := H5) (v_ixL (EvLst.ofV (v_dgetS (v_var rfl) hm5 kg2) hg5) (v_var rfl) (atI_nat hgat)) (Ex.refl _) fun v6 B6 H6 g6 e6 => ?_
    subst e6
    have g6' := g6.hid g5'.sub
    have hm6 := g6'.ex _ _ hm5
    have hg6 := g6'.ex _ _ hg5
    have g46 := g4'.trans (g5'.trans g6')
    refine s_if (Hc := H6) (t_test (v_I0 (v_var rfl) (v_k 0))) (Ex.refl _) (fun z2 B7 H7 g7 => ?_) (fun z2 B7 H7 g7 => lastR (g46.trans (g7.hid g46.sub)) qq)
    have g7' := g7.hid g46.sub
    have g47 := g46.trans g7'
    have hm7 := g7'.ex _ _ hm6
    have hg7 := g7'.ex _ _ hg6
    have hc7 := g47.ex _ _ hc2
    refine q_setL (Hc := H7) (p := pg) (i := spot % gs.length) (v := vN (cell / top)) ((v_divW (i := (cell : Nat)) (j := (top : Nat)) ⟨by omega, ?_⟩ (v_var rfl) (v_var rfl)).is (by show V.int _ = V.int _; congr 1)) (v_dgetS (v_var rfl) hm7 kg2) (v_var rfl) (Ex.refl _) hg7 (by rw [List.length_map]; exact hat) fun H8 g8 => ?_
    · have : (top : Int).natAbs.log2 < 10 := by
        have h1 : (top : Int).natAbs = top := Int.natAbs_natCast _
        rw [h1]
        exact (Nat.log2_lt (by omega)).mpr (by omega)
      omega
    have g8' := g8.hid g47.sub
    have g48 := g47.trans g8'
    have gB := (gA.trans g48.f).chg (l := pg) (o := .lst ((gs.map vN).set (spot % gs.length) (vN (cell / top)))) (.inr rfl) Bg
    refine s_ret (Hc := upd H8 pg (.lst ((gs.map vN).set (spot % gs.length) (vN (cell / top))))) ((v_modP (i := (cell : Nat)) (j := (top : Nat)) (by omega) (v_var rfl) (v_var rfl)).is (w := vN (cell % top)) (by show V.int _ = V.int _; congr 1)) (Ex.refl _) fun y B9 H9 g9 ey => ?_
    subst ey
    have g9' := g9.hid gB.sub
    have hm8 := g8'.ex _ _ hm7
    have hc8 := g8'.ex _ _ hc7
    refine qq (cell % top) H9 (Nat.mod_lt _ (by omega)) (gB.trans g9'.f) ⟨kv2, gs.set (spot % gs.length) (cell / top), cs, g9'.ex _ _ (by rw [upd_ne nmg]; exact hm8), kc2, kg2, ks2, kl2, g9'.ex _ _ (by rw [upd_ne ncg]; exact hc8), hC, g9'.ex _ _ (by rw [upd_same, List.map_set]), by rw [List.length_set]; exact hgl, ncg⟩
end
end Sk

/-! Law: mixed_up. -/
namespace Sk
open PySem PySem.Spec PyProof.Rows L2
theorem map_erase {α β : Type} (f : α → β) : ∀ (l : List α) (k : Nat), (l.map f).eraseIdx k = (l.eraseIdx k).map f
  | [], _ => rfl
  | _ :: _, 0 => rfl
  | a :: l, k + 1 => by
    show f a :: (l.map f).eraseIdx k = f a :: (l.eraseIdx k).map f
    rw [map_erase f l k]
theorem erase_perm {α : Type} : ∀ {l : List α} {k : Nat} (h : k < l.length), (l[k] :: l.eraseIdx k).Perm l
  | _ :: _, 0, _ => List.Perm.refl _
  | a :: l, k + 1, h => by
    show (l[k]'(by simpa using h) :: a :: l.eraseIdx k).Perm (a :: l)
    exact (List.Perm.swap _ _ _).trans ((erase_perm (by simpa using h)).cons a)
def sp__law_mixed_up : Sp := fun vs H Q _ => ∃ (B : Hp) (pm pg pc pt : Addr) (spot : Nat) (xs : List Nat), vs = [.ref pm, .ref pt] ∧ H pt = some (.lst (xs.map vN)) ∧ xs.length ≤ 100 ∧ spot + 100 < 2 ^ 50 ∧ B pm = none ∧ B pg = none ∧ IsM H pm pg pc spot ∧ Ex B H ∧
  ∀ p (ys : List Nat) H1, GoF (F2 pm pg) B H B H1 → H p = none → H1 p = some (.lst (ys.map vN)) → ys.Perm xs → IsM H1 pm pg pc (spot + xs.length) → Q (.ref p) H1
theorem IsM.keep {H H' : Hp} {pm pg pc : Addr} {spot : Nat} (h : IsM H pm pg pc spot) (e : ∀ b o, b = pm ∨ b = pg ∨ b = pc → H b = some o → H' b = some o) : IsM H' pm pg pc spot := by
  obtain ⟨kvs, gs, cs, h1, h2, h3, h4, h5, h6, h7, h8, h9⟩ := h
  exact ⟨kvs, gs, cs, e _ _ (.inl rfl) h1, h2, h3, h4, h5, e _ _ (.inr (.inr rfl)) h6, h7, e _ _ (.inr (.inl rfl)) h8, h9⟩
theorem IsM.some_ {H : Hp} {pm pg pc : Addr} {spot : Nat} (h : IsM H pm pg pc spot) : H pm ≠ none ∧ H pg ≠ none ∧ H pc ≠ none := by
  obtain ⟨kvs, gs, cs, h1, h2, h3, h4, h5, h6, h7, h8, h9⟩ := h
  refine ⟨by rw [h1]; simp, by rw [h8]; simp, by rw [h6]; simp⟩
section
variable {P : Program} {w₀ : World} {K : PySem.W.Frag} {mg : Str → Option Value} {base : Heap} {C : Addr} (T : Top K mg C)
include T
theorem cal__law_mixed_up : Cal P w₀ K mg base "_law_mixed_up" ["_law_m", "_law_things"] 3 sp__law_mixed_up := by
  refine T.d__law_mixed_up.cal sc__law_mixed_up (fun vs H Q E h => ?_) (fun _ _ _ _ _ _ us hl => match us, hl with | [_, _], _ => rfl) (fun f cdv A outer s H vs Q E hr h => ?_)
  · obtain ⟨B, pm, pg, pc, pt, spot, xs, rfl, _⟩ := h
    rfl
  · obtain ⟨B, pm, pg, pc, pt, spot, xs, rfl, ht, hx, hsp, Bm, Bg, hM, ex, qq⟩ := h
    refine ⟨_, (pss_cons (ps_par (i := 2) (j := 3) (by rfl) sc__law_mixed_up.nd rfl rfl (by decide) rfl rfl (pa_cons (pe_callTy call_list_of (by rfl) T.b_list (by decide +kernel) (pa_cons (pv 1) pa_nil)) (pa_cons (pe_lst pa_nil) pa_nil)) (by rfl))
    (pss_cons (ps_for PassesOwn.never rfl (pi_range1 (by rfl) T.b_range (pa_cons (pe_callB call_len_seq (by rfl) T.b_len PySem.boot_len (pa_cons (pv 2) pa_nil)) pa_nil)) (pg_name (i := 4) sc__law_mixed_up.nd rfl (Or.inl rfl))
      (pss_one (ps_expr (pe_bm PySem.F.plainAttrs_list PySem.F.slot_list_append PySem.F.type_list_append mt_append (pv 3) (pa_cons (pe_bm PySem.F.plainAttrs_list PySem.F.slot_list_pop PySem.F.type_list_pop mt_popAt (pv 2) (pa_cons ((cal__law_draw T).pe hr (by decide) rfl (pa_cons (pv 0) (pa_cons (pe_callB call_len_seq (by rfl) T.b_len PySem.boot_len (pa_cons (pv 2) pa_nil)) pa_nil))) pa_nil)) pa_nil)))))
    (pss_one (ps_ret (pv 3))))), ?_⟩
    obtain ⟨sm, sg, sc⟩ := hM.some_
    refine ⟨.ref pt, rfl, pt, xs.map vN, rfl, .inl (sl_of ht), fun ps hps => ⟨Nat.zero_le _, fun pf hpf => ⟨.ref ps, .ref pf, rfl, ?_⟩⟩⟩
    have nsf : ps ≠ pf := fun e => by subst e; rw [upd_same] at hpf; cases hpf
    have hpf0 : H pf = none := by rw [upd_ne nsf.symm] at hpf; exact hpf
    have nsm : ps ≠ pm := fun e => sm (e ▸ hps)
    have nsg : ps ≠ pg := fun e => sg (e ▸ hps)
    have nsc : ps ≠ pc := fun e => sc (e ▸ hps)
    have nfm : pf ≠ pm := fun e => sm (e ▸ hpf0)
    have nfg : pf ≠ pg := fun e => sg (e ▸ hpf0)
    have nfc : pf ≠ pc := fun e => sc (e ▸ hpf0)
    have g0 : GoF (F2 pm pg) B H B (upd (upd H ps (.lst (xs.map vN))) pf (.lst [])) := ((GoF.refl ex).new hps).new hpf
    have hs0 : upd (upd H ps (.lst (xs.map vN))) pf (.lst []) ps = some (.lst (xs.map vN)) := by rw [upd_ne nsf, upd_same]
    refine ⟨.ref ps, rfl, ps, xs.map vN, rfl, .inl (sl_of hs0), _, rfl, by rw [List.length_map]; omega, by rw [List.length_map]; omega, ?_⟩
    rw [List.length_map, Int.toNat_natCast]
    refine ⟨fun i m σ1 H1 => m = xs.length - i ∧ i ≤ xs.length ∧ ∃ (st fd : List Nat) (s4 : Option V), σ1 = [some (.ref pm), some (.ref pt), some (.ref ps), some (.ref pf), s4] ∧ GoF (F2 pm pg) B H B H1 ∧ H1 ps = some (.lst (st.map vN)) ∧ H1 pf = some (.lst (fd.map vN)) ∧ st.length + i = xs.length ∧ fd.length = i ∧ (fd ++ st).Perm xs ∧ IsM H1 pm pg pc (spot + i), ⟨xs.length, by simp, Nat.zero_le _, xs, [], none, rfl, g0, hs0, upd_same, rfl, rfl, List.Perm.refl _, ?_⟩, ?_⟩
    · exact hM.keep fun b o hb h => by
        have h1 : b ≠ ps := by rcases hb with e | e | e <;> rw [e]; exact nsm.symm; exact nsg.symm; exact nsc.symm
        have h2 : b ≠ pf := by rcases hb with e | e | e <;> rw [e]; exact nfm.symm; exact nfg.symm; exact nfc.symm
        rw [upd_ne h2, upd_ne h1]; exact h
    rintro i m σ1 H1 ⟨rfl, hin, st, fd, s4, rfl, gg, hs1, hf1, hsl, hfl, hperm, hM1⟩
    by_cases hlt : i < xs.length
    · refine .inr ⟨hlt, _, fun σ' H' h => ⟨xs.length - (i + 1), by omega, rfl, hlt, h⟩, fun x H' y => ?_⟩
      obtain ⟨e1, e2⟩ := y
      subst e1
      refine ⟨.ref pf, rfl, .inl ⟨rfl, _, sl_of hf1⟩, .ref ps, rfl, .inl ⟨rfl, _, sl_of hs1⟩, .ref pm, rfl, .ref ps, rfl, ps, st.map vN, rfl, .inl (sl_of hs1), B, pm, pg, pc, spot + i, st.length, by rw [List.length_map]; rfl, ⟨by omega, by omega⟩, by omega, Bm, Bg, hM1, gg.sub, fun k H2 hk g2 hM2 => ?_⟩
      have nF : ∀ {b}, b ≠ pm → b ≠ pg → ¬ F2 pm pg b := fun h1 h2 h => by rcases h with h | h; exact h1 h; exact h2 h
      have hs2 := g2.keep ps _ (nF nsm nsg) hs1
      have hf2 := g2.keep pf _ (nF nfm nfg) hf1
      have hix : ixN (st.map vN).length (k : Int) = some k := by unfold ixN; rw [List.length_map, if_pos (by omega), if_pos (by omega)]; rfl
      refine ⟨ps, st.map vN, (k : Int), k, vN st[k], rfl, rfl, hs2, by omega, by omega, (ixN_seq hix).1, by rw [List.getElem?_map, List.getElem?_eq_getElem hk]; rfl, ?_⟩
      refine ⟨pf, fd.map vN, vN st[k], rfl, rfl, by rw [upd_ne nsf.symm]; exact hf2, Nat.lt_of_le_of_lt (by rw [List.length_map]; omega : _ ≤ 100) (by decide), ?_⟩
      have gz := (((gg.trans g2).mut (l := ps) (o := .lst ((st.map vN).eraseIdx k)) hps (ex.none hps)).mut (l := pf) (o := .lst (fd.map vN ++ [vN st[k]])) hpf0 (ex.none hpf0))
      refine ⟨st.eraseIdx k, fd ++ [st[k]], _, rfl, gz, by rw [upd_ne nsf, upd_same, map_erase], by rw [upd_same, List.map_append]; rfl, by rw [List.length_eraseIdx_of_lt hk]; omega, by rw [List.length_append, hfl]; rfl, ?_, ?_⟩
      · rw [List.append_assoc]
        exact (List.Perm.append_left fd (erase_perm hk)).trans hperm
      · have := hM2.keep (H' := upd (upd H2 ps (.lst ((st.map vN).eraseIdx k))) pf (.lst (fd.map vN ++ [vN st[k]]))) fun b o hb h => by
          have h1 : b ≠ ps := by rcases hb with e | e | e <;> rw [e]; exact nsm.symm; exact nsg.symm; exact nsc.symm
          have h2 : b ≠ pf := by rcases hb with e | e | e <;> rw [e]; exact nfm.symm; exact nfg.symm; exact nfc.symm
          rw [upd_ne h2, upd_ne h1]; exact h
        rw [Nat.add_assoc] at this
        exact this
    · have e : i = xs.length := by omega
      subst e
      refine .inl ⟨Nat.le_refl _, ?_⟩
      have hst : st = [] := List.length_eq_zero_iff.mp (by omega)
      subst hst
      rw [List.append_nil] at hperm
      exact ⟨.ref pf, rfl, qq pf fd H1 gg hpf0 hf1 hperm hM1⟩
end
end Sk

/-! Law: begun. -/
namespace Sk
open PySem PySem.Spec PyProof.Rows L2
def sp__law_begun (K : PySem.W.Frag) : Sp := fun vs H Q _ => ∃ (B : Hp) (p : Addr) (ns : List Int), vs = [.ref p] ∧ SqL K B p (ns.map V.int) ∧ ns.length ≤ 100000 ∧ Ex B H ∧ ∀ pm pg pc B1 H1, Go B H B1 H1 → B1 pm = none → B1 pg = none → H pm = none → H pg = none → IsM H1 pm pg pc 0 → Q (.ref pm) H1
section
variable {P : Program} {w₀ : World} {K : PySem.W.Frag} {mg : Str → Option Value} {base : Heap} {C : Addr} (T : Top K mg C)
include T
theorem cal__law_begun : Cal P w₀ K mg base "_law_begun" ["_law_script"] 2 (sp__law_begun K) := by
  refine T.d__law_begun.cal sc__law_begun (fun vs H Q E h => ?_) (fun _ _ _ _ _ _ us hl => match us, hl with | [_], _ => rfl) (fun f cdv A outer s H vs Q E hr h => ?_)
  · obtain ⟨B, p, ns, rfl, _⟩ := h
    rfl
  · obtain ⟨B, p, ns, rfl, hp, hl, ex, qq⟩ := h
    have hu := hu_of hr
    refine ⟨_, (pss_cons (ps_set (i := 1) sc__law_begun.nd rfl (Or.inl rfl) (pe_disp (pps_cons pe_str ((cal__law_folded T).pe hr (by decide) rfl (pa_cons (pv 0) pa_nil)) (pps_cons pe_str (pe_lst pa_nil) (pps_cons pe_str pe_int pps_nil))) rfl rfl (by simp) (by decide)))
    (pss_cons (ps_dput hu (pv 1) pe_str (pe_lc (own := [("_law_cell", 2)]) rfl sc__law_begun.nd (pi_list (pv 0)) (blkOk_by (own := [("_law_cell", 2)]) (N := N__law_begun) (sc := defScope s__law_begun) (by decide +kernel)) (fun _ _ _ _ _ => (pg_name (i := 2) sc__law_begun.nd rfl (Or.inl rfl))) (fun _ _ _ _ _ => pts_nil) (fun _ _ _ _ _ => (pe_ifExp (pt_cmpR op_ge (pv 2) (pe_op op_pow pe_int pe_int) (nomark _)) (pv 2) pe_int))) rfl)
    (pss_one (ps_ret (pv 1))))), ?_⟩
    refine fun pm hpm => ?_
    have gn : Go B H B (upd H pm (.dK [])) := (GoF.refl ex).new hpm
    refine (e_call (sp := sp__law_folded K) (dvs := []) (E := E0) (tr := tCons (tVar 0) tNil) (P := fun u B => ∃ p1 cs, u = .ref p1 ∧ B p1 = some (.lst (cs.map V.int)) ∧ Cells cs) (av_cons (v_var rfl) av_nil) fun vs B' e5 e => ?_) B _ (Ex.refl _) gn.sub _ fun v1 B1 H1 g1 ⟨pc, cs, e1, hpc, hC⟩ => ⟨Nat.zero_le _, fun pl hpl => ?_⟩
    · rw [e]
      exact fun B1 H1 a b Q q' E => ⟨B1, p, ns, rfl, (e5.trans a).l hp, hl, b, fun p1 cs B2 H2 g h1 h2 => q' _ B2 H2 g ⟨p1, cs, rfl, h1, h2⟩⟩
    subst e1
    have Bm1 := g1.off pm (ex.none hpm) (by rw [upd_same]; simp)
    have m1 := g1.ex _ _ upd_same
    have nml : pm ≠ pl := fun e => by subst e; rw [m1] at hpl; cases hpl
    have g2 := (gn.trans g1).new hpl (o := .lst [])
    have m2 : upd H1 pl (.lst []) pm = some (.dK []) := by rw [upd_ne nml]; exact m1
    refine ⟨m2, [(.inr "cells", .ref pc), (.inr "great", .ref pl), (.inr "spot", .int 0)], rfl, by show 3 ≤ 15; decide, ?_⟩
    have g3 := g2.mut (l := pm) (o := .dK (mergeK [] [(.inr "cells", .ref pc), (.inr "great", .ref pl), (.inr "spot", .int 0)])) hpm Bm1
    have kc : valV (mergeK [] [(Sum.inr "cells", V.ref pc), (.inr "great", .ref pl), (.inr "spot", .int 0)]) (.inr "cells") = some (.ref pc) := by
      unfold mergeK
      simp only [List.foldl]
      rw [valV_put, if_neg (by decide +kernel), valV_put, if_neg (by decide +kernel), valV_put, if_pos rfl]
    have ks : valV (mergeK [] [(Sum.inr "cells", V.ref pc), (.inr "great", .ref pl), (.inr "spot", .int 0)]) (.inr "spot") = some (vN 0) := by
      unfold mergeK
      simp only [List.foldl]
      rw [valV_put, if_pos rfl]; rfl
    have kg : valV (mergeK [] [(Sum.inr "cells", V.ref pc), (.inr "great", .ref pl), (.inr "spot", .int 0)]) (.inr "great") = some (.ref pl) := by
      unfold mergeK
      simp only [List.foldl]
      rw [valV_put, if_neg (by decide +kernel), valV_put, if_pos rfl]
    have kl : (mergeK [] [(Sum.inr "cells", V.ref pc), (.inr "great", .ref pl), (.inr "spot", .int 0)]).length ≤ 3 := length_mergeK _ _
    generalize mergeK [] [(Sum.inr "cells", V.ref pc), (.inr "great", .ref pl), (.inr "spot", .int 0)] = KV at g3 kc ks kg kl ⊢
    have m3 : upd (upd H1 pl (.lst [])) pm (.dK KV) pm = some (.dK KV) := upd_same
    generalize hHH : upd (upd H1 pl (.lst [])) pm (.dK KV) = HH at g3 m3 ⊢
    dsimp only [gName, tSeq, sDPut]
    refine (f_lcV (wi := iList K (tVar 0)) (te := tIf (tTest (tOp (rI0 fun i j => .bl (decide (j ≤ i))) (tVar 2) (tOp (rI CPow fun i j => .int (i ^ j.toNat)) (tC (.int 10)) (tC (.int 18))))) (tVar 2) (tC (.int 0))) (σ := [some (.ref p), some (.ref pm), none]) (n := ns.length) (j := 2) (vs := [2]) (fun i => vN (if (1000000000000000000 : Int) ≤ ns.getD i 0 then (ns.getD i 0).toNat else 0)) (((i_list (xs := ns.map V.int) (e_var rfl fun B' e => ⟨p, rfl, (g3.up.trans e).l hp⟩)).is (List.length_map _))) hl (fun _ => rfl) (fun i v B' hi e hv => ?_)) B1 HH (Ex.refl _) g3.sub _ fun pg H4 g4 hgn hg4 => ?_
    · rw [List.getElem?_map] at hv
      obtain ⟨c, hc, rfl⟩ := Option.map_eq_some_iff.mp hv
      have hcd : ns.getD i 0 = c := by rw [List.getD_eq_getElem?_getD, hc]; rfl
      rw [hcd]
      refine e_if (b := decide ((1000000000000000000 : Int) ≤ c)) (t_test (v_I0 (g := fun i j => .bl (decide (j ≤ i))) (v_var rfl) (v_I (C := CPow) (g := fun i j => .int (i ^ j.toNat)) (i := 10) (j := 18) ⟨by omega, by omega, by decide⟩ v_c v_c))) (fun z => (v_var rfl).is ?_) (fun z => v_c.is ?_)
      · have z := of_decide_eq_true z
        rw [if_pos z]
        show V.int c = V.int _
        congr 1
        exact (Int.toNat_of_nonneg (by omega)).symm
      · rw [if_neg (of_decide_eq_false z)]; rfl
    have m4 := g4.ex _ _ m3
    refine ⟨.ref pm, rfl, pm, _, rfl, .inl ⟨KV, .inr "great", m4, rfl, Nat.lt_of_le_of_lt (by omega : KV.length ≤ 100) (by decide), rfl⟩, ?_⟩
    have g44 := g3.trans g4
    have g5 := g44.mut (l := pm) (o := .dK (putK KV (.inr "great") (.ref pg))) hpm Bm1
    have H0g : H pg = none := g3.there _ hgn
    have Bg1 : B1 pg = none := g3.sub.none hgn
    have npg : pg ≠ pm := fun e => by subst e; rw [m3] at hgn; cases hgn
    have c4 : H4 pc = some (.lst (cs.map V.int)) := g44.sub _ _ hpc
    have ncm : pc ≠ pm := fun e => by subst e; rw [m4] at c4; cases c4
    have ncg : pc ≠ pg := fun e => by subst e; rw [hpc] at Bg1; cases Bg1
    refine s_ret (Hc := B1) (P := fun u _ => u = .ref pm) (v_var rfl) g5.sub fun y B6 H6 g6 ey => ?_
    subst ey
    have m5 := g6.ex pm _ upd_same
    refine qq pm pg pc B6 H6 (g5.trans g6) (g6.off pm Bm1 (by rw [upd_same]; simp)) (g6.off pg Bg1 (by rw [upd_ne npg, hg4]; simp)) hpm H0g ⟨putK KV (.inr "great") (.ref pg), (List.range ns.length).map (fun i => if (1000000000000000000 : Int) ≤ ns.getD i 0 then (ns.getD i 0).toNat else 0), cs, m5, ?_, ?_, ?_, by rw [putK_len kg]; exact kl, g6.ex _ _ (by rw [upd_ne ncm]; exact c4), hC, g6.ex _ _ (by rw [upd_ne npg, hg4, List.map_map]; rfl), by rw [List.length_map, List.length_range]; exact hl, ncg⟩
    · rw [valV_put, if_neg (by decide +kernel)]; exact kc
    · rw [valV_put, if_pos rfl]
    · rw [valV_put, if_neg (by decide +kernel)]; exact ks
end
end Sk

/-! Law: walked. -/
namespace Sk
open PySem PySem.Spec PyProof.Rows L2
theorem q_s1 {s1 tz : TS} {D : Ends} {σ : L2.St} {H : Hp} (h : s1 { D with nx := tz D } σ H) : tSeq s1 tz D σ H := h
/-- the objects of the tour: new ones, apart from each other -/
structure WAd (H : Hp) (n : Nat) (pr ph pv : Addr) (qs : Nat → Addr) : Prop where
  r : H pr = none
  h : H ph = none
  v : H pv = none
  q : ∀ w, w < n → H (qs w) = none
  rh : pr ≠ ph
  rv : pr ≠ pv
  hv : ph ≠ pv
  qr : ∀ w, w < n → qs w ≠ pr
  qh : ∀ w, w < n → qs w ≠ ph
  qv : ∀ w, w < n → qs w ≠ pv
  inj : ∀ w w', w < n → w' < n → qs w = qs w' → w = w'
structure WHp (H1 : Hp) (n : Nat) (pr ph pv : Addr) (qs : Nat → Addr) (row : List Nat) (held : Nat → List Nat) (kvs : List (Key × V)) : Prop where
  r : H1 pr = some (.lst (row.map vN))
  h : H1 ph = some (.lst ((List.range n).map fun w => V.ref (qs w)))
  v : H1 pv = some (.dK kvs)
  q : ∀ w, w < n → H1 (qs w) = some (.lst ((held w).map vN))
section
variable {H H1 H2 : Hp} {n : Nat} {pr ph pv pm pg pc l : Addr} {qs : Nat → Addr} {row row' : List Nat} {held : Nat → List Nat} {kvs kvs' : List (Key × V)} {s0 s1 : Nat} {o : HO}
theorem WHp.keep (A : WAd H n pr ph pv qs) (W : WHp H1 n pr ph pv qs row held kvs) (e : ∀ b o, H b = none → H1 b = some o → H2 b = some o) : WHp H2 n pr ph pv qs row held kvs :=
  ⟨e _ _ A.r W.r, e _ _ A.h W.h, e _ _ A.v W.v, fun w hw => e _ _ (A.q w hw) (W.q w hw)⟩
theorem WHp.upR (A : WAd H n pr ph pv qs) (W : WHp H1 n pr ph pv qs row held kvs) : WHp (upd H1 pr (.lst (row'.map vN))) n pr ph pv qs row' held kvs :=
  ⟨upd_same, by rw [upd_ne A.rh.symm]; exact W.h, by rw [upd_ne A.rv.symm]; exact W.v, fun w hw => by rw [upd_ne (A.qr w hw)]; exact W.q w hw⟩
theorem WHp.upV (A : WAd H n pr ph pv qs) (W : WHp H1 n pr ph pv qs row held kvs) : WHp (upd H1 pv (.dK kvs')) n pr ph pv qs row held kvs' :=
  ⟨by rw [upd_ne A.rv]; exact W.r, by rw [upd_ne A.hv]; exact W.h, upd_same, fun w hw => by rw [upd_ne (A.qv w hw)]; exact W.q w hw⟩
theorem WHp.upQ (A : WAd H n pr ph pv qs) (W : WHp H1 n pr ph pv qs row held kvs) {a : Nat} {ys : List Nat} (ha : a < n) : WHp (upd H1 (qs a) (.lst (ys.map vN))) n pr ph pv qs row (fun w => if w = a then ys else held w) kvs :=
  ⟨by rw [upd_ne (A.qr a ha).symm]; exact W.r, by rw [upd_ne (A.qh a ha).symm]; exact W.h, by rw [upd_ne (A.qv a ha).symm]; exact W.v, fun w hw => by
    by_cases e : w = a
    · subst e
      rw [upd_same, if_pos rfl]
    · rw [upd_ne fun z => e (A.inj w a hw ha z), if_neg e]; exact W.q w hw⟩
theorem IsM.own (h : IsM H1 pm pg pc s1) (h0 : IsM H pm pg pc s0) (hl : H l = none) : IsM (upd H1 l o) pm pg pc s1 := by
  obtain ⟨sm, sg, sc⟩ := h0.some_
  exact h.keep fun b u hb e => by
    have : b ≠ l := fun z => by
      subst z
      rcases hb with k | k | k
      · rw [k] at hl; exact sm hl
      · rw [k] at hl; exact sg hl
      · rw [k] at hl; exact sc hl
    rw [upd_ne this]; exact e
/-- what is no part of the machine stays -/
theorem GoF.nm {Hc Hd : Hp} (g : GoF (F2 pm pg) Hc H1 Hd H2) (h0 : IsM H pm pg pc s0) : ∀ b u, H b = none → H1 b = some u → H2 b = some u := fun b u hb e => g.keep b u (fun z => by
  obtain ⟨sm, sg, sc⟩ := h0.some_
  rcases z with k | k
  · rw [k] at hb; exact sm hb
  · rw [k] at hb; exact sg hb) e
end
theorem v_dget2 {σ : L2.St} {Hc : Hp} {td ty tx : TE} {a : Addr} {kvs : List (Key × V)} {k : Key} {z : V} (hd : EvV td σ Hc (.ref a)) (hk : Hc a = some (.dK kvs)) (hy : EvV ty σ Hc (kV k)) (hz : EvV tx σ Hc z) : EvV (tDGet2 td ty tx) σ Hc ((valV kvs k).getD z) := fun B H e1 e2 Q q =>
  hd B H e1 e2 _ fun x B1 H1 g1 p1 => ⟨a, p1, .inl ⟨kvs, .inl (g1.sub _ _ (g1.up _ _ (e1 _ _ hk)))⟩, hy B1 H1 (e1.trans g1.up) g1.sub _ fun y B2 H2 g2 p2 => hz B2 H2 (e1.trans (g1.up.trans g2.up)) g2.sub _ fun z' B3 H3 g3 p3 =>
    ⟨valV kvs k, by rw [p2]; exact DGet.k (g3.sub _ _ (g3.up _ _ (g2.up _ _ (g1.up _ _ (e1 _ _ hk))))), by rw [p3]; exact q _ B3 H3 ((g1.trans g2).trans g3) rfl⟩⟩
theorem putK_le {κ : Type} [DecidableEq κ] (kvs : List (κ × V)) (k : κ) (v : V) : (putK kvs k v).length ≤ kvs.length + 1 := by
  unfold putK
  split
  · rw [List.length_map]; omega
  · rw [List.length_append]; exact Nat.le_refl _
/-- [[who] for who in range(n)] -/
theorem w_lists {a : V} {H : Hp} {Q : VK} {n : Nat} (hn : n ≤ 1000)
    (q : ∀ (ph : Addr) (qs : Nat → Addr) (H1 : Hp), Ex H H1 → (∀ b, H1 b = none → H b = none) → H ph = none → (∀ w, w < n → H (qs w) = none ∧ qs w ≠ ph ∧ H1 (qs w) = some (.lst [vN w])) → (∀ w w', w < n → w' < n → qs w = qs w' → w = w') → H1 ph = some (.lst ((List.range n).map fun w => V.ref (qs w))) → Q (.ref ph) H1) :
    tLc (iRng1 (tCons (tVar 1) tNil)) (gName 5) tYes (tLst (tCons (tVar 5) tNil)) [5] [some a, some (vN n), none, none, none, none, none, none, none, none] H Q := by
  refine ⟨vN n, rfl, (n : Int), rfl, by omega, by omega, fun D hD => ?_⟩
  refine ⟨fun i m H' => m = n - i ∧ i ≤ n ∧ ∃ qs : Nat → Addr, Ex H H' ∧ (∀ b, H' b = none → H b = none) ∧ (∀ w, w < i → H (qs w) = none ∧ qs w ≠ D ∧ H' (qs w) = some (.lst [vN w])) ∧ (∀ w w', w < i → w' < i → qs w = qs w' → w = w') ∧ H' D = some (.lst ((List.range i).map fun w => V.ref (qs w))),
    ⟨n, by simp, Nat.zero_le _, fun _ => 0, Ex.new hD, fun b e => (Ex.new hD).none e, fun w hw => absurd hw (Nat.not_lt_zero _), fun w _ hw => absurd hw (Nat.not_lt_zero _), upd_same⟩, ?_⟩
  rintro i m H' ⟨rfl, hin, qs, e0, th, hq, inj, hacc⟩
  by_cases hlt : i < n
  · refine .inr ⟨by show i < (n : Int).toNat; omega, fun H'' => i + 1 ≤ n ∧ ∃ qs : Nat → Addr, Ex H H'' ∧ (∀ b, H'' b = none → H b = none) ∧ (∀ w, w < i + 1 → H (qs w) = none ∧ qs w ≠ D ∧ H'' (qs w) = some (.lst [vN w])) ∧ (∀ w w', w < i + 1 → w' < i + 1 → qs w = qs w' → w = w') ∧ H'' D = some (.lst ((List.range (i + 1)).map fun w => V.ref (qs w))), fun H'' h => ⟨n - (i + 1), by omega, rfl, h⟩, fun x H2 y => ?_⟩
    obtain ⟨e1, e2⟩ := y
    subst e1 e2
    refine ⟨rfl, ?_⟩
    unfold tYes
    show (if true = true then _ else _)
    rw [if_pos rfl]
    refine ⟨.int (0 + (i : Nat)), rfl, Nat.le_of_lt (Nat.lt_of_lt_of_le (by decide : 1 < 2) (by decide : 2 ≤ sizeLine)), fun p hp => ?_⟩
    have npD : p ≠ D := fun z => by rw [z, hacc] at hp; cases hp
    obtain ⟨qs', hqi, hqo⟩ : ∃ qs' : Nat → Addr, qs' i = p ∧ ∀ w, w ≠ i → qs' w = qs w := ⟨fun w => if w = i then p else qs w, if_pos rfl, fun w h => if_neg h⟩
    refine ⟨_, by rw [upd_ne npD.symm]; exact hacc, ?_, hlt, qs', ?_, ?_, ?_, ?_, ?_⟩
    · rw [List.length_map, List.length_range]
      exact Nat.lt_of_le_of_lt (by omega : i ≤ 1000) (by decide)
    · exact fun b o h => by
        have h1 : b ≠ D := fun z => by rw [z, hD] at h; cases h
        rw [upd_ne h1]
        exact Ex.new hp b o (e0 b o h)
    · intro b h
      by_cases h1 : b = D
      · subst h1; exact hD
      · rw [upd_ne h1] at h
        exact th b ((Ex.new hp).none h)
    · intro w hw
      by_cases e : w = i
      · rw [e, hqi]
        refine ⟨th p hp, npD, ?_⟩
        rw [upd_ne npD, upd_same, Int.zero_add]
      · obtain ⟨h1, h2, h3⟩ := hq w (by omega)
        rw [hqo w e]
        exact ⟨h1, h2, by rw [upd_ne h2]; exact Ex.new hp _ _ h3⟩
    · intro w w' hw hw' e
      have np : ∀ u, u < i → qs u ≠ p := fun u hu z => by
        have := (hq u hu).2.2
        rw [z, hp] at this; cases this
      by_cases e1 : w = i
      · by_cases e2 : w' = i
        · omega
        · rw [e1, hqi, hqo w' e2] at e
          exact absurd e.symm (np w' (by omega))
      · by_cases e2 : w' = i
        · rw [e2, hqi, hqo w e1] at e
          exact absurd e (np w (by omega))
        · rw [hqo w e1, hqo w' e2] at e
          exact inj w w' (by omega) (by omega) e
    · rw [upd_same, List.range_succ, List.map_append]
      congr 3
      · refine List.map_congr_left fun w hw => ?_
        have := List.mem_range.mp hw
        rw [hqo w (by omega)]
      · show [V.ref p] = [V.ref (qs' i)]
        rw [hqi]
  · have e : i = n := by omega
    subst e
    exact .inl ⟨by show (i : Int).toNat ≤ i; omega, q D qs H' e0 th hD hq inj hacc⟩
/-- the moved marks -/
def MV (kvs : List (Key × V)) (mv : Nat → Int) : Prop := ∀ y : Nat, valV kvs (.inl (y : Int)) = if mv y = 0 then none else some (.int (mv y))
theorem MV.get {kvs : List (Key × V)} {mv : Nat → Int} (h : MV kvs mv) (y : Nat) (z : Int) : (valV kvs (.inl (y : Int))).getD (.int z) = .int (if mv y = 0 then z else mv y) := by
  rw [h y]
  by_cases e : mv y = 0
  · rw [if_pos e, if_pos e]; rfl
  · rw [if_neg e, if_neg e]; rfl
theorem MV.put {kvs : List (Key × V)} {mv : Nat → Int} (h : MV kvs mv) (t f : Nat) : MV (putK (putK kvs (.inl (t : Int)) (.int 1)) (.inl (f : Int)) (.int (0 - 1))) fun y => if y = f then -1 else if y = t then 1 else mv y := fun y => by
  rw [valV_put, valV_put]
  show _ = if (if y = f then (-1 : Int) else if y = t then 1 else mv y) = 0 then none else some (V.int (if y = f then (-1 : Int) else if y = t then 1 else mv y))
  have e1 : (Sum.inl (y : Int) : Key) = .inl (f : Int) ↔ y = f := ⟨fun e => Int.ofNat.inj (Sum.inl.inj e), fun e => by rw [e]⟩
  have e2 : (Sum.inl (y : Int) : Key) = .inl (t : Int) ↔ y = t := ⟨fun e => Int.ofNat.inj (Sum.inl.inj e), fun e => by rw [e]⟩
  by_cases h1 : y = f
  · rw [if_pos (e1.mpr h1), if_pos h1]; rfl
  · rw [if_neg fun z => h1 (e1.mp z), if_neg h1]
    by_cases h2 : y = t
    · rw [if_pos (e2.mpr h2), if_pos h2]; rfl
    · rw [if_neg fun z => h2 (e2.mp z), if_neg h2]; exact h y
/-- the number of turns -/
theorem w_turns {σ : L2.St} {B H : Hp} {tt : TT} {tm : TE} {R : It → Hp → Prop} {pm pg pc : Addr} {spot n : Nat} (hn : n ≤ 40) (h0 : σ[0]? = some (some (.ref pm))) (ht : EvT tt σ H (decide (1 < n))) (hm : ∀ H', EvV tm σ H' (vN (3 * n))) (hM : IsM H pm pg pc spot) (ex : Ex B H) (Bm : B pm = none) (Bg : B pg = none) (hs : spot < 2 ^ 50)
    (k : ∀ t spot' H1, (0 < t → 1 < n) → t ≤ 120 → GoF (F2 pm pg) B H B H1 → IsM H1 pm pg pc spot' → spot ≤ spot' → spot' ≤ spot + 1 → R (Itr 0 t) H1) :
    iRng1 (tCons (tIf tt (tCall sp__law_draw [] E0 (tCons (tVar 0) (tCons tm tNil))) (tC (.int 0))) tNil) σ H R := by
  refine ht H H (Ex.refl _) (Ex.refl _) _ fun B2 H2 g => ?_
  have g' := g.hid ex
  by_cases h : 1 < n
  · rw [decide_eq_true h, if_pos rfl]
    show tCall sp__law_draw [] E0 (tCons (tVar 0) (tCons tm tNil)) σ H2 _
    refine ⟨.ref pm, h0, hm H2 H2 H2 (Ex.refl _) (Ex.refl _) _ fun v B3 H3 g3 e3 => ?_⟩
    subst e3
    have g3' := g'.trans (g3.hid g'.sub)
    refine ⟨B, pm, pg, pc, spot, 3 * n, rfl, ⟨by omega, by omega⟩, hs, Bm, Bg, hM.keep fun b o _ e => g3'.ex _ _ e, g3'.sub, fun t H4 ht g4 hM4 => ?_⟩
    refine ⟨(t : Int), rfl, by omega, by omega, ?_⟩
    rw [Int.toNat_natCast]
    exact k t (spot + 1) H4 (fun _ => h) (by omega) (g3'.f.trans g4) hM4 (by omega) (by omega)
  · rw [decide_eq_false h, if_neg (by decide)]
    exact ⟨0, rfl, by omega, by omega, k 0 spot H2 (fun z => absurd z (Nat.lt_irrefl _)) (by omega) g'.f (hM.keep fun b o _ e => g'.ex _ _ e) (by omega) (by omega)⟩
def sp__law_walked : Sp := fun vs H Q _ => ∃ (B : Hp) (pm pg pc : Addr) (spot n : Nat), vs = [.ref pm, vN n] ∧ n ≤ 40 ∧ spot + 1000 < 2 ^ 50 ∧ B pm = none ∧ B pg = none ∧ IsM H pm pg pc spot ∧ Ex B H ∧
  ∀ ph (qs : Nat → Addr) (held : Nat → List Nat) spot' H1, GoF (F2 pm pg) B H B H1 → H ph = none → H1 ph = some (.lst ((List.range n).map fun w => V.ref (qs w))) → (∀ w, w < n → H (qs w) = none ∧ H1 (qs w) = some (.lst ((held w).map vN)) ∧ (held w).Nodup ∧ ∀ y ∈ held w, y < n) →
    spot ≤ spot' → spot' ≤ spot + 200 → IsM H1 pm pg pc spot' → Q (.ref ph) H1
section
variable {P : Program} {w₀ : World} {K : PySem.W.Frag} {mg : Str → Option Value} {base : Heap} {C : Addr} (T : Top K mg C)
include T
theorem cal__law_walked : Cal P w₀ K mg base "_law_walked" ["_law_m", "_law_many"] 3 sp__law_walked := by
  refine T.d__law_walked.cal sc__law_walked (fun vs H Q E h => ?_) (fun _ _ _ _ _ _ us hl => match us, hl with | [_, _], _ => rfl) (fun f cdv A outer s H vs Q E hr h => ?_)
  · obtain ⟨B, pm, pg, pc, spot, n, rfl, _⟩ := h
    rfl
  · obtain ⟨B, pm, pg, pc, spot, n, rfl, hn, hsp, Bm, Bg, hM, ex, qq⟩ := h
    have hu := hu_of hr
    refine ⟨_, (pss_cons (ps_par3 (i := 2) (j := 3) (l := 4) (by rfl) sc__law_walked.nd rfl rfl rfl (by decide) (by decide) (by decide) rfl rfl rfl (pa_cons (pe_listRg rfl (by rfl) T.b_list (prg_1 (by rfl) T.b_range (pv 1))) (pa_cons (pe_lc (own := [("_law_who", 5)]) rfl sc__law_walked.nd (pi_range1 (by rfl) T.b_range (pa_cons (pv 1) pa_nil)) (blkOk_by (own := [("_law_who", 5)]) (N := N__law_walked) (sc := defScope s__law_walked) (by decide +kernel)) (fun _ _ _ _ _ => (pg_name (i := 5) sc__law_walked.nd rfl (Or.inl rfl))) (fun _ _ _ _ _ => pts_nil) (fun _ _ _ _ _ => (pe_lst (pa_cons (pv 5) pa_nil)))) (pa_cons pe_dnewK pa_nil))) (by rfl))
    (pss_cons (ps_for PassesOwn.never rfl (pi_range1 (by rfl) T.b_range (pa_cons (pe_ifExp (pt_cmpR op_gt (pv 1) pe_int (nomark _)) ((cal__law_draw T).pe hr (by decide) rfl (pa_cons (pv 0) (pa_cons (pe_op op_mulW pe_int (pv 1)) pa_nil))) pe_int) pa_nil)) (pg_name (i := 6) sc__law_walked.nd rfl (Or.inl rfl))
      (pss_cons (ps_set (i := 7) sc__law_walked.nd rfl (Or.inl rfl) ((cal__law_draw T).pe hr (by decide) rfl (pa_cons (pv 0) (pa_cons (pe_op op_sub (pv 1) pe_int) pa_nil))))
      (pss_cons (ps_par (i := 8) (j := 9) (by rfl) sc__law_walked.nd rfl rfl (by decide) rfl rfl (pa_cons (pe_ix ix_list (pv 2) (pv 7) (fun _ _ => rfl)) (pa_cons (pe_ix ix_list (pv 2) (pe_op op_add (pv 7) pe_int) (fun _ _ => rfl)) pa_nil)) (by rfl))
      (pss_one (ps_if (PW.pt (pw_and (pt_cmpR op_eq (pe_dget2 hu (pv 4) (pv 8) pe_int ⟨rfl, rfl, rfl, rfl⟩) pe_int (nomark _)) (pw_and1 (pt_cmpR op_eq (pe_dget2 hu (pv 4) (pv 9) (pe_op op_sub pe_int pe_int) ⟨rfl, rfl, rfl, rfl⟩) (pe_op op_sub pe_int pe_int) (nomark _))))) (pss_cons (ps_asg (pe_tup (pa_cons pe_int (pa_cons (pe_op op_sub pe_int pe_int) pa_nil))) (pg_tup rfl (pgs_cons (pg_sub (pv 4) (pv 8) (set_dict hu)) (pgs_cons (pg_sub (pv 4) (pv 9) (set_dict hu)) pgs_nil))))
        (pss_cons (ps_asg (pe_tup (pa_cons (pv 9) (pa_cons (pv 8) pa_nil))) (pg_tup rfl (pgs_cons (pg_sub (pv 2) (pv 7) set_list) (pgs_cons (pg_sub (pv 2) (pe_op op_add (pv 7) pe_int) set_list) pgs_nil))))
        (pss_cons (ps_expr (pe_bm PySem.F.plainAttrs_list PySem.F.slot_list_append PySem.F.type_list_append mt_append (pe_ix ix_list (pv 3) (pv 7) (fun _ _ => rfl)) (pa_cons (pv 9) pa_nil)))
        (pss_one (ps_expr (pe_bm PySem.F.plainAttrs_list PySem.F.slot_list_append PySem.F.type_list_append mt_append (pe_ix ix_list (pv 3) (pe_op op_add (pv 7) pe_int) (fun _ _ => rfl)) (pa_cons (pv 8) pa_nil))))))) pss_nil)))))
    (pss_one (ps_ret (pv 3))))), ?_⟩
    refine ⟨vN n, rfl, (n : Int), rfl, RgOk.of_le (by omega) (by omega) (by omega) (by omega), fun pr hpr => ?_⟩
    refine w_lists (by omega) fun ph qs H1 e1 th1 hph hqs inj hac => ?_
    intro pv hpv
    refine ⟨_, _, _, rfl, ?_⟩
    have hrow : rgV 0 (n : Int) = (List.range n).map vN := by
      unfold rgV
      rw [Int.sub_zero, Int.toNat_natCast]
      refine List.map_congr_left fun i _ => ?_
      rw [Int.zero_add]
    rw [hrow] at e1 th1 hph hqs
    have r1 := e1 _ _ (upd_same (H := H) (a := pr) (o := .lst ((List.range n).map vN)))
    have eN : Ex H (upd H pr (.lst ((List.range n).map vN))) := Ex.new hpr
    have A : WAd H n pr ph pv qs := by
      refine ⟨hpr, eN.none hph, (eN.trans e1).none hpv, fun w hw => eN.none (hqs w hw).1, fun z => ?_, fun z => ?_, fun z => ?_, fun w hw z => ?_, fun w hw => (hqs w hw).2.1, fun w hw z => ?_, inj⟩
      · rw [← z, upd_same] at hph; cases hph
      · rw [← z, r1] at hpv; cases hpv
      · rw [← z, hac] at hpv; cases hpv
      · have := (hqs w hw).1
        rw [z, upd_same] at this; cases this
      · have := (hqs w hw).2.2
        rw [z, hpv] at this; cases this
    have W0 : WHp (upd H1 pv (.dK [])) n pr ph pv qs (List.range n) (fun w => [w]) [] :=
      ⟨by rw [upd_ne A.rv]; exact r1, by rw [upd_ne A.hv]; exact hac, upd_same, fun w hw => by rw [upd_ne (A.qv w hw)]; exact (hqs w hw).2.2⟩
    have g0 : GoF (F2 pm pg) B H B (upd H1 pv (.dK [])) := GoF.new ⟨Ex.refl _, ex.trans (eN.trans e1), fun b o _ h => e1 _ _ (eN _ _ h), fun b h _ => h, fun b h => eN.none (th1 b h)⟩ hpv
    have M0 : IsM (upd H1 pv (.dK [])) pm pg pc spot := (hM.keep fun b o _ h => e1 _ _ (eN _ _ h)).own hM A.v
    generalize upd H1 pv (.dK []) = H2 at W0 g0 M0 ⊢
    dsimp only
    refine q_s1 ?_
    unfold tFor
    refine w_turns (B := B) (n := n) hn ?_ ?_ ?_ M0 g0.sub Bm Bg (by omega) fun tn s3 H3 htn ht g3 hM3 hs3 hs3' => ?_
    · rfl
    · refine t_test ((v_I0 (g := fun i j => .bl (decide (j < i))) (i := (n : Int)) (j := 1) (v_var rfl) (v_k 1)).is ?_)
      show V.bl _ = V.bl _
      congr 1
      exact decide_eq_decide.mpr (by omega)
    · refine fun H' => (v_mulW (i := 3) (j := (n : Int)) (mulW (a := 2) (b := 6) (by decide) (by omega) (by omega)) (v_k 3) (v_var rfl)).is ?_
      show V.int _ = V.int _
      congr 1
    have W3 := W0.keep A (g3.nm hM)
    have g03 := g0.trans g3
    refine ⟨fun i m σ1 H4 => m = tn - i ∧ i ≤ tn ∧ ∃ (row : List Nat) (held : Nat → List Nat) (kvs : List (Key × V)) (mv : Nat → Int) (spot' : Nat) (s6 s7 s8 s9 : Option V), σ1 = [some (.ref pm), some (vN n), some (.ref pr), some (.ref ph), some (.ref pv), none, s6, s7, s8, s9] ∧ WHp H4 n pr ph pv qs row held kvs ∧ Sw.WInv n row held mv ∧ MV kvs mv ∧ kvs.length ≤ 2 * i ∧ GoF (F2 pm pg) B H B H4 ∧ IsM H4 pm pg pc spot' ∧ s3 ≤ spot' ∧ spot' ≤ s3 + i,
      ⟨tn, by simp, Nat.zero_le _, List.range n, fun w => [w], [], fun _ => 0, s3, _, _, _, _, rfl, W3, Sw.WInv.start n, fun y => rfl, Nat.le_refl _, g03, hM3, Nat.le_refl _, Nat.le_refl _⟩, ?_⟩
    rintro i m σ1 H4 ⟨rfl, hin, row, held, kvs, mv, spot', s6, s7, s8, s9, rfl, W, I, hmv, hkl, gg, hM4, hsp1, hsp2⟩
    by_cases hlt : i < tn
    · have hn1 := htn (by omega)
      refine .inr ⟨by show i < tn; exact hlt, _, fun σ' H' h => ⟨tn - (i + 1), by omega, rfl, hlt, h⟩, fun x H' y => ?_⟩
      obtain ⟨e1, e2⟩ := y
      subst e1
      refine ⟨.ref pm, rfl, vN n, rfl, (n : Int), 1, rfl, rfl, B, pm, pg, pc, spot', n - 1, ?_, ⟨by omega, by omega⟩, by omega, Bm, Bg, hM4, gg.sub, fun a H5 ha g5 hM5 => ?_⟩
      · show [V.ref pm, V.int _] = [V.ref pm, V.int _]
        congr 3
        omega
      have W5 := W.keep A (g5.nm hM)
      have gg5 := gg.trans g5
      have hl0 : a < row.length := by rw [I.len]; omega
      have hl1 : a + 1 < row.length := by rw [I.len]; omega
      have ht : row[a]? = some row[a] := List.getElem?_eq_getElem hl0
      have hf : row[a + 1]? = some row[a + 1] := List.getElem?_eq_getElem hl1
      generalize row[a] = t at ht
      generalize row[a + 1] = f at hf
      have m0 : (row.map vN)[a]? = some (vN t) := by rw [List.getElem?_map, ht]; rfl
      have m1 : (row.map vN)[a + 1]? = some (vN f) := by rw [List.getElem?_map, hf]; rfl
      refine ⟨.ref pr, rfl, vN a, rfl, pr, row.map vN, (a : Int), vN t, rfl, rfl, sl_of W5.r, atI_nat m0, .ref pr, rfl, vN a, rfl, (a : Int), 1, rfl, rfl, pr, row.map vN, ((a + 1 : Nat) : Int), vN f, rfl, rfl, sl_of W5.r, atI_nat m1, vN t, vN f, rfl, ?_⟩
      have k0 := hmv.get t 1
      have k1 := hmv.get f (0 - 1)
      have d1 := v_dget2 (σ := [some (.ref pm), some (vN n), some (.ref pr), some (.ref ph), some (.ref pv), none, some x, some (vN a), some (vN t), some (vN f)]) (td := tVar 4) (ty := tVar 8) (tx := tC (.int 1)) (z := .int 1) (k := .inl (t : Int)) (v_var rfl) W5.v (v_var rfl) (v_k 1)
      have d2 := v_dget2 (σ := [some (.ref pm), some (vN n), some (.ref pr), some (.ref ph), some (.ref pv), none, some x, some (vN a), some (vN t), some (vN f)]) (td := tVar 4) (ty := tVar 9) (tx := tOp (rI0 fun i j => .int (i - j)) (tC (.int 0)) (tC (.int 1))) (z := .int (0 - 1)) (k := .inl (f : Int)) (v_var rfl) W5.v (v_var rfl) (v_I0 (v_k 0) (v_k 1))
      rw [k0] at d1
      rw [k1] at d2
      refine s_if (Hc := H5) (t_and (t_test (v_eq d1 (v_k 1) rfl)) (fun _ => t_test (v_eq d2 (v_I0 (v_k 0) (v_k 1)) rfl))) (Ex.refl _) (fun z B6 H6 g6 => ?_) (fun z B6 H6 g6 => ?_)
      · obtain ⟨z1, z2⟩ := Bool.and_eq_true_iff.mp z
        have z1 := V.int.inj (of_decide_eq_true z1)
        have z2 := V.int.inj (of_decide_eq_true z2)
        have mt : mv t ≠ -1 := fun e => by rw [if_neg (by omega)] at z1; omega
        have mf : mv f ≠ 1 := fun e => by rw [if_neg (by omega)] at z2; omega
        have g6' := g6.hid gg5.sub
        have W6 := W5.keep A (g6'.f.nm hM)
        have M6 := hM5.keep fun b o _ e => g6'.ex _ _ e
        have gg6 := gg5.trans g6'.f
        have hl7 : ∀ w, w < n → (held w).length ≤ n := fun w hw => by
          have := Sw.nodup_len (I.row hw).1 (m := List.range n) fun y hy => List.mem_range.mpr ((I.row hw).2 y hy)
          rw [List.length_range] at this
          exact this
        have big : ∀ j : Nat, j ≤ 1000 → j < sizeLine := fun j hj => Nat.lt_of_le_of_lt hj (by decide)
        have kl1 := putK_le kvs (.inl (t : Int)) (.int 1)
        have kl2 := putK_le (putK kvs (.inl (t : Int)) (.int 1)) (.inl (f : Int)) (.int (0 - 1))
        have hI := I.step ht hf mt mf
        have hmv2 := hmv.put t f
        refine ⟨0, 1, rfl, rfl, by decide, fun p1 hp1 => ⟨p1, [.int 1, .int (0 - 1)], rfl, st_of upd_same, rfl, .int 1, _, rfl, .ref pv, rfl, vN t, rfl, pv, _, rfl, DPut.k (k := .inl (t : Int)) (Ex.new hp1 _ _ W6.v) (big _ (by omega)), .int (0 - 1), _, rfl, .ref pv, rfl, vN f, rfl, pv, _, rfl, DPut.k (k := .inl (f : Int)) upd_same (big _ (by omega)), rfl, ?_⟩⟩
        have W7 := ((W6.keep A fun b o _ h => Ex.new (o := .tup [.int 1, .int (0 - 1)]) hp1 b o h).upV (kvs' := putK kvs (.inl (t : Int)) (.int 1)) A).upV (kvs' := putK (putK kvs (.inl (t : Int)) (.int 1)) (.inl (f : Int)) (.int (0 - 1))) A
        have M7 := ((M6.keep fun b o _ h => Ex.new (o := .tup [.int 1, .int (0 - 1)]) hp1 b o h).own (o := .dK (putK kvs (.inl (t : Int)) (.int 1))) hM A.v).own (o := .dK (putK (putK kvs (.inl (t : Int)) (.int 1)) (.inl (f : Int)) (.int (0 - 1)))) hM A.v
        have gg7 := ((gg6.new (o := .tup [.int 1, .int (0 - 1)]) hp1).mut (o := .dK (putK kvs (.inl (t : Int)) (.int 1))) A.v (ex.none A.v)).mut (o := .dK (putK (putK kvs (.inl (t : Int)) (.int 1)) (.inl (f : Int)) (.int (0 - 1)))) A.v (ex.none A.v)
        generalize upd (upd (upd H6 p1 (.tup [.int 1, .int (0 - 1)])) pv (.dK (putK kvs (.inl (t : Int)) (.int 1)))) pv (.dK (putK (putK kvs (.inl (t : Int)) (.int 1)) (.inl (f : Int)) (.int (0 - 1)))) = H7 at W7 M7 gg7 ⊢
        generalize putK (putK kvs (.inl (t : Int)) (.int 1)) (.inl (f : Int)) (.int (0 - 1)) = kv2 at W7 hmv2 kl2
        have ix0 : ixN (row.map vN).length (a : Int) = some a := by unfold ixN; rw [List.length_map, if_pos (by omega), if_pos (by omega)]; rfl
        have ix1 : ixN ((row.map vN).set a (vN f)).length ((a + 1 : Nat) : Int) = some (a + 1) := by unfold ixN; rw [List.length_set, List.length_map, if_pos (by omega), if_pos (by omega)]; rfl
        have hset : ((row.map vN).set a (vN f)).set (a + 1) (vN t) = (Sw.stepRow row a t f).map vN := by
          unfold Sw.stepRow
          rw [List.map_set, List.map_set]
        refine ⟨vN f, rfl, vN t, rfl, (by decide : 2 ≤ sizeLine), fun p2 hp2 => ⟨p2, [vN f, vN t], rfl, st_of upd_same, rfl, vN f, _, rfl, .ref pr, rfl, vN a, rfl, pr, row.map vN, (a : Int), a, rfl, rfl, Ex.new hp2 _ _ W7.r, ix0, vN t, _, rfl, .ref pr, rfl, vN a, rfl, (a : Int), 1, rfl, rfl, pr, (row.map vN).set a (vN f), ((a + 1 : Nat) : Int), a + 1, rfl, rfl, upd_same, ix1, rfl, ?_⟩⟩
        rw [hset, ← List.map_set]
        have W8 := ((W7.keep A fun b o _ h => Ex.new (o := .tup [vN f, vN t]) hp2 b o h).upR (row' := row.set a f) A).upR (row' := Sw.stepRow row a t f) A
        have M8 := ((M7.keep fun b o _ h => Ex.new (o := .tup [vN f, vN t]) hp2 b o h).own (o := .lst ((row.set a f).map vN)) hM A.r).own (o := .lst ((Sw.stepRow row a t f).map vN)) hM A.r
        have gg8 := ((gg7.new (o := .tup [vN f, vN t]) hp2).mut (o := .lst ((row.set a f).map vN)) A.r (ex.none A.r)).mut (o := .lst ((Sw.stepRow row a t f).map vN)) A.r (ex.none A.r)
        generalize upd (upd (upd H7 p2 (.tup [vN f, vN t])) pr (.lst ((row.set a f).map vN))) pr (.lst ((Sw.stepRow row a t f).map vN)) = H8 at W8 M8 gg8 ⊢
        have han : a < n := by omega
        have han1 : a + 1 < n := by omega
        have q0 : ((List.range n).map fun w => V.ref (qs w))[a]? = some (.ref (qs a)) := by rw [List.getElem?_map, List.getElem?_range han]; rfl
        have q1 : ((List.range n).map fun w => V.ref (qs w))[a + 1]? = some (.ref (qs (a + 1))) := by rw [List.getElem?_map, List.getElem?_range han1]; rfl
        refine ⟨.ref ph, rfl, vN a, rfl, ph, _, (a : Int), .ref (qs a), rfl, rfl, sl_of W8.h, atI_nat q0, .inl ⟨rfl, _, sl_of (W8.q a han)⟩, vN f, rfl, qs a, (held a).map vN, vN f, rfl, rfl, W8.q a han, big _ (by rw [List.length_map]; have := hl7 a han; omega), ?_⟩
        have e8 : (held a).map vN ++ [vN f] = (held a ++ [f]).map vN := by rw [List.map_append]; rfl
        rw [e8]
        have W9 := W8.upQ A (ys := held a ++ [f]) han
        have M9 := M8.own (o := .lst ((held a ++ [f]).map vN)) hM (A.q a han)
        have gg9 := gg8.mut (o := .lst ((held a ++ [f]).map vN)) (A.q a han) (ex.none (A.q a han))
        generalize upd H8 (qs a) (.lst ((held a ++ [f]).map vN)) = H9 at W9 M9 gg9 ⊢
        have h9 := W9.q (a + 1) han1
        rw [if_neg (by omega)] at h9
        refine ⟨.ref ph, rfl, vN a, rfl, (a : Int), 1, rfl, rfl, ph, _, ((a + 1 : Nat) : Int), .ref (qs (a + 1)), rfl, rfl, sl_of W9.h, atI_nat q1, .inl ⟨rfl, _, sl_of h9⟩, vN t, rfl, qs (a + 1), (held (a + 1)).map vN, vN t, rfl, rfl, h9, big _ (by rw [List.length_map]; have := hl7 (a + 1) han1; omega), ?_⟩
        have e9 : (held (a + 1)).map vN ++ [vN t] = (held (a + 1) ++ [t]).map vN := by rw [List.map_append]; rfl
        rw [e9]
        have W10 := W9.upQ A (ys := held (a + 1) ++ [t]) han1
        refine ⟨_, _, kv2, _, spot' + 1, _, _, _, _, rfl, ⟨W10.r, W10.h, W10.v, fun w hw => ?_⟩, hI, hmv2, by omega, gg9.mut (o := .lst ((held (a + 1) ++ [t]).map vN)) (A.q _ han1) (ex.none (A.q _ han1)), M9.own hM (A.q _ han1), by omega, by omega⟩
        rw [W10.q w hw]
        congr 3
        by_cases w1 : w = a + 1
        · rw [if_pos w1, if_neg (by omega), if_pos w1]
        · rw [if_neg w1]
          by_cases w0 : w = a
          · rw [if_pos w0, if_pos w0]
          · rw [if_neg w0, if_neg w0, if_neg w1]
      · have g6' := g6.hid gg5.sub
        exact ⟨row, held, kvs, mv, spot' + 1, _, _, _, _, rfl, W5.keep A (g6'.f.nm hM), I, hmv, by omega, gg5.trans g6'.f, hM5.keep fun b o _ e => g6'.ex _ _ e, by omega, by omega⟩
    · have e : i = tn := by omega
      subst e
      refine .inl ⟨by show i ≤ i; exact Nat.le_refl _, ?_⟩
      exact ⟨.ref ph, rfl, qq ph qs held spot' H4 gg A.h W.h (fun w hw => ⟨A.q w hw, W.q w hw, I.row hw⟩) (by omega) (by omega) hM4⟩
end
end Sk

/-! Law: lists. -/
namespace Sk
open PySem PySem.Spec PyProof.Rows L2
def sp__law_lists : Sp := fun vs H Q _ => ∃ (B : Hp) (pm pg pc : Addr) (spot n : Nat), vs = [.ref pm, vN n] ∧ (1 ≤ n ∧ n ≤ 40) ∧ spot + 10000 < 2 ^ 50 ∧ B pm = none ∧ B pg = none ∧ IsM H pm pg pc spot ∧ Ex B H ∧
  ∀ v (R : List (List Nat)) spot' B1 H1, GoF (F2 pm pg) B H B1 H1 → IsRkF B1 v R → Rkg n R → spot ≤ spot' → spot' ≤ spot + 10000 → IsM H1 pm pg pc spot' → Q v H1
section
variable {K : PySem.W.Frag} {B H : Hp} {D : Ends} {tz : TS} {pm pg pc : Addr} {spot way : Nat} {v1 v3 v4 v5 v6 v8 : V} {s7 s9 s10 : Option V}
/-- way 0, and way 3 one time in five, mix the list up -/
theorem q_cond {p2 : Addr} {xs : List Nat} (hM : IsM H pm pg pc spot) (ex : Ex B H) (Bm : B pm = none) (Bg : B pg = none) (hs : spot + 101 < 2 ^ 50) (np : ¬ F2 pm pg p2) (h2 : H p2 = some (.lst (xs.map vN))) (hx : xs.length ≤ 100)
    (k : ∀ p3 (ls : List Nat) spot' H1, GoF (F2 pm pg) B H B H1 → ¬ F2 pm pg p3 → H1 p3 = some (.lst (ls.map vN)) → ls.Perm xs → IsM H1 pm pg pc spot' → spot ≤ spot' → spot' ≤ spot + 1 + xs.length → tz D [some (.ref pm), some v1, some (vN way), some v3, some v4, some v5, some v6, s7, some (.ref p3), s9, s10] H1) :
    tSeq (tIfS (tOr (tTest (tOp rEq (tVar 2) (tC (.int 0)))) (tAnd (tTest (tOp rEq (tVar 2) (tC (.int 3)))) (tTest (tOp rEq (tCall sp__law_draw [] E0 (tCons (tVar 0) (tCons (tC (.int 5)) tNil))) (tC (.int 0)))))) (tAsg (tCall sp__law_mixed_up [] E0 (tCons (tVar 0) (tCons (tVar 8) tNil))) (gName 8)) tNext) tz D
      [some (.ref pm), some v1, some (vN way), some v3, some v4, some v5, some v6, s7, some (.ref p2), s9, s10] H := by
  have mix : ∀ spot1 H1, GoF (F2 pm pg) B H B H1 → IsM H1 pm pg pc spot1 → spot ≤ spot1 → spot1 ≤ spot + 1 → tAsg (tCall sp__law_mixed_up [] E0 (tCons (tVar 0) (tCons (tVar 8) tNil))) (gName 8) { D with nx := tz D } [some (.ref pm), some v1, some (vN way), some v3, some v4, some v5, some v6, s7, some (.ref p2), s9, s10] H1 := fun spot1 H1 g1 hM1 a b =>
    ⟨.ref pm, rfl, .ref p2, rfl, B, pm, pg, pc, p2, spot1, xs, rfl, g1.keep _ _ np h2, hx, by omega, Bm, Bg, hM1, g1.sub, fun p ys H2 g2 hp hp2 perm hM2 => k p ys (spot1 + xs.length) H2 (g1.trans g2) (fun z => by
      obtain ⟨sm, sg, _⟩ := hM1.some_
      rcases z with e | e
      · rw [e] at hp; exact sm hp
      · rw [e] at hp; exact sg hp) hp2 perm hM2 (by omega) (by omega)⟩
  have skip : ∀ spot1 H1, GoF (F2 pm pg) B H B H1 → IsM H1 pm pg pc spot1 → spot ≤ spot1 → spot1 ≤ spot + 1 → tz D [some (.ref pm), some v1, some (vN way), some v3, some v4, some v5, some v6, s7, some (.ref p2), s9, s10] H1 := fun spot1 H1 g1 hM1 a b =>
    k p2 xs spot1 H1 g1 np (g1.keep _ _ np h2) (List.Perm.refl _) hM1 a (by omega)
  have ne : ∀ {a : Nat} {z : Int}, (a : Int) ≠ z → decide ((vN a : V) = .int z) = false := fun h => decide_eq_false fun e => h (V.int.inj e)
  refine ⟨vN way, rfl, rfl, _, rfl, ?_⟩
  show (if decide (vN way = V.int 0) = true then _ else _)
  by_cases w0 : way = 0
  · subst w0
    rw [if_pos (by decide)]
    exact mix spot H (GoF.refl ex) hM (Nat.le_refl _) (by omega)
  · rw [if_neg (by rw [ne (by omega)]; decide)]
    refine ⟨vN way, rfl, rfl, _, rfl, ?_⟩
    show (if decide (vN way = V.int 3) = true then _ else _)
    by_cases w3 : way = 3
    · subst w3
      rw [if_pos (by decide)]
      refine ⟨.ref pm, rfl, B, pm, pg, pc, spot, 5, rfl, ⟨by omega, by omega⟩, by omega, Bm, Bg, hM, ex, fun j H1 hj g1 hM1 => ⟨rfl, _, rfl, ?_⟩⟩
      show (if decide (vN j = V.int 0) = true then _ else _)
      by_cases j0 : j = 0
      · subst j0
        rw [if_pos (by decide)]
        exact mix (spot + 1) H1 g1 hM1 (by omega) (by omega)
      · rw [if_neg (by rw [ne (by omega)]; decide)]
        exact skip (spot + 1) H1 g1 hM1 (by omega) (by omega)
    · rw [if_neg (by rw [ne (by omega)]; decide)]
      exact skip spot H (GoF.refl ex) hM (Nat.le_refl _) (by omega)
/-- way 1 cuts anywhere, the others at the end -/
theorem q_cut {p6 : Addr} {xs : List Nat} (hM : IsM H pm pg pc spot) (ex : Ex B H) (Bm : B pm = none) (Bg : B pg = none) (hs : spot + 1 < 2 ^ 50) (h6 : H p6 = some (.lst (xs.map vN))) (hx : xs.length ≤ 100)
    (k : ∀ (c : Nat) spot' H1, c ≤ xs.length → GoF (F2 pm pg) B H B H1 → IsM H1 pm pg pc spot' → spot ≤ spot' → spot' ≤ spot + 1 → tz D [some (.ref pm), some v1, some (vN way), some v3, some v4, some v5, some (.ref p6), s7, some v8, some (vN c), s10] H1) :
    tSeq (tAsg (tIf (tTest (tOp rEq (tVar 2) (tC (.int 1)))) (tCall sp__law_draw [] E0 (tCons (tVar 0) (tCons (tOp rAdd (tCB (rLenS K) (tCons (tVar 6) tNil)) (tC (.int 1))) tNil))) (tCB (rLenS K) (tCons (tVar 6) tNil))) (gName 9)) tz D
      [some (.ref pm), some v1, some (vN way), some v3, some v4, some v5, some (.ref p6), s7, some v8, s9, s10] H := by
  have ne : ∀ {a : Nat} {z : Int}, (a : Int) ≠ z → decide ((vN a : V) = .int z) = false := fun h => decide_eq_false fun e => h (V.int.inj e)
  refine ⟨vN way, rfl, rfl, _, rfl, ?_⟩
  show (if decide (vN way = V.int 1) = true then _ else _)
  by_cases w1 : way = 1
  · subst w1
    rw [if_pos (by decide)]
    refine ⟨.ref pm, rfl, .ref p6, rfl, p6, xs.map vN, rfl, .inl (sl_of h6), ((xs.map vN).length : Nat), 1, rfl, rfl, B, pm, pg, pc, spot, xs.length + 1, ?_, ⟨by omega, by omega⟩, by omega, Bm, Bg, hM, ex, fun j H1 hj g1 hM1 => k j (spot + 1) H1 (by omega) g1 hM1 (by omega) (by omega)⟩
    rw [List.length_map]; rfl
  · rw [if_neg (by rw [ne (by omega)]; decide)]
    refine ⟨.ref p6, rfl, p6, xs.map vN, rfl, .inl (sl_of h6), ?_⟩
    rw [List.length_map]
    exact k xs.length spot H (Nat.le_refl _) (GoF.refl ex) hM (Nat.le_refl _) (by omega)
end
theorem flat_vN (l : List Nat) : (l.map vN).all flatV = true := List.all_eq_true.mpr fun z hz => by
  obtain ⟨y, _, rfl⟩ := List.mem_map.mp hz
  rfl
theorem perm_cut {n c : Nat} {held rest liked : List Nat} (hn : held.Nodup) (hl : ∀ y ∈ held, y < n) (pr : rest.Perm ((List.range n).filter fun k => decide (k ∉ held))) (pl : liked.Perm held) : (rest.drop c ++ liked ++ rest.take c).length = n ∧ (rest.drop c ++ liked ++ rest.take c).Nodup ∧ ∀ k ∈ rest.drop c ++ liked ++ rest.take c, k < n := by
  have p1 : (rest.drop c ++ liked ++ rest.take c).Perm (rest ++ liked) := by
    have h1 : (rest.drop c ++ liked ++ rest.take c).Perm (rest.take c ++ (rest.drop c ++ liked)) := List.perm_append_comm
    rw [← List.append_assoc, List.take_append_drop] at h1
    exact h1
  have p2 : (rest ++ liked).Perm (((List.range n).filter fun k => decide (k ∉ held)) ++ held) := List.Perm.append pr pl
  have p3 : held.Perm ((List.range n).filter fun k => decide (k ∈ held)) := (List.perm_ext_iff_of_nodup hn (List.nodup_range.filter _)).mpr fun a => by
    rw [List.mem_filter, List.mem_range, decide_eq_true_eq]
    exact ⟨fun h => ⟨hl a h, h⟩, fun h => h.2⟩
  have p4 : (((List.range n).filter fun k => decide (k ∈ held)) ++ ((List.range n).filter fun k => !decide (k ∈ held))).Perm (List.range n) := List.filter_append_perm _ _
  have p5 : ((List.range n).filter fun k => decide (k ∉ held)) = ((List.range n).filter fun k => !decide (k ∈ held)) := by
    congr 1
    funext k
    by_cases h : k ∈ held
    · rw [decide_eq_true h, decide_eq_false (fun z => z h)]; rfl
    · rw [decide_eq_false h, decide_eq_true h]; rfl
  have p6 : (rest.drop c ++ liked ++ rest.take c).Perm (List.range n) := by
    refine p1.trans (p2.trans ?_)
    rw [p5]
    exact (List.Perm.append_left _ p3).trans (List.perm_append_comm.trans p4)
  exact ⟨by rw [p6.length_eq, List.length_range], p6.nodup_iff.mpr List.nodup_range, fun k h => List.mem_range.mp (p6.mem_iff.mp h)⟩
section
variable {P : Program} {w₀ : World} {K : PySem.W.Frag} {mg : Str → Option Value} {base : Heap} {C : Addr} (T : Top K mg C)
include T
theorem cal__law_lists : Cal P w₀ K mg base "_law_lists" ["_law_m", "_law_many"] 4 sp__law_lists := by
  refine T.d__law_lists.cal sc__law_lists (fun vs H Q E h => ?_) (fun _ _ _ _ _ _ us hl => match us, hl with | [_, _], _ => rfl) (fun f cdv A outer s H vs Q E hr h => ?_)
  · obtain ⟨B, pm, pg, pc, spot, n, rfl, _⟩ := h
    rfl
  · obtain ⟨B, pm, pg, pc, spot, n, rfl, ⟨n1, n40⟩, hsp, Bm, Bg, hM, ex, qq⟩ := h
    refine ⟨_, (pss_cons (ps_asg (pe_tup (pa_cons ((cal__law_draw T).pe hr (by decide) rfl (pa_cons (pv 0) (pa_cons pe_int pa_nil))) (pa_cons ((cal__law_walked T).pe hr (by decide) rfl (pa_cons (pv 0) (pa_cons (pv 1) pa_nil))) (pa_cons (pe_lst pa_nil) pa_nil)))) (pg_tup rfl (pgs_cons (pg_name (i := 2) sc__law_lists.nd rfl (Or.inl rfl)) (pgs_cons (pg_name (i := 3) sc__law_lists.nd rfl (by first | exact Or.inl rfl | exact Or.inr rfl)) (pgs_cons (pg_name (i := 4) sc__law_lists.nd rfl (Or.inl rfl)) pgs_nil)))))
    (pss_cons (ps_for PassesOwn.never rfl (pi_range1 (by rfl) T.b_range (pa_cons (pv 1) pa_nil)) (pg_name (i := 5) sc__law_lists.nd rfl (by first | exact Or.inl rfl | exact Or.inr rfl))
      (pss_cons (ps_set (i := 6) sc__law_lists.nd rfl (Or.inl rfl) ((cal__law_mixed_up T).pe hr (by decide) rfl (pa_cons (pv 0) (pa_cons (pe_lc (te := tVar 7) (tt := tTest (tOp (rIn K true) (tVar 7) (tOp (rIxL K) (tVar 3) (tVar 5)))) (own := [("_law_thing", 7)]) rfl sc__law_lists.nd (pi_range1 (by rfl) T.b_range (pa_cons (pv 1) pa_nil)) (blkOk_by (own := [("_law_thing", 7)]) (N := N__law_lists) (sc := defScope s__law_lists) (by decide +kernel)) (fun _ _ _ _ _ => (pg_name (i := 7) sc__law_lists.nd rfl (Or.inl rfl))) (fun _ _ _ _ _ => (pts_one (pt_cmpR op_notIn_seq (pv 7) (pe_ix ix_list (pv 3) (pv 5) (fun _ _ => rfl)) (by rfl)))) (fun _ _ _ _ _ => (pv 7))) pa_nil))))
      (pss_cons (ps_set (i := 8) sc__law_lists.nd rfl (Or.inl rfl) (pe_revL (pe_ix ix_list (pv 3) (pv 5) (fun _ _ => rfl))))
      (pss_cons (ps_if (PW.pt (pw_or (pt_cmpR op_eq (pv 2) pe_int (nomark _)) (pw_or1 (PW.pt (pw_and (pt_cmpR op_eq (pv 2) pe_int (nomark _)) (pw_and1 (pt_cmpR op_eq ((cal__law_draw T).pe hr (by decide) rfl (pa_cons (pv 0) (pa_cons pe_int pa_nil))) pe_int (nomark _)))))))) (pss_one (ps_set (i := 8) sc__law_lists.nd rfl (Or.inl rfl) ((cal__law_mixed_up T).pe hr (by decide) rfl (pa_cons (pv 0) (pa_cons (pv 8) pa_nil))))) pss_nil)
      (pss_cons (ps_set (i := 9) sc__law_lists.nd rfl (Or.inl rfl) (pe_ifExp (pt_cmpR op_eq (pv 2) pe_int (nomark _)) ((cal__law_draw T).pe hr (by decide) rfl (pa_cons (pv 0) (pa_cons (pe_op op_add (pe_callB call_len_seq (by rfl) T.b_len PySem.boot_len (pa_cons (pv 6) pa_nil)) pe_int) pa_nil))) (pe_callB call_len_seq (by rfl) T.b_len PySem.boot_len (pa_cons (pv 6) pa_nil))))
      (pss_cons (ps_set (i := 10) sc__law_lists.nd rfl (Or.inl rfl) (pe_op op_cat (pe_op op_cat (pe_slice sl_list (pv 6) (po_some (pv 9)) po_none) (pv 8)) (pe_slice sl_list (pv 6) po_none (po_some (pv 9)))))
      (pss_one (ps_expr (pe_bm PySem.F.plainAttrs_list PySem.F.slot_list_append PySem.F.type_list_append mt_append (pv 4) (pa_cons (pe_callTy call_tuple_ofF (by rfl) T.b_tuple (by decide +kernel) (pa_cons (pv 10) pa_nil)) pa_nil))))))))))
    (pss_one (ps_ret (pe_callTy call_tuple_of (by rfl) T.b_tuple (by decide +kernel) (pa_cons (pv 4) pa_nil)))))), ?_⟩
    obtain ⟨sm, sg, sc⟩ := hM.some_
    refine ⟨.ref pm, rfl, B, pm, pg, pc, spot, 4, rfl, ⟨by omega, by omega⟩, by omega, Bm, Bg, hM, ex, fun way H1 hway g1 hM1 => ?_⟩
    refine ⟨.ref pm, rfl, vN n, rfl, B, pm, pg, pc, spot + 1, n, rfl, n40, by omega, Bm, Bg, hM1, g1.sub, fun ph qs held s2 H2 g2 hph hac hq hs1 hs2 hM2 => ?_⟩
    refine ⟨by decide, fun pf hpf => ⟨(by decide : 3 ≤ sizeLine), fun pt hpt => ⟨pt, [vN way, .ref ph, .ref pf], rfl, st_of upd_same, rfl, _, _, rfl, _, _, rfl, _, _, rfl, rfl, ?_⟩⟩⟩
    have g12 := g1.trans g2
    have hpf0 : H pf = none := g12.there _ hpf
    have nph : ph ≠ pf := fun e => by rw [← e, hac] at hpf; cases hpf
    have ntf : pt ≠ pf := fun e => by rw [e, upd_same] at hpt; cases hpt
    have nth : pt ≠ ph := fun e => by rw [e, upd_ne nph, hac] at hpt; cases hpt
    have g3 : GoF (F2 pm pg) B H B (upd (upd H2 pf (.lst [])) pt (.tup [vN way, .ref ph, .ref pf])) := (g12.new hpf).new hpt
    have e3 : Ex H2 (upd (upd H2 pf (.lst [])) pt (.tup [vN way, .ref ph, .ref pf])) := (Ex.new hpf).trans (Ex.new hpt)
    have f3 : upd (upd H2 pf (.lst [])) pt (.tup [vN way, .ref ph, .ref pf]) pf = some (.lst []) := by rw [upd_ne ntf.symm, upd_same]
    have M3 : IsM (upd (upd H2 pf (.lst [])) pt (.tup [vN way, .ref ph, .ref pf])) pm pg pc s2 := hM2.keep fun b o _ h => e3 b o h
    generalize upd (upd H2 pf (.lst [])) pt (.tup [vN way, .ref ph, .ref pf]) = H3 at g3 e3 f3 M3 ⊢
    have hph0 : H ph = none := g1.there _ hph
    have hq0 : ∀ w, w < n → H (qs w) = none := fun w hw => g1.there _ (hq w hw).1
    refine ⟨vN n, rfl, (n : Int), rfl, by omega, by omega, ?_⟩
    rw [Int.toNat_natCast]
    refine ⟨fun i m σ1 H4 => m = n - i ∧ i ≤ n ∧ ∃ (s5 s6 s7 s8 s9 s10 : Option V) (B4 : Hp) (spot' : Nat) (fds : List V) (R : List (List Nat)), σ1 = [some (.ref pm), some (vN n), some (vN way), some (.ref ph), some (.ref pf), s5, s6, s7, s8, s9, s10] ∧ GoF (F2 pm pg) B H B4 H4 ∧
        H4 ph = some (.lst ((List.range n).map fun w => V.ref (qs w))) ∧ (∀ w, w < n → H4 (qs w) = some (.lst ((held w).map vN))) ∧ H4 pf = some (.lst fds) ∧ B4 pf = none ∧ Seq2 (IsRF B4) fds R ∧ R.length = i ∧ (∀ r ∈ R, r.length = n ∧ r.Nodup ∧ ∀ k ∈ r, k < n) ∧ IsM H4 pm pg pc spot' ∧ s2 ≤ spot' ∧ spot' ≤ s2 + 90 * i,
      ⟨n, by simp, Nat.zero_le _, _, _, _, _, _, _, B, s2, [], [], rfl, g3, e3 _ _ hac, fun w hw => e3 _ _ (hq w hw).2.1, f3, ex.none hpf0, Seq2.nil, rfl, fun r hr => absurd hr List.not_mem_nil, M3, Nat.le_refl _, Nat.le_refl _⟩, ?_⟩
    rintro i m σ1 H4 ⟨rfl, hin, s5, s6, s7, s8, s9, s10, B4, spot', fds, R, rfl, gg, hh4, hq4, hf4, Bf4, hfd, hRl, hRr, hM4, hsp1, hsp2⟩
    have Bm4 : B4 pm = none := gg.off pm Bm sm
    have Bg4 : B4 pg = none := gg.off pg Bg sg
    by_cases hlt : i < n
    · refine .inr ⟨by show i < n; exact hlt, _, fun σ' H' h => ⟨n - (i + 1), by omega, rfl, hlt, h⟩, fun x H' y => ?_⟩
      obtain ⟨e1, e2⟩ := y
      subst e1
      have e2 : x = vN i := by rw [e2]; show V.int _ = V.int _; congr 1; omega
      subst e2
      have nodF : ∀ b, H b = none → ¬ F2 pm pg b := fun b hb z => by
        rcases z with e | e
        · rw [e] at hb; exact sm hb
        · rw [e] at hb; exact sg hb
      obtain ⟨_, _, hnd, hbd⟩ := hq i hlt
      have hlen : (held i).length ≤ n := by
        have := Sw.nodup_len hnd (m := List.range n) fun a ha => List.mem_range.mpr (hbd a ha)
        rw [List.length_range] at this
        exact this
      have rowE : ∀ {s6 s7 s8 s9 s10 : Option V} {B' H' : Hp}, H' ph = some (.lst ((List.range n).map fun w => V.ref (qs w))) → Ex H' B' → EvV (tOp (rIxL K) (tVar 3) (tVar 5)) [some (.ref pm), some (vN n), some (vN way), some (.ref ph), some (.ref pf), some (vN i), s6, s7, s8, s9, s10] B' (.ref (qs i)) := fun {s6 s7 s8 s9 s10 B' H'} h e => v_ixL (l_var rfl (e _ _ h)) (v_var rfl) (atI_nat (by rw [List.getElem?_map, List.getElem?_range hlt]; rfl))
      -- rest
      have hL := e_lcV (n := n) (vs := [7]) (j := 7) (te := tVar 7) (tt := tTest (tOp (rIn K true) (tVar 7) (tOp (rIxL K) (tVar 3) (tVar 5)))) (σ := [some (.ref pm), some (vN n), some (vN way), some (.ref ph), some (.ref pf), some (vN i), s6, s7, s8, s9, s10]) (Hc := H')
        (fun k => decide (k ∉ held i)) (fun k => vN k) (i_rng1 (tr := tCons (tVar 1) tNil) (m := n) (av_cons (v_var rfl) av_nil) (by omega)) (by omega) (fun _ => rfl)
        (fun k v B' hk e hv => by
          subst hv
          refine t_test ((v_in (k := true) (v_var rfl) (EvP.ofV (rowE hh4 e) fun B5 e5 => ⟨qs i, rfl, .inl (sl_of ((e.trans e5) _ _ (hq4 i hlt)))⟩) rfl (flat_vN (held i))).is ?_)
          rw [if_pos rfl, inN]
          show V.bl _ = V.bl _
          congr 1
          by_cases hk : k ∈ held i
          · rw [decide_eq_true hk, decide_eq_false (fun z => z hk)]; rfl
          · rw [decide_eq_false hk, decide_eq_true hk]; rfl)
        (fun k v B' hk e hv _ => v_var (by rw [hv]; rfl))
      refine ⟨.ref pm, rfl, hL H' H' (Ex.refl _) (Ex.refl _) _ fun v5 B5 H5 g5 ⟨p5, e5, hp5⟩ => ?_⟩
      subst e5
      have g5' := g5.hid gg.sub
      have gg5 := gg.trans g5'.f
      have hkl : (kept n fun k => decide (k ∉ held i)).length ≤ n := kept_le _ _
      refine ⟨B4, pm, pg, pc, p5, spot', kept n fun k => decide (k ∉ held i), rfl, g5.sub _ _ hp5, by omega, by omega, Bm4, Bg4, hM4.keep fun b o _ h => g5'.ex _ _ h, gg5.sub, fun p6 rest H6 g6 hp6n hp6 hperm hM6 => ?_⟩
      have g46 := g5'.f.trans g6
      have gg6 := gg.trans g46
      have hrl : rest.length ≤ n := by rw [hperm.length_eq]; exact hkl
      have hh6 := g46.keep _ _ (nodF _ hph0) hh4
      have hq6 := g46.keep _ _ (nodF _ (hq0 i hlt)) (hq4 i hlt)
      -- liked
      refine ⟨.ref ph, rfl, vN i, rfl, ph, _, (i : Int), .ref (qs i), rfl, rfl, sl_of hh6, atI_nat (by rw [List.getElem?_map, List.getElem?_range hlt]; rfl), qs i, (held i).map vN, rfl, sl_of hq6, fun p7 hp7 => ?_⟩
      rw [← List.map_reverse]
      have M7 : IsM (upd H6 p7 (.lst ((held i).reverse.map vN))) pm pg pc (spot' + (kept n fun k => decide (k ∉ held i)).length) := hM6.keep fun b o _ h => Ex.new hp7 b o h
      have gg7 := gg6.new (o := .lst ((held i).reverse.map vN)) hp7
      have hp67 : upd H6 p7 (.lst ((held i).reverse.map vN)) p6 = some (.lst (rest.map vN)) := Ex.new hp7 _ _ hp6
      have f7 : upd H6 p7 (.lst ((held i).reverse.map vN)) pf = some (.lst fds) := Ex.new hp7 _ _ (g46.keep _ _ (nodF _ hpf0) hf4)
      have k7 : ∀ b o, H b = none → H' b = some o → upd H6 p7 (.lst ((held i).reverse.map vN)) b = some o := fun b o hb h => Ex.new hp7 _ _ (g46.keep _ _ (nodF _ hb) h)
      refine q_cond (xs := (held i).reverse) M7 gg7.sub Bm4 Bg4 (by omega) (nodF _ (gg6.there _ hp7)) upd_same (by rw [List.length_reverse]; omega) fun p8 liked s8 H8 g8 np8 hp8 perm8 hM8 hs8 hs8' => ?_
      rw [List.length_reverse] at hs8'
      generalize upd H6 p7 (.lst ((held i).reverse.map vN)) = H7 at M7 gg7 hp67 f7 k7 g8
      have n6 := nodF _ (gg5.there _ hp6n)
      refine q_cut (xs := rest) hM8 (gg7.trans g8).sub Bm4 Bg4 (by omega) (g8.keep _ _ n6 hp67) (by omega) fun c s9 H9 hc g9 hM9 hs9 hs9' => ?_
      have g79 := g8.trans g9
      have gg9 := gg7.trans g79
      have h6_9 := g79.keep _ _ n6 hp67
      have h8_9 := g9.keep _ _ np8 hp8
      have hll : liked.length ≤ n := by rw [perm8.length_eq, List.length_reverse]; exact hlen
      refine q_asg (Hc := H9) (e_catL (e_catL (e_slL (l_var rfl h6_9) (o_some (i := (c : Nat)) (v_var rfl)) o_none (cut_drop (by rw [List.length_map]; omega))) (l_var rfl h8_9) (by rw [List.length_drop, List.length_map, List.length_map]; omega)) (e_slL (l_var rfl h6_9) o_none (o_some (i := (c : Nat)) (v_var rfl)) (cut_take (by rw [List.length_map]; omega))) (by rw [List.length_append, List.length_drop, List.length_take, List.length_map, List.length_map]; omega)) (Ex.refl _) fun v10 B10 H10 g10 ⟨p10, e10, hp10⟩ => ?_
      subst e10
      have hp10' := g10.sub _ _ hp10
      rw [← List.map_drop, ← List.map_take, ← List.map_append, ← List.map_append] at hp10'
      have g10' := g10.hid gg9.sub
      have gg10 := gg9.trans g10'.f
      have k10 : ∀ b o, H b = none → H' b = some o → H10 b = some o := fun b o hb h => g10'.ex _ _ (g79.keep _ _ (nodF _ hb) (k7 b o hb h))
      have f10 := k10 _ _ hpf0 hf4
      have hM10 := hM9.keep fun b o _ h => g10'.ex b o h
      obtain ⟨c1, c2, c3⟩ := perm_cut (c := c) hnd hbd hperm (perm8.trans (List.reverse_perm _))
      generalize rest.drop c ++ liked ++ rest.take c = ranked at hp10' c1 c2 c3
      refine ⟨.ref pf, rfl, .inl ⟨rfl, _, sl_of f10⟩, .ref p10, rfl, p10, _, rfl, sl_of hp10', fun l o ho hl => ?_⟩
      have nlf : l ≠ pf := fun e => by rw [e, f10] at hl; cases hl
      refine ⟨pf, fds, .ref l, rfl, rfl, Ex.new hl _ _ f10, Nat.lt_of_le_of_lt (by rw [hfd.len]; omega : _ ≤ 100) (by decide), ?_⟩
      have eB : Ex B4 (upd B4 l (.frz o (.tup (ranked.map vN)))) := Ex.new (gg10.sub.none hl)
      have gz := (gg10.laid (o := .frz o (.tup (ranked.map vN))) hl).mut (l := pf) (o := .lst (fds ++ [.ref l])) hpf0 (by rw [upd_ne nlf.symm]; exact Bf4)
      have k11 : ∀ b u, b ≠ pf → H b = none → H' b = some u → upd (upd H10 l (.frz o (.tup (ranked.map vN)))) pf (.lst (fds ++ [.ref l])) b = some u := fun b u nb hb h => by
        rw [upd_ne nb]; exact Ex.new hl _ _ (k10 b u hb h)
      refine ⟨_, _, _, _, _, _, _, s9, fds ++ [.ref l], R ++ [ranked], rfl, gz, k11 _ _ nph hph0 hh4, fun w hw => k11 _ _ (fun e => ?_) (hq0 w hw) (hq4 w hw), upd_same, by rw [upd_ne nlf.symm]; exact Bf4, (hfd.imp fun _ _ h => h.up eB).snoc ⟨l, rfl, o, ho, upd_same⟩, by rw [List.length_append, hRl]; rfl, fun r hr => ?_, (hM10.keep fun b u _ h => Ex.new hl b u h).own hM hpf0, by omega, by omega⟩
      · have := (hq w hw).2.1
        rw [e, hpf] at this; cases this
      · rcases List.mem_append.mp hr with h | h
        · exact hRr r h
        · rw [List.mem_singleton] at h
          rw [h]; exact ⟨c1, c2, c3⟩
    · have e : i = n := by omega
      subst e
      refine .inl ⟨by show i ≤ i; exact Nat.le_refl _, ?_⟩
      refine ⟨.ref pf, rfl, pf, fds, rfl, .inl ⟨sl_of hf4, fun l hl => ?_⟩⟩
      exact qq (.ref l) R spot' _ _ (gg.laid hl) ⟨l, fds, rfl, upd_same, hfd.imp fun _ _ h => h.up (Ex.new (gg.sub.none hl))⟩ ⟨n1, n40, hRl, hRr⟩ (by omega) (by omega) (hM4.keep fun b o _ h => Ex.new hl b o h)
end
end Sk

/-! Law: moves. -/
namespace Sk
open PySem PySem.Spec PyProof.Rows L2
def sp__law_moves : Sp := fun vs H Q _ => ∃ (B : Hp) (pm pg pc : Addr) (spot n k : Nat) (u hv : V) (R : List (List Nat)), vs = [.ref pm, u, hv, vN k] ∧ IsRkF B u R ∧ Rkg n R ∧ IsRF B hv (List.range n) ∧ k ≤ 1000 ∧ spot + 1000 < 2 ^ 50 ∧ B pm = none ∧ B pg = none ∧ IsM H pm pg pc spot ∧ Ex B H ∧
  ∀ a x hv' (s : List Nat) spot' B1 H1, GoF (F2 pm pg) B H B1 H1 → B1 a = some (.tup [x, hv']) → IsRF B1 hv' (Sw.rowAfter n s) → Sw.Valid n (rkOf R) s → spot ≤ spot' → spot' ≤ spot + 1000 → IsM H1 pm pg pc spot' → Q (.ref a) H1
section
variable {P : Program} {w₀ : World} {K : PySem.W.Frag} {mg : Str → Option Value} {base : Heap} {C : Addr} (T : Top K mg C)
include T
theorem cal__law_moves : Cal P w₀ K mg base "_law_moves" ["_law_m", "_law_lists_here", "_law_row", "_law_many_steps"] 3 sp__law_moves := by
  refine T.d__law_moves.cal sc__law_moves (fun vs H Q E h => ?_) (fun _ _ _ _ _ _ us hl => match us, hl with | [_, _, _, _], _ => rfl) (fun f cdv A outer s H vs Q E hr h => ?_)
  · obtain ⟨B, pm, pg, pc, spot, n, k, u, hv, R, rfl, _⟩ := h
    rfl
  · obtain ⟨B, pm, pg, pc, spot, n, k, u, hv, R, rfl, hR, G, hrow, hk, hsp, Bm, Bg, hM, ex, qq⟩ := h
    have hu := hu_of hr
    have hu0 := hr.units
    have hn := G.le
    have hn1 := G.pos
    refine ⟨_, (pss_cons (ps_set (i := 4) sc__law_moves.nd rfl (Or.inl rfl) (pe_lst pa_nil))
    (pss_cons (ps_for PassesOwn.never rfl (pi_range1 (by rfl) T.b_range (pa_cons (pv 3) pa_nil)) (pg_name (i := 5) sc__law_moves.nd rfl (Or.inl rfl))
      (pss_cons (ps_setLc (i := 6) (own := [("_law_at", 7)]) rfl sc__law_moves.nd rfl rfl (sw_true rfl rfl rfl (by decide +kernel)) (pi_range1 (by rfl) T.b_range (pa_cons (pe_op op_sub (pe_callB call_len_seq (by rfl) T.b_len PySem.boot_len (pa_cons (pv 2) pa_nil)) pe_int) pa_nil)) (blkOk_by (own := [("_law_at", 7)]) (N := N__law_moves) (sc := defScope s__law_moves) (by decide +kernel)) (fun _ _ _ _ _ => (pg_name (i := 7) sc__law_moves.nd rfl (Or.inl rfl))) (fun _ _ _ _ _ => (pts_one (pt_val ((cal__law_may T).pe hr (by decide) rfl (pa_cons (pv 1) (pa_cons (pv 2) (pa_cons (pv 7) pa_nil))))))) (fun _ _ _ _ _ => (pv 7)))
      (pss_one (ps_if (pt_cmpR (op_neD hu0) (pv 6) (pe_lst pa_nil) (nomark _)) (pss_cons (ps_set (i := 7) sc__law_moves.nd rfl (Or.inl rfl) (pe_ix ix_list (pv 6) ((cal__law_draw T).pe hr (by decide) rfl (pa_cons (pv 0) (pa_cons (pe_callB call_len_seq (by rfl) T.b_len PySem.boot_len (pa_cons (pv 6) pa_nil)) pa_nil))) (fun _ _ => rfl)))
        (pss_cons (ps_set (i := 2) sc__law_moves.nd rfl (by first | exact Or.inl rfl | exact Or.inr rfl) ((cal__law_after T).pe hr (by decide) rfl (pa_cons (pv 2) (pa_cons (pv 7) pa_nil))))
        (pss_one (ps_expr (pe_bm PySem.F.plainAttrs_list PySem.F.slot_list_append PySem.F.type_list_append mt_append (pv 4) (pa_cons (pv 7) pa_nil)))))) pss_nil))))
    (pss_one (ps_ret (pe_tup (pa_cons (pe_callTy call_tuple_of (by rfl) T.b_tuple (by decide +kernel) (pa_cons (pv 4) pa_nil)) (pa_cons (pv 2) pa_nil))))))), ?_⟩
    obtain ⟨sm, sg, sc⟩ := hM.some_
    refine ⟨by decide, fun pf hpf => ?_⟩
    have g1 : GoF (F2 pm pg) B H B (upd H pf (.lst [])) := (GoF.refl ex).new hpf
    have M1 : IsM (upd H pf (.lst [])) pm pg pc spot := hM.own hM hpf
    have f1 : upd H pf (.lst []) pf = some (.lst []) := upd_same
    generalize upd H pf (.lst []) = H1 at g1 M1 f1 ⊢
    refine ⟨vN k, rfl, (k : Int), rfl, by omega, by omega, ?_⟩
    rw [Int.toNat_natCast]
    refine ⟨fun i m σ1 H4 => m = k - i ∧ i ≤ k ∧ ∃ (hv s5 s6 s7 : _) (B4 : Hp) (spot' : Nat) (s : List Nat), σ1 = [some (.ref pm), some u, some hv, some (vN k), some (.ref pf), s5, s6, s7] ∧ GoF (F2 pm pg) B H B4 H4 ∧
        H4 pf = some (.lst (s.map vN)) ∧ B4 pf = none ∧ IsRF B4 hv (Sw.rowAfter n s) ∧ Sw.Valid n (rkOf R) s ∧ s.length ≤ i ∧ IsM H4 pm pg pc spot' ∧ spot ≤ spot' ∧ spot' ≤ spot + i,
      ⟨k, by simp, Nat.zero_le _, hv, _, _, _, B, spot, [], rfl, g1, f1, ex.none hpf, hrow, Sw.Valid.nil, Nat.le_refl _, M1, Nat.le_refl _, Nat.le_refl _⟩, ?_⟩
    rintro i m σ1 H4 ⟨rfl, hin, hv, s5, s6, s7, B4, spot', s, rfl, gg, hf4, Bf4, hrow4, hV, hsl, hM4, hsp1, hsp2⟩
    have Bm4 : B4 pm = none := gg.off pm Bm sm
    have Bg4 : B4 pg = none := gg.off pg Bg sg
    by_cases hlt : i < k
    · refine .inr ⟨by show i < k; exact hlt, _, fun σ' H' h => ⟨k - (i + 1), by omega, rfl, hlt, h⟩, fun x H' y => ?_⟩
      obtain ⟨e1, e2⟩ := y
      subst e1
      obtain ⟨pos, hp⟩ := hV.perm
      obtain ⟨pr, rfl, hpr⟩ := hrow4
      generalize hrw : Sw.rowAfter n s = row at hpr hp
      have hrl := hp.len
      have hL := e_lcV (n := n - 1) (vs := [7]) (j := 7) (te := tVar 7) (tt := tB (tCall sp__law_may [] E0 (tCons (tVar 1) (tCons (tVar 2) (tCons (tVar 7) tNil))))) (σ := [some (.ref pm), some u, some (.ref pr), some (vN k), some (.ref pf), some x, s6, s7]) (Hc := B4)
        (fun a => Sw.likes (rkOf R) a (Sw.it row (a + 1)) (Sw.it row a) && Sw.likes (rkOf R) (a + 1) (Sw.it row a) (Sw.it row (a + 1))) (fun a => vN a) (i_rng1 (tr := tCons (tOp (rI0 fun i j => .int (i - j)) (tCB (rLenS K) (tCons (tVar 2) tNil)) (tC (.int 1))) tNil) (m := n - 1) (av_cons (v_subN (k := n - 1) (j := 1) (v_lenS (n := n) (s_var rfl hpr.tr) (by rw [List.length_map]; exact hrl)) v_c (by omega)) av_nil) (by omega)) (by omega) (fun _ => rfl)
        (fun a v B' ha e hv' => t_B (by
          subst hv'
          refine e_call (av_cons (v_var rfl) (av_cons (v_var rfl) (av_cons (v_var rfl) av_nil))) fun vs B5 e5 ev => ?_
          rw [ev]
          exact fun B6 H6 a6 b6 Q q' E => ⟨B6, u, .ref pr, n, a, R, row, rfl, hR.up (gg.up.trans (e.trans (e5.trans a6))), G, ⟨pr, rfl, hpr.up (e.trans (e5.trans a6))⟩, hrl, hp.lt, by omega, b6, fun B7 H7 g => q' _ B7 H7 g rfl⟩))
        (fun a v B' ha e hv' _ => v_var (by rw [hv']; rfl))
      refine q_asg hL gg.sub fun v5 B5 H5 g5 ⟨p5, e5, hp5⟩ => ?_
      subst e5
      have gg5 := gg.trans g5.f
      have hkm : ∀ a ∈ kept (n - 1) (fun a => Sw.likes (rkOf R) a (Sw.it row (a + 1)) (Sw.it row a) && Sw.likes (rkOf R) (a + 1) (Sw.it row a) (Sw.it row (a + 1))), Sw.okStep (rkOf R) row a := fun a ha => by
        obtain ⟨h1, h2⟩ := List.mem_filter.mp ha
        obtain ⟨h3, h4⟩ := Bool.and_eq_true_iff.mp h2
        have h1 := List.mem_range.mp h1
        exact ⟨by rw [hrl]; omega, of_decide_eq_true h3, of_decide_eq_true h4⟩
      have hkl := kept_le (n - 1) (fun a => Sw.likes (rkOf R) a (Sw.it row (a + 1)) (Sw.it row a) && Sw.likes (rkOf R) (a + 1) (Sw.it row a) (Sw.it row (a + 1)))
      generalize kept (n - 1) (fun a => Sw.likes (rkOf R) a (Sw.it row (a + 1)) (Sw.it row a) && Sw.likes (rkOf R) (a + 1) (Sw.it row a) (Sw.it row (a + 1))) = ks at hkm hkl hp5
      have hpr5 := hpr.up g5.up
      have hM5 := hM4.keep fun b o _ h => g5.ex b o h
      have Bm5 := gg5.off pm Bm sm
      have Bg5 := gg5.off pg Bg sg
      have Bf5 := g5.off pf Bf4 (by rw [hf4]; simp)
      have hf5 := g5.ex _ _ hf4
      refine s_if (Hc := B5) (t_test (v_neNilN (xs := ks) (l_var rfl hp5))) gg5.sub (fun z B6 H6 g6 => ?_) (fun z B6 H6 g6 => ?_)
      · have hne : ks ≠ [] := fun e => by rw [e] at z; cases z
        have hl0 : 0 < ks.length := List.length_pos_iff.mpr hne
        have gg6 := gg5.trans g6.f
        have hM6 := hM5.keep fun b o _ h => g6.ex b o h
        have h66 := gg6.sub _ _ (g6.up _ _ hp5)
        refine ⟨.ref p5, rfl, .ref pm, rfl, .ref p5, rfl, p5, ks.map vN, rfl, .inl (sl_of h66), B6, pm, pg, pc, spot', ks.length, by rw [List.length_map]; rfl, ⟨by omega, by omega⟩, by omega, gg6.off pm Bm sm, gg6.off pg Bg sg, hM6, gg6.sub, fun j H7 hj g7 hM7 => ?_⟩
        have hj2 : ks[j]? = some ks[j] := List.getElem?_eq_getElem hj
        have hok := hkm _ (List.getElem_mem hj)
        generalize ks[j] = at' at hj2 hok
        have gg7 := gg6.trans g7
        refine ⟨p5, ks.map vN, (j : Int), vN at', rfl, rfl, sl_of (gg7.sub _ _ (g6.up _ _ hp5)), atI_nat (by rw [List.getElem?_map, hj2]; rfl), ?_⟩
        have hpr6 := hpr5.up g6.up
        refine ⟨.ref pr, rfl, vN at', rfl, B6, at', .ref pr, row, rfl, ⟨pr, rfl, hpr6⟩, hok.1, by omega, gg7.sub, fun v8 B8 H8 g8 h8 => ?_⟩
        have gg8 := gg7.trans g8.f
        have Bf6 := g6.off pf Bf5 (by rw [hf5]; simp)
        have nf : ¬ F2 pm pg pf := fun z => by
          rcases z with e | e
          · rw [e] at hpf; exact sm hpf
          · rw [e] at hpf; exact sg hpf
        have hf7 := g7.keep _ _ nf (g6.ex _ _ hf5)
        have hf8 := g8.ex _ _ hf7
        have Bf8 := g8.off pf Bf6 (by rw [hf7]; simp)
        refine ⟨.ref pf, rfl, .inl ⟨rfl, _, sl_of hf8⟩, vN at', rfl, pf, s.map vN, vN at', rfl, rfl, hf8, Nat.lt_of_le_of_lt (by rw [List.length_map]; omega : _ ≤ 1000) (by decide), ?_⟩
        refine ⟨v8, _, _, _, B8, spot' + 1, s ++ [at'], rfl, gg8.mut (l := pf) (o := .lst (s.map vN ++ [vN at'])) hpf Bf8, by rw [upd_same, List.map_append]; rfl, Bf8, by rw [Sw.rowAfter_snoc, hrw]; exact h8, hV.snoc (by rw [hrw]; exact hok), by rw [List.length_append]; exact Nat.succ_le_succ hsl, (hM7.keep fun b o _ h => g8.ex b o h).own hM hpf, by omega, by omega⟩
      · have gg6 := gg5.trans g6.f
        exact ⟨.ref pr, _, _, _, B6, spot', s, rfl, gg6, g6.ex _ _ hf5, g6.off pf Bf5 (by rw [hf5]; simp), ⟨pr, rfl, by rw [hrw]; exact hpr5.up g6.up⟩, hV, by omega, hM5.keep fun b o _ h => g6.ex b o h, hsp1, by omega⟩
    · have e : i = k := by omega
      subst e
      refine .inl ⟨by show i ≤ i; exact Nat.le_refl _, ?_⟩
      refine ⟨.ref pf, rfl, pf, s.map vN, rfl, .inl ⟨sl_of hf4, fun l hl => ⟨hv, rfl, (by decide : 2 ≤ sizeLine), fun a ha => ?_⟩⟩⟩
      have gl := (gg.laid (o := .tup (s.map vN)) hl)
      exact qq a (.ref l) hv s spot' _ _ (gl.laid ha) upd_same (hrow4.up ((Ex.new (gg.sub.none hl)).trans (Ex.new (gl.sub.none ha)))) hV hsp1 (by omega) ((hM4.keep fun b o _ h => Ex.new hl b o h).keep fun b o _ h => Ex.new ha b o h)
end
end Sk

/-! Law: accepted, right. -/
namespace Sk
open PySem PySem.Spec PyProof.Rows L2
/-- what no one can change -/
def Imm (o : HO) : Prop := (∃ xs, o = .tup xs) ∨ ∃ b u, o = .frz b u
def Kp (H H1 : Hp) : Prop := ∀ b o, Imm o → H b = some o → H1 b = some o
theorem Kp.tup {H H1 : Hp} (k : Kp H H1) {a : Addr} {xs : List V} (h : H a = some (.tup xs)) : H1 a = some (.tup xs) := k a _ (.inl ⟨xs, rfl⟩) h
theorem Kp.ex {H H1 : Hp} (e : Ex H H1) : Kp H H1 := fun b o _ h => e b o h
theorem Kp.extN {H H1 : Hp} (e : LamX.ExtN H H1) : Kp H H1 := fun b o i h => e b o h fun ps z => by
  rcases i with ⟨xs, z'⟩ | ⟨b', u, z'⟩
  · rw [z'] at z; cases z
  · rw [z'] at z; cases z
theorem IsRF.kp {H H' : Hp} {v : V} {r : List Nat} (h : IsRF H v r) (k : Kp H H') : IsRF H' v r := let ⟨a, h1, o, h2, h3⟩ := h; ⟨a, h1, o, h2, k a _ (.inr ⟨_, _, rfl⟩) h3⟩
theorem IsRkF.kp {H H' : Hp} {v : V} {R : List (List Nat)} (h : IsRkF H v R) (k : Kp H H') : IsRkF H' v R := let ⟨a, vs, h1, h2, h3⟩ := h; ⟨a, vs, h1, k.tup h2, h3.imp fun _ _ h => h.kp k⟩
theorem IsRow.kp {H H' : Hp} {v : V} {r : List Nat} (h : IsRow H v r) (k : Kp H H') : IsRow H' v r := let ⟨a, h1, h2⟩ := h; ⟨a, h1, k.tup h2⟩
theorem IsC.kp {H H' : Hp} {v : V} {c : Sw.Ch} (h : IsC H v c) (k : Kp H H') : IsC H' v c := let ⟨a, h1, h2⟩ := h; ⟨a, h1, k.tup h2⟩
theorem IsRsn.kp {n x q w : Nat} {R : List (List Nat)} {B B' : Hp} {r : Addr} (h : IsRsn n x q w R B r) (k : Kp B B') : IsRsn n x q w R B' r := by
  cases h with
  | index h1 h2 => exact .index (k.tup h1) h2
  | walk wp us cs h1 h2 h3 h4 h5 h6 => exact .walk wp us cs (k.tup h1) (k.tup h2) (h3.imp fun _ _ h => h.kp k) h4 h5 h6
theorem IsEnt.kp {n x q w : Nat} {R : List (List Nat)} {B B' : Hp} {u : V} (h : IsEnt n x q R B w u) (k : Kp B B') : IsEnt n x q R B' w u := let ⟨a, r, h1, h2, h3⟩ := h; ⟨a, r, h1, k.tup h2, h3.kp k⟩
theorem IsBlk.kp {n x q : Nat} {R : List (List Nat)} {B B' : Hp} {v : V} (h : IsBlk n x q R B v) (k : Kp B B') : IsBlk n x q R B' v := let ⟨bp, us, h1, h2, h3, h4⟩ := h; ⟨bp, us, h1, k.tup h2, h3, fun i u h => (h4 i u h).kp k⟩
theorem AAns.kp {n x q : Nat} {R : List (List Nat)} {B B' : Hp} {u v : V} (h : AAns n x q R B u v) (k : Kp B B') : AAns n x q R B' u v := by
  cases h with
  | seq _ s h1 h2 h3 h4 => exact .seq _ s (h1.kp k) h2 h3 h4
  | right _ h0 h1 => exact .right _ h0 (h1.kp k)
  | left _ h0 h1 => exact .left _ h0 (h1.kp k)
/-- what the def that calls the lambda makes of it -/
def TTacc : (XK → Hp → VK → Prop) → Hp → VK → Prop := fun tl H Q => ∀ p, H p = none → ∀ Q' : VK, (∀ v H', Q v H' → Q' v H') → tl (fun _ _ _ => False) (upd H p (.tup [.non, .non])) Q'
theorem acc_gives {X : Cx} {g : Addr} {cdg : Value} {q : Str} : LamX.GivesTo X N__law_accepted "_law_accepted" (defScope s__law_accepted) g cdg (defBody s__law_accepted) "_law_call" q TTacc := by
  intro f c' s H Q tl act hc h
  refine ⟨_, (pss_cons (ps_asg (pe_tup (pa_cons pe_non (pa_cons pe_non pa_nil))) (pg_tup rfl (pgs_cons (pg_name (i := 1) sc__law_accepted.nd rfl (Or.inl rfl)) (pgs_cons (pg_name (i := 2) sc__law_accepted.nd rfl (Or.inl rfl)) pgs_nil))))
    (pss_cons (ps_try_thru0 (pss_one (ps_set (i := 1) sc__law_accepted.nd rfl (Or.inl rfl) (act (fun _ _ _ _ => False) [] (fun _ _ => False) (fun _ _ _ => False) _ _ LamX.takes0 (fun _ _ _ _ z => z)))))
    (pss_one (ps_ret (pe_ifExp (pt_cmpR op_isN (pv 2) pe_non (nomark _)) (pv 1) pe_non))))), ?_⟩
  refine ⟨(by decide : 2 ≤ sizeLine), fun p hp => ⟨p, _, rfl, st_of upd_same, rfl, _, _, rfl, _, _, rfl, rfl, ?_⟩⟩
  refine ⟨rfl, Ex.new hp _ _ hc, ?_⟩
  refine h p hp _ fun v H' hq => ⟨.non, rfl, rfl, _, rfl, ?_⟩
  show (if decide (V.non = V.non) = true then _ else _)
  rw [if_pos (by decide)]
  exact ⟨v, rfl, hq⟩
/-- a def of which the code object is known -/
theorem Df.calGC {P : Program} {w : World} {K : PySem.W.Frag} {mg : Str → Option Value} {base : Heap} {x : Str} {st : Stmt} {N ps : List Str} {k : Nat} {sp : Sp} {c : Addr} (D : Df K mg x st) (S : FnScope N ps (defScope st)) (len : ∀ vs H Q E, sp vs H Q E → vs.length = ps.length)
    (hc : ∀ (f : Addr) (oc : Value) (od : Option Addr) (kV doc pm : Value) (an : Option Addr) (cdv ct : Value) (osl : Array (Option Value)), mg x = some (.ref f) → K.lookup f = some ⟨oc, od, .func (PySem.W.fnOf x x (defArgs st) (defBody st) (defScope st) .none kV doc pm an cdv ct), osl⟩ → cdv = .ref c)
    (hb : ∀ (kV doc pm : Value) (an : Option Addr) (cdv ct : Value) (us : List Value), us.length = ps.length → bindArgs (PySem.W.fnOf x x (defArgs st) (defBody st) (defScope st) .none kV doc pm an cdv ct) ⟨us, []⟩ = pure (ps.zip us))
    (hbody : ∀ (f : Addr) (A : Around) (outer : List Env) (s : Shared) (H : Hp) (vs : List V) (Q : VK) (E : XK), RoomG k (A.deeper (envOfC x (defScope st) s.heap.objs.size f (.ref c))) → sp vs H Q E →
      ∃ t, PSs (cxOf CX0 P w K mg base N x (defScope st) f (.ref c) A outer s H E).nox (defBody st) t ∧ t { nx := fun _ H' => Q .non H', rt := Q } (start N vs) H) : CalG P w K mg base x ps (k + 1) sp := by
  obtain ⟨f, fd, F, g⟩ := D
  obtain ⟨oc, od, kV, doc, pm, an, cdv, ct, osl, e, lk, hcd⟩ := F.ex
  refine ⟨f, fd, ?_, g, F.kp, F.binds hb⟩
  subst e
  have := hc f oc od kV doc pm an cdv ct osl g lk
  subst this
  refine fnG_of lk hcd S len fun A outer s H vs Q E hr hsp => ?_
  obtain ⟨t, h, q⟩ := hbody f A outer s H vs Q E hr hsp
  exact ⟨t, h.nox, q⟩
/-- the lambda's name -/
def qLam : Str := (envOfC "_law_right" (defScope s__law_right) 0 0 .none).qual ++ "<lambda>"
/-- the code object of a def, as the kept objects tell it -/
def CdAt (K : PySem.W.Frag) (mg : Str → Option Value) (x : Str) (st : Stmt) (c : Addr) : Prop :=
  ∀ (f : Addr) (oc : Value) (od : Option Addr) (kV doc pm : Value) (an : Option Addr) (cdv ct : Value) (osl : Array (Option Value)), mg x = some (.ref f) → K.lookup f = some ⟨oc, od, .func (PySem.W.fnOf x x (defArgs st) (defBody st) (defScope st) .none kV doc pm an cdv ct), osl⟩ → cdv = .ref c
def sp__law_right (Pt : Addr) : Sp := fun vs H Q _ => ∃ (u : V) (n x q : Nat) (R : List (List Nat)), vs = [u, vN x, vN q] ∧ IsRkF H u R ∧ Rkg n R ∧ x < n ∧ q < n ∧ LamX.Tabs [(Pt, qLam)] H ∧ ∀ H1, LamX.ExtN H H1 → LamX.Tabs [(Pt, qLam)] H1 → Q (.bl true) H1
section
variable {P : Program} {w₀ : World} {K : PySem.W.Frag} {mg : Str → Option Value} {base : Heap} {C : Addr} (T : Top K mg C)
include T
theorem cal__law_right {c Pt : Addr} (hcd : CdAt K mg "_law_right" s__law_right c) (TB : LamX.TabB base mg c Pt) : CalG P w₀ K mg base "_law_right" ["_law_lists_here", "_law_thing", "_law_who"] 13 (sp__law_right Pt) := by
  refine T.d__law_right.calGC sc__law_right (fun vs H Q E h => ?_) hcd (fun _ _ _ _ _ _ us hl => match us, hl with | [_, _, _], _ => rfl) (fun f A outer s H vs Q E hrg h => ?_)
  · obtain ⟨u, n, x, q, R, rfl, _⟩ := h
    rfl
  · obtain ⟨u, n, x, q, R, rfl, hR, G, hx, hq, hT, qq⟩ := h
    have hr := hrg.room
    have hn := G.le
    obtain ⟨g, fdg, Fg, hmg⟩ := T.d__law_accepted
    obtain ⟨ocg, odg, kVg, docg, pmg, ang, cdvg, ctg, oslg, eg, lkg, hcdg⟩ := Fg.ex
    subst eg
    have bindg := Fg.binds (ps := ["_law_call"]) fun _ _ _ _ _ _ us hl => match us, hl with | [_], _ => rfl
    refine ⟨_, (pss_cons (ps_asg (pe_tup (pa_cons ((cal_reach T).pe hr (by decide) rfl (pa_cons (pv 0) (pa_cons (pv 1) (pa_cons (pv 2) pa_nil)))) (pa_cons (pe_op op_sub (pe_callB call_len_seq (by rfl) T.b_len PySem.boot_len (pa_cons (pv 0) pa_nil)) pe_int) pa_nil))) (pg_tup rfl (pgs_cons (pg_name (i := 3) sc__law_right.nd rfl (by first | exact Or.inl rfl | exact Or.inr rfl)) (pgs_cons (pg_name (i := 4) sc__law_right.nd rfl (Or.inl rfl)) pgs_nil))))
    (pss_cons (ps_if (pt_cmpR op_ne (LamX.pe_lamcall (T := [(Pt, qLam)]) (TT := TTacc) (k := 10) (t := fun _ => tCall sp_check_reach [] E0 (tCons (tVar 0) (tCons (tVar 1) (tCons (tVar 2) (tCons (tVar 3) tNil))))) (by rfl) hmg Fg.kp lkg hcdg bindg sc__law_accepted rfl (Or.inl rfl) acc_gives TB rfl (List.mem_singleton.mpr rfl) (fun p hp _ => by rw [List.mem_singleton.mp hp]; rfl) hr (LamX.lamS_by (sc := defScope s__law_right) (by decide +kernel)) rfl (fun _ _ _ _ _ => rfl) (fun A' outer' s' H' E' f' c' hr' => (cal_check_reach T).pe hr' (by decide) rfl (pa_cons (pv 0) (pa_cons (pv 1) (pa_cons (pv 2) (pa_cons (pv 3) pa_nil)))))) (pe_ix ix_tup (pv 3) pe_int (fun _ _ => rfl)) (nomark _)) (pss_one (ps_ret pe_bl)) pss_nil)
    (pss_cons (ps_if (pt_cmpR op_eq (pe_ix ix_tup (pv 3) pe_int (fun _ _ => rfl)) pe_str (nomark _)) (pss_one (ps_ret ((cal__law_brings T).pe hr (by decide) rfl (pa_cons (pv 0) (pa_cons (pe_ix ix_tup (pv 3) pe_int (fun _ _ => rfl)) (pa_cons (pv 1) (pa_cons (pv 2) pa_nil))))))) pss_nil)
    (pss_cons (ps_if (PW.pt (pw_or (pt_cmpR op_ne (pe_ix ix_tup (pv 3) pe_int (fun _ _ => rfl)) pe_str (nomark _)) (pw_or1 (pt_cmpR op_eq (pv 1) (pv 2) (nomark _))))) (pss_one (ps_ret pe_bl)) pss_nil)
    (pss_cons (ps_if (pt_cmpR op_lt (pv 1) (pv 2) (nomark _)) (pss_one (ps_ret ((cal__law_is_block T).pe hrg (by decide) rfl (pa_cons (pv 0) (pa_cons (pv 1) (pa_cons (pv 2) (pa_cons (pe_ix ix_tup (pv 3) pe_int (fun _ _ => rfl)) pa_nil))))))) pss_nil)
    (pss_one (ps_ret ((cal__law_is_block T).pe hrg (by decide) rfl (pa_cons ((cal__law_mirrored T).pe hr (by decide) rfl (pa_cons (pv 0) pa_nil)) (pa_cons (pe_op op_sub (pv 4) (pv 1)) (pa_cons (pe_op op_sub (pv 4) (pv 2)) (pa_cons (pe_ix ix_tup (pv 3) pe_int (fun _ _ => rfl)) pa_nil)))))))))))), ?_⟩
    refine ⟨u, rfl, vN x, rfl, vN q, rfl, H, u, n, x, q, R, rfl, hR.rk, G, hx, hq, Ex.refl _, fun a wd v1 B1 H1 g1 ha hA => ?_⟩
    have hA1 := hA.up g1.sub
    have ha1 := g1.sub _ _ ha
    have hR1 := hR.up g1.ex
    have hT1 := hT.ext g1.ex
    obtain ⟨pu, us, rfl, hpu, hus⟩ := id hR1
    have hul : us.length = n := by rw [hus.len, G.len]
    refine ⟨.ref pu, rfl, pu, us, rfl, .inr (st_of hpu), ((us.length : Nat) : Int), 1, rfl, rfl, (by decide : 2 ≤ sizeLine), fun pt hpt => ⟨pt, [.ref a, .int (((us.length : Nat) : Int) - 1)], rfl, st_of upd_same, rfl, _, _, rfl, _, _, rfl, rfl, ?_⟩⟩
    have e2 : Ex H1 (upd H1 pt (.tup [.ref a, .int (((us.length : Nat) : Int) - 1)])) := Ex.new hpt
    have hA2 := hA1.up e2
    have ha2 := e2 _ _ ha1
    have hR2 := hR1.up e2
    have hT2 := hT1.ext e2
    have x2 : LamX.ExtN H (upd H1 pt (.tup [.ref a, .int (((us.length : Nat) : Int) - 1)])) := LamX.ExtN.of (g1.ex.trans e2)
    generalize upd H1 pt (.tup [.ref a, .int (((us.length : Nat) : Int) - 1)]) = H2 at e2 hA2 ha2 hR2 hT2 x2 ⊢
    rw [hul]
    refine ⟨hT2, fun H3 eN T3 p3 hp3 Q' hQ' => ?_⟩
    have kp3 := Kp.extN eN
    have e4 : Ex H3 (upd H3 p3 (.tup [.non, .non])) := Ex.new hp3
    have hA4 := (hA2.kp kp3).up e4
    have ha4 := e4 _ _ (kp3.tup ha2)
    have hR4 := (hR2.kp kp3).up e4
    have hT4 := T3.ext e4
    have x4 : LamX.ExtN H (upd H3 p3 (.tup [.non, .non])) := (x2.trans eN).trans (LamX.ExtN.of e4)
    generalize upd H3 p3 (.tup [.non, .non]) = H4 at e4 hA4 ha4 hR4 hT4 x4 ⊢
    refine ⟨.ref pu, rfl, vN x, rfl, vN q, rfl, .ref a, rfl, H4, .ref pu, a, wd, v1, n, x, q, R, rfl, hR4.rk, G, hx, hq, ha4, hA4, Ex.refl _, fun B5 H5 g5 => hQ' _ _ ?_⟩
    have hA5 := hA4.up g5.ex
    have ha5 := g5.ex _ _ ha4
    have hR5 := hR4.up g5.ex
    have hT5 := hT4.ext g5.ex
    have x5 := x4.trans (LamX.ExtN.of g5.ex)
    have wS : ∃ z : Str, wd = .str z := by
      cases hA5 with
      | seq => exact ⟨_, rfl⟩
      | right => exact ⟨_, rfl⟩
      | left => exact ⟨_, rfl⟩
    refine ⟨.ref a, rfl, a, [wd, v1], 0, wd, rfl, rfl, st_of ha5, rfl, ?_, _, rfl, ?_⟩
    · obtain ⟨z, rfl⟩ := wS
      rfl
    rw [decide_eq_true rfl]
    show (if (!true) = true then _ else _)
    rw [if_neg (by decide)]
    dsimp only [tNext]
    have fin : ∀ {B' H6 H7 : Hp}, Go H5 H5 B' H6 → Ex H6 H7 → Q (.bl true) H7 := fun g6 e => qq _ (x5.trans (LamX.ExtN.of (g6.ex.trans e))) (hT5.ext (g6.ex.trans e))
    cases hA5 with
    | seq _ s h1 h2 h3 h4 =>
      refine q_when (Hc := H5) (t_test (v_eq (v_ixT (t_var rfl ha5) v_c (atI_nat (i := 0) rfl)) v_c rfl)) (Ex.refl _) (fun z B6 H6 g6 => ?_) (fun z B6 H6 g6 => absurd z (by decide +kernel))
      refine s_ret (Hc := H6) (P := fun v _ => v = .bl true) (e_call (av_cons (v_var rfl) (av_cons (v_ixT (t_var rfl (g6.ex _ _ ha5)) v_c (atI_nat (i := 1) rfl)) (av_cons (v_var rfl) (av_cons (v_var rfl) av_nil)))) fun vs B' e5 e => ?_) (Ex.refl _) fun v B7 H7 g7 e => ?_
      · rw [e]
        exact fun B1 H1 a b Q q' E => ⟨B1, .ref pu, v1, n, x, q, R, s, rfl, hR5.up (g6.ex.trans (e5.trans a)), G, hq, h1.up (g6.ex.trans (e5.trans a)), h2, h4, h3, b, fun B2 H2 g => q' _ B2 H2 g rfl⟩
      · rw [e]
        exact fin g6 g7.ex
    | right _ h0 hb =>
      refine q_skip (Hc := H5) (EvT.is (t_test (v_eq (v_ixT (t_var rfl ha5) v_c (atI_nat (i := 0) rfl)) v_c rfl)) (by decide +kernel)) (Ex.refl _) fun B6 H6 g6 => ?_
      have ha6 := g6.ex _ _ ha5
      refine q_skip (Hc := H6) (EvT.is (b := false) (t_or (b := false) (t_test (v_ne (v_ixT (t_var rfl ha6) v_c (atI_nat (i := 0) rfl)) v_c rfl)) fun _ => (t_test (v_eq (v_var rfl) (v_var rfl) rfl)).is (decide_eq_false fun z => ?_)) (by decide +kernel)) (Ex.refl _) fun B7 H7 g7 => ?_
      · have := Int.ofNat.inj (V.int.inj z)
        omega
      have ha7 := g7.ex _ _ ha6
      have e57 := g6.ex.trans g7.ex
      refine q_when (Hc := H7) (t_test (v_I0 (v_var rfl) (v_var rfl))) (Ex.refl _) (fun z B8 H8 g8 => ?_) (fun z B8 H8 g8 => absurd (of_decide_eq_false z) (by omega))
      have ha8 := g8.ex _ _ ha7
      have e58 := e57.trans g8.ex
      refine s_ret (Hc := H8) (P := fun v _ => v = .bl true) (e_call (av_cons (v_var rfl) (av_cons (v_var rfl) (av_cons (v_var rfl) (av_cons (v_ixT (t_var rfl ha8) v_c (atI_nat (i := 1) rfl)) av_nil)))) fun vs B' e5 e => ?_) (Ex.refl _) fun v B9 H9 g9 e => ?_
      · rw [e]
        exact fun B1 H1 a b Q q' E => ⟨B1, .ref pu, v1, n, x, q, R, rfl, hR5.up (e58.trans (e5.trans a)), G, h0, hq, hb.up (e58.trans (e5.trans a)), b, fun B2 H2 g => q' _ B2 H2 g rfl⟩
      · rw [e]
        exact fin (GoF.refl (Ex.refl _)) (e58.trans g9.ex)
    | left _ h0 hb =>
      refine q_skip (Hc := H5) (EvT.is (t_test (v_eq (v_ixT (t_var rfl ha5) v_c (atI_nat (i := 0) rfl)) v_c rfl)) (by decide +kernel)) (Ex.refl _) fun B6 H6 g6 => ?_
      have ha6 := g6.ex _ _ ha5
      refine q_skip (Hc := H6) (EvT.is (b := false) (t_or (b := false) (t_test (v_ne (v_ixT (t_var rfl ha6) v_c (atI_nat (i := 0) rfl)) v_c rfl)) fun _ => (t_test (v_eq (v_var rfl) (v_var rfl) rfl)).is (decide_eq_false fun z => ?_)) (by decide +kernel)) (Ex.refl _) fun B7 H7 g7 => ?_
      · have := Int.ofNat.inj (V.int.inj z)
        omega
      have ha7 := g7.ex _ _ ha6
      have e57 := g6.ex.trans g7.ex
      refine q_when (Hc := H7) (t_test (v_I0 (v_var rfl) (v_var rfl))) (Ex.refl _) (fun z B8 H8 g8 => absurd (of_decide_eq_true z) (by omega)) (fun z B8 H8 g8 => ?_)
      have ha8 := g8.ex _ _ ha7
      have e58 := e57.trans g8.ex
      have hR8 := hR5.up e58
      refine s_ret (Hc := H8) (P := fun v _ => v = .bl true) (e_call (PA := fun vs B => ∃ w, vs = [w, vN (n - 1 - x), vN (n - 1 - q), v1] ∧ IsRkF B w (mirR n R)) (a_cons (P := fun w B => IsRkF B w (mirR n R)) (PR := fun vs _ => vs = [vN (n - 1 - x), vN (n - 1 - q), v1]) (e_call (av_cons (v_var rfl) av_nil) fun vs B' e5 e => ?_) (fun _ B' e' _ => av_cons ((v_I0 (g := fun i j => .int (i - j)) (i := (n : Int) - 1) (j := (x : Nat)) (v_var rfl) (v_var rfl)).is ?_) (av_cons ((v_I0 (g := fun i j => .int (i - j)) (i := (n : Int) - 1) (j := (q : Nat)) (v_var rfl) (v_var rfl)).is ?_) (av_cons (v_ixT (t_var rfl (e' _ _ ha8)) v_c (atI_nat (i := 1) rfl)) av_nil))) fun w as B1 B2 _ e2 h1 h3 => ⟨w, by rw [h3], h1.up e2⟩) fun vs B' e5 ⟨w, e, hw⟩ => ?_) (Ex.refl _) fun v B9 H9 g9 e => ?_
      · rw [e]
        exact fun B1 H1 a b Q q' E => ⟨B1, .ref pu, n, R, rfl, hR8.up (e5.trans a), G, b, fun v2 B2 H2 g h => q' _ B2 H2 g h⟩
      · show V.int _ = V.int _
        congr 1
        omega
      · show V.int _ = V.int _
        congr 1
        omega
      · rw [e]
        exact fun B1 H1 a b Q q' E => ⟨B1, w, v1, n, n - 1 - x, n - 1 - q, mirR n R, rfl, hw.up a, G.mir, by omega, by omega, hb.up (e58.trans (e5.trans a)), b, fun B2 H2 g => q' _ B2 H2 g rfl⟩
      · rw [e]
        exact fin (GoF.refl (Ex.refl _)) (e58.trans g9.ex)
end
end Sk

/-! Law: law. -/
namespace Sk
open PySem PySem.Spec PyProof.Rows L2
/-! ### what reach must answer -/
theorem blk_no {n x q : Nat} {R : List (List Nat)} {B : Hp} {v : V} {s : List Nat} (hxq : x < q) (hq : q < n) (hb : IsBlk n x q R B v) (hV : Sw.Valid n (rkOf R) s) (hA : Sw.it (Sw.rowAfter n s) q = x) : False := by
  obtain ⟨w, h1, h2, h3, σ, h4⟩ := Sw.complete_seq hV hxq hq hA
  obtain ⟨bp, us, _, _, hl, hent⟩ := hb
  have hi : w - q < us.length := by omega
  obtain ⟨a, r, _, _, hr⟩ := hent (w - q) us[w - q] (List.getElem?_eq_getElem hi)
  rw [show q + (w - q) = w by omega] at hr
  cases hr with
  | index _ hn => exact hn h3
  | walk wp us cs _ _ _ hW _ _ => exact hW.no h4
theorem ans_seq {n x q : Nat} {R : List (List Nat)} {B : Hp} {w v : V} {s : List Nat} (G : Rkg n R) (hx : x < n) (hq : q < n) (h : AAns n x q R B w v) (hV : Sw.Valid n (rkOf R) s) (hA : Sw.it (Sw.rowAfter n s) q = x) : w = .str "sequence" := by
  cases h with
  | seq => rfl
  | right _ h0 hb => exact (blk_no h0 hq hb hV hA).elim
  | left _ h0 hb =>
    obtain ⟨hv, hrow⟩ := Sw.mirror (rk' := rkOf (mirR n R)) (fun p y hp hy => G.mir_rk p y hp hy) s hV
    obtain ⟨pos, hp⟩ := hV.perm
    refine (blk_no (by omega : n - 1 - x < n - 1 - q) (by omega) hb hv ?_).elim
    rw [hrow, Sw.mir_it hp.len (by omega), show n - 1 - (n - 1 - q) = q by omega, hA]
/-! ### the machine and what is kept -/
section
variable {pm pg pc : Addr} {spot : Nat} {B B' H H1 : Hp}
theorem GoF.nd (g : GoF (F2 pm pg) B H B' H1) (h : IsM H pm pg pc spot) {b : Addr} {o : HO} (e : H b = some o) (n1 : ∀ k, o ≠ .dK k) (n2 : ∀ xs, o ≠ .lst xs) : H1 b = some o := by
  obtain ⟨kvs, gs, cs, h1, h2, h3, h4, h5, h6, h7, h8, h9⟩ := h
  refine g.keep b o (fun z => ?_) e
  rcases z with z | z
  · rw [z, h1] at e
    exact n1 _ (Option.some.inj e).symm
  · rw [z, h8] at e
    exact n2 _ (Option.some.inj e).symm
theorem GoF.kp (g : GoF (F2 pm pg) B H B' H1) (h : IsM H pm pg pc spot) : Kp H H1 := fun b o i e => by
  rcases i with ⟨xs, z⟩ | ⟨b', u, z⟩
  · exact g.nd h e (fun k y => by rw [z] at y; cases y) fun k y => by rw [z] at y; cases y
  · exact g.nd h e (fun k y => by rw [z] at y; cases y) fun k y => by rw [z] at y; cases y
theorem GoF.tabs {T : List (Addr × Str)} (g : GoF (F2 pm pg) B H B' H1) (h : IsM H pm pg pc spot) (t : LamX.Tabs T H) : LamX.Tabs T H1 := fun p hp => by
  obtain ⟨ps, h1, h2, h3⟩ := t p hp
  refine ⟨ps, g.nd h h1 (fun k y => by cases y) (fun k y => by cases y), h2, fun pos cv hc => ?_⟩
  obtain ⟨c, e1, e2⟩ := h3 pos cv hc
  refine ⟨c, e1, g.nd h e2 (fun k y => ?_) fun k y => ?_⟩
  · unfold LamX.CodeO at y; cases y
  · unfold LamX.CodeO at y; cases y
theorem IsM.extN (h : IsM H pm pg pc spot) (e : LamX.ExtN H H1) : IsM H1 pm pg pc spot := by
  obtain ⟨kvs, gs, cs, h1, h2, h3, h4, h5, h6, h7, h8, h9⟩ := h
  exact ⟨kvs, gs, cs, e _ _ h1 (fun _ z => by cases z), h2, h3, h4, h5, e _ _ h6 (fun _ z => by cases z), h7, e _ _ h8 (fun _ z => by cases z), h9⟩
theorem IsM.ex2 (h : IsM H pm pg pc spot) (e : Ex H H1) : IsM H1 pm pg pc spot := h.keep fun b o _ h => e b o h
end
/-- nothing -/
def B0 : Hp := fun _ => none
theorem B0_ex {H : Hp} : Ex B0 H := fun b o h => by unfold B0 at h; cases h
/-- what can't change -/
def imm (H : Hp) : Hp := fun b => match H b with
  | some (.tup xs) => some (.tup xs)
  | some (.frz o u) => some (.frz o u)
  | _ => none
theorem imm_ex {H : Hp} : Ex (imm H) H := fun b o h => by
  unfold imm at h
  split at h
  · rename_i xs e
    rw [e]; exact h
  · rename_i o' u e
    rw [e]; exact h
  · cases h
theorem imm_kp {H : Hp} : Kp H (imm H) := fun b o i h => by
  unfold imm
  rcases i with ⟨xs, rfl⟩ | ⟨b', u, rfl⟩
  · rw [h]
  · rw [h]
theorem imm_d {H : Hp} {b : Addr} {k : List (Key × V)} (h : H b = some (.dK k)) : imm H b = none := by
  unfold imm; rw [h]
theorem imm_l {H : Hp} {b : Addr} {k : List V} (h : H b = some (.lst k)) : imm H b = none := by
  unfold imm; rw [h]
/-! ### the numbers drawn -/
section
variable {K : PySem.W.Frag} {D : Ends} {tz : TS} {σ : L2.St} {H : Hp} {pm pg pc : Addr} {spot : Nat}
theorem neI {a : Nat} {z : Int} (h : (a : Int) ≠ z) : decide ((vN a : V) = .int z) = false := decide_eq_false fun e => h (V.int.inj e)
theorem q_way {i : Nat} (hM : IsM H pm pg pc spot) (hs : spot < 2 ^ 50) (h1 : σ[1]? = some (some (.ref pm))) (h2 : σ[2]? = some (some (vN i)))
    (k : ∀ (w : Nat) spot' H1, w < 8 → GoF (F2 pm pg) B0 H B0 H1 → IsM H1 pm pg pc spot' → spot ≤ spot' → spot' ≤ spot + 1 → tz D (σ.set 3 (some (vN w))) H1) :
    tSeq (tAsg (tIf (tTest (tOp rEq (tVar 2) (tC (.int 0)))) (tCall sp__law_draw [] E0 (tCons (tVar 1) (tCons (tC (.int 8)) tNil))) (tC (.int 0))) (gName 3)) tz D σ H := by
  refine ⟨vN i, h2, rfl, _, rfl, ?_⟩
  show (if decide (vN i = V.int 0) = true then _ else _)
  by_cases i0 : i = 0
  · subst i0
    rw [if_pos (by decide)]
    exact ⟨.ref pm, h1, B0, pm, pg, pc, spot, 8, rfl, ⟨by omega, by omega⟩, hs, rfl, rfl, hM, B0_ex, fun j H1 hj g1 hM1 => k j (spot + 1) H1 hj g1 hM1 (by omega) (by omega)⟩
  · rw [if_neg (by rw [neI (by omega)]; decide)]
    exact k 0 spot H (by omega) (GoF.refl B0_ex) hM (Nat.le_refl _) (by omega)
theorem q_many {w : Nat} (hM : IsM H pm pg pc spot) (hs : spot < 2 ^ 50) (h1 : σ[1]? = some (some (.ref pm))) (h3 : σ[3]? = some (some (vN w)))
    (k : ∀ (m : Nat) spot' H1, 2 ≤ m → m ≤ 26 → GoF (F2 pm pg) B0 H B0 H1 → IsM H1 pm pg pc spot' → spot ≤ spot' → spot' ≤ spot + 1 → tz D (σ.set 4 (some (vN m))) H1) :
    tSeq (tAsg (tIf (tTest (tOp rEq (tVar 3) (tC (.int 7)))) (tOp rAdd (tC (.int 18)) (tCall sp__law_draw [] E0 (tCons (tVar 1) (tCons (tC (.int 7)) tNil)))) (tOp rAdd (tC (.int 2)) (tCall sp__law_draw [] E0 (tCons (tVar 1) (tCons (tIf (tTest (tOp (rI0 fun i j => .bl (decide (j < i))) (tVar 3) (tC (.int 2)))) (tC (.int 15)) (tC (.int 8))) tNil))))) (gName 4)) tz D σ H := by
  have dr : ∀ (top c : Nat) (Q : VK), 1 ≤ top → top ≤ 20 → 2 ≤ c → c + top ≤ 26 → (∀ v H1, tz D (σ.set 4 (some v)) H1 → Q v H1) → sp__law_draw ([V.ref pm, vN top] ++ []) H (fun y H2 => (rI0 fun i j => V.int (i + j)) (.int (c : Nat)) y H2 Q) E0 := fun top c Q t1 t2 c2 ct hQ =>
    ⟨B0, pm, pg, pc, spot, top, rfl, ⟨t1, by omega⟩, hs, rfl, rfl, hM, B0_ex, fun j H1 hj g1 hM1 => ⟨(c : Nat), (j : Nat), rfl, rfl, hQ _ _ (k (c + j) (spot + 1) H1 (by omega) (by omega) g1 hM1 (by omega) (by omega))⟩⟩
  refine ⟨vN w, h3, rfl, _, rfl, ?_⟩
  show (if decide (vN w = V.int 7) = true then _ else _)
  by_cases w7 : w = 7
  · subst w7
    rw [if_pos (by decide)]
    exact ⟨.ref pm, h1, dr 7 18 _ (by omega) (by omega) (by omega) (by omega) fun _ _ h => h⟩
  · rw [if_neg (by rw [neI (by omega)]; decide)]
    refine ⟨.ref pm, h1, vN w, h3, (w : Int), 2, rfl, rfl, _, rfl, ?_⟩
    show (if decide ((2 : Int) < (w : Int)) = true then _ else _)
    by_cases w2 : (2 : Int) < (w : Int)
    · rw [if_pos (decide_eq_true w2)]
      exact dr 15 2 _ (by omega) (by omega) (by omega) (by omega) fun _ _ h => h
    · rw [if_neg (by rw [decide_eq_false w2]; decide)]
      exact dr 8 2 _ (by omega) (by omega) (by omega) (by omega) fun _ _ h => h
theorem q_26 {w m : Nat} (h3 : σ[3]? = some (some (vN w))) (h4 : σ[4]? = some (some (vN m))) (m2 : 2 ≤ m) (m26 : m ≤ 26) (k : ∀ m : Nat, 2 ≤ m → m ≤ 26 → tz D (σ.set 4 (some (vN m))) H) :
    tSeq (tAsg (tIf (tTest (tOp rEq (tVar 3) (tC (.int 6)))) (tC (.int 26)) (tVar 4)) (gName 4)) tz D σ H := by
  refine ⟨vN w, h3, rfl, _, rfl, ?_⟩
  show (if decide (vN w = V.int 6) = true then _ else _)
  by_cases w6 : w = 6
  · subst w6
    rw [if_pos (by decide)]
    exact k 26 (by omega) (by omega)
  · rw [if_neg (by rw [neI (by omega)]; decide)]
    exact ⟨vN m, h4, k m m2 m26⟩
/-- the people asked beside -/
theorem q_beside {m who : Nat} (hM : IsM H pm pg pc spot) (hs : spot < 2 ^ 50) (m2 : 2 ≤ m) (m26 : m ≤ 26) (hw : who < m) (h1 : σ[1]? = some (some (.ref pm))) (h4 : σ[4]? = some (some (vN m))) (h9 : σ[9]? = some (some (vN who)))
    (k : ∀ (bs : List Nat) p spot' H1, (∀ b ∈ bs, b < m) → bs.length ≤ 3 → GoF (F2 pm pg) B0 H B0 H1 → H1 p = some (.lst (bs.map vN)) → IsM H1 pm pg pc spot' → spot ≤ spot' → spot' ≤ spot + 1 → tz D (σ.set 10 (some (.ref p))) H1) :
    tSeq (tAsg (tSl (rSlL K) (tLst (tCons (tCB (fun xs H Q => ∃ i j, xs = [.int i, .int j] ∧ Q (.int (if j < i then j else i)) H) (tCons (tOp (rI0 fun i j => .int (i - j)) (tVar 4) (tC (.int 1))) (tCons (tOp (rI0 fun i j => .int (i + j)) (tVar 9) (tC (.int 1))) tNil))) (tCons (tCB (fun xs H Q => ∃ i j, xs = [.int i, .int j] ∧ Q (.int (if j > i then j else i)) H) (tCons (tC (.int 0)) (tCons (tOp (rI0 fun i j => .int (i - j)) (tVar 9) (tC (.int 1))) tNil))) (tCons (tCall sp__law_draw [] E0 (tCons (tVar 1) (tCons (tVar 4) tNil))) tNil)))) tNoPart (tPart (tIf (tTest (tOp (rI0 fun i j => .bl (decide (i < j))) (tVar 4) (tC (.int 18)))) (tC (.int 3)) (tC (.int 1))))) (gName 10)) tz D σ H := by
  obtain ⟨b1, hb1, e1⟩ : ∃ b1 : Nat, b1 < m ∧ (if ((who : Int) + 1) < (m : Int) - 1 then (who : Int) + 1 else (m : Int) - 1) = (b1 : Int) := by
    by_cases h : ((who : Int) + 1) < (m : Int) - 1
    · exact ⟨who + 1, by omega, by rw [if_pos h]; omega⟩
    · exact ⟨m - 1, by omega, by rw [if_neg h]; omega⟩
  obtain ⟨b2, hb2, e2⟩ : ∃ b2 : Nat, b2 < m ∧ (if ((who : Int) - 1) > 0 then (who : Int) - 1 else 0) = (b2 : Int) := by
    by_cases h : ((who : Int) - 1) > 0
    · exact ⟨who - 1, by omega, by rw [if_pos h]; omega⟩
    · exact ⟨0, by omega, by rw [if_neg h]; omega⟩
  refine ⟨vN m, h4, (m : Int), 1, rfl, rfl, vN who, h9, (who : Int), 1, rfl, rfl, (m : Int) - 1, (who : Int) + 1, rfl, vN who, h9, (who : Int), 1, rfl, rfl, 0, (who : Int) - 1, rfl, .ref pm, h1, vN m, h4, B0, pm, pg, pc, spot, m, rfl, ⟨by omega, by omega⟩, hs, rfl, rfl, hM, B0_ex, fun j H1 hj g1 hM1 => ⟨(by decide : 3 ≤ sizeLine), fun pl hpl => ?_⟩⟩
  have go : ∀ (i : Nat), i ≤ 3 → ∀ p, upd H1 pl (.lst [.int (if ((who : Int) + 1) < (m : Int) - 1 then (who : Int) + 1 else (m : Int) - 1), .int (if ((who : Int) - 1) > 0 then (who : Int) - 1 else 0), vN j]) p = none → tz D (σ.set 10 (some (.ref p))) (upd (upd H1 pl (.lst [.int (if ((who : Int) + 1) < (m : Int) - 1 then (who : Int) + 1 else (m : Int) - 1), .int (if ((who : Int) - 1) > 0 then (who : Int) - 1 else 0), vN j])) p (.lst (cutV [.int (if ((who : Int) + 1) < (m : Int) - 1 then (who : Int) + 1 else (m : Int) - 1), .int (if ((who : Int) - 1) > 0 then (who : Int) - 1 else 0), vN j] none (some (i : Int))))) := fun i hi p hp => by
    rw [cut_take (by simpa using hi)]
    rw [e1, e2] at hp ⊢
    refine k ([b1, b2, j].take i) p (spot + 1) _ (fun b hb => ?_) (by rw [List.length_take]; exact Nat.min_le_right _ _) ((g1.new hpl).new hp) (by rw [upd_same, List.map_take]; rfl) (hM1.ex2 ((Ex.new hpl).trans (Ex.new hp))) (by omega) (by omega)
    have hb := List.mem_of_mem_take hb
    simp only [List.mem_cons, List.not_mem_nil, or_false] at hb
    rcases hb with h | h | h <;> omega
  refine ⟨vN m, h4, (m : Int), 18, rfl, rfl, _, rfl, ?_⟩
  show (if decide ((m : Int) < 18) = true then _ else _)
  by_cases m18 : (m : Int) < 18
  · rw [if_pos (decide_eq_true m18)]
    exact ⟨3, rfl, pl, _, rfl, sl_of upd_same, go 3 (by omega)⟩
  · rw [if_neg (by rw [decide_eq_false m18]; decide)]
    exact ⟨1, rfl, pl, _, rfl, sl_of upd_same, go 1 (by omega)⟩
/-- range of one of two numbers -/
theorem w_41 {m : Nat} {R : It → Hp → Prop} (h4 : σ[4]? = some (some (vN m))) (k : ∀ j : Nat, j ≤ 4 → R (Itr 0 j) H) : iRng1 (tCons (tIf (tTest (tOp (rI0 fun i j => .bl (decide (i < j))) (tVar 4) (tC (.int 18)))) (tC (.int 4)) (tC (.int 1))) tNil) σ H R := by
  refine ⟨vN m, h4, (m : Int), 18, rfl, rfl, _, rfl, ?_⟩
  show (if decide ((m : Int) < 18) = true then _ else _)
  by_cases m18 : (m : Int) < 18
  · rw [if_pos (decide_eq_true m18)]
    exact ⟨4, rfl, by omega, by omega, k 4 (by omega)⟩
  · rw [if_neg (by rw [decide_eq_false m18]; decide)]
    exact ⟨1, rfl, by omega, by omega, k 1 (by omega)⟩
end
end Sk

/-! Law: law. -/
namespace Sk
open PySem PySem.Spec PyProof.Rows L2
def sp_law (K : PySem.W.Frag) (Pt : Addr) : Sp := fun vs H Q _ => ∃ (p : Addr) (ns : List Int), vs = [.ref p] ∧ SqL K H p (ns.map V.int) ∧ ns.length ≤ 100000 ∧ LamX.Tabs [(Pt, qLam)] H ∧ ∀ H1, Q (.bl true) H1
theorem FT.kp {H H' : Hp} {a : Addr} {xs : List V} (h : FT H a xs) (k : Kp H H') : FT H' a xs := let ⟨o, h1, h2⟩ := h; ⟨o, h1, k a _ (.inr ⟨_, _, rfl⟩) h2⟩
section
variable {P : Program} {w₀ : World} {K : PySem.W.Frag} {mg : Str → Option Value} {base : Heap} {C : Addr} (T : Top K mg C)
include T
theorem cal_law {c Pt : Addr} (hcd : CdAt K mg "_law_right" s__law_right c) (TB : LamX.TabB base mg c Pt) : CalG P w₀ K mg base "law" ["_law_script"] 14 (sp_law K Pt) := by
  have right := cal__law_right (P := P) (w₀ := w₀) (base := base) T hcd TB
  refine T.d_law.calG sc_law (fun vs H Q E h => ?_) (fun _ _ _ _ _ _ us hl => match us, hl with | [_], _ => rfl) (fun f cdv A outer s H vs Q E hrg h => ?_)
  · obtain ⟨p, ns, rfl, _⟩ := h
    rfl
  · obtain ⟨p, ns, rfl, hp, hl, hT, qq⟩ := h
    have hr := hrg.room
    have hu := hu_of hr
    have hu0 := hr.units
    refine ⟨_, (pss_cons (ps_set (i := 1) sc_law.nd rfl (Or.inl rfl) ((cal__law_begun T).pe hr (by decide) rfl (pa_cons (pv 0) pa_nil)))
    (pss_cons (ps_for PassesOwn.never rfl (pi_range1 (by rfl) T.b_range (pa_cons (pe_op op_add pe_int (pe_callB (call_min2 (by rfl)) (by rfl) T.b_min (by decide +kernel) (pa_cons pe_int (pa_cons (pe_op op_fdivW (pe_callB call_len_seq (by rfl) T.b_len PySem.boot_len (pa_cons (pv 0) pa_nil)) pe_int) pa_nil)))) pa_nil)) (pg_name (i := 2) sc_law.nd rfl (Or.inl rfl))
      (pss_cons (ps_set (i := 3) sc_law.nd rfl (Or.inl rfl) (pe_ifExp (pt_cmpR op_eq (pv 2) pe_int (nomark _)) ((cal__law_draw T).pe hr (by decide) rfl (pa_cons (pv 1) (pa_cons pe_int pa_nil))) pe_int))
      (pss_cons (ps_set (i := 4) sc_law.nd rfl (Or.inl rfl) (pe_ifExp (pt_cmpR op_eq (pv 3) pe_int (nomark _)) (pe_op op_add pe_int ((cal__law_draw T).pe hr (by decide) rfl (pa_cons (pv 1) (pa_cons pe_int pa_nil)))) (pe_op op_add pe_int ((cal__law_draw T).pe hr (by decide) rfl (pa_cons (pv 1) (pa_cons (pe_ifExp (pt_cmpR op_gt (pv 3) pe_int (nomark _)) pe_int pe_int) pa_nil))))))
      (pss_cons (ps_set (i := 4) sc_law.nd rfl (Or.inl rfl) (pe_ifExp (pt_cmpR op_eq (pv 3) pe_int (nomark _)) pe_int (pv 4)))
      (pss_cons (ps_set (i := 5) sc_law.nd rfl (by first | exact Or.inl rfl | exact Or.inr rfl) ((cal__law_lists T).pe hr (by decide) rfl (pa_cons (pv 1) (pa_cons (pv 4) pa_nil))))
      (pss_cons (ps_set (i := 6) sc_law.nd rfl (Or.inl rfl) (pe_ix ix_tup ((cal__law_moves T).pe hr (by decide) rfl (pa_cons (pv 1) (pa_cons (pv 5) (pa_cons (pe_tupRgF rfl (by rfl) T.b_tuple (prg_1 (by rfl) T.b_range (pv 4))) (pa_cons (pe_op op_mulW pe_int (pv 4)) pa_nil))))) pe_int (fun _ _ => rfl)))
      (pss_one (ps_for PassesOwn.never rfl (pi_range1 (by rfl) T.b_range (pa_cons (pe_ifExp (pt_cmpR op_lt (pv 4) pe_int (nomark _)) pe_int pe_int) pa_nil)) (pg_name (i := 7) sc_law.nd rfl (Or.inl rfl))
        (pss_cons (ps_set (i := 8) sc_law.nd rfl (by first | exact Or.inl rfl | exact Or.inr rfl) ((cal__law_draw T).pe hr (by decide) rfl (pa_cons (pv 1) (pa_cons (pv 4) pa_nil))))
        (pss_cons (ps_set (i := 9) sc_law.nd rfl (Or.inl rfl) (pe_bmF PySem.F.plainAttrs_tuple PySem.F.slot_tuple_index PySem.F.type_tuple_index mt_tup_indexI (pv 6) (pa_cons (pv 8) pa_nil)))
        (pss_cons (ps_if (pt_cmpR op_ne (pe_ix ix_tup ((cal_reach T).pe hr (by decide) rfl (pa_cons (pv 5) (pa_cons (pv 8) (pa_cons (pv 9) pa_nil)))) pe_int (fun _ _ => rfl)) pe_str (nomark _)) (pss_one (ps_ret pe_bl)) pss_nil)
        (pss_cons (ps_set (i := 10) sc_law.nd rfl (Or.inl rfl) (pe_slice sl_list (pe_lst (pa_cons (pe_callB (call_min2 (by rfl)) (by rfl) T.b_min (by decide +kernel) (pa_cons (pe_op op_sub (pv 4) pe_int) (pa_cons (pe_op op_add (pv 9) pe_int) pa_nil))) (pa_cons (pe_callB (call_max2 (by rfl)) (by rfl) T.b_max (by decide +kernel) (pa_cons pe_int (pa_cons (pe_op op_sub (pv 9) pe_int) pa_nil))) (pa_cons ((cal__law_draw T).pe hr (by decide) rfl (pa_cons (pv 1) (pa_cons (pv 4) pa_nil))) pa_nil)))) po_none (po_some (pe_ifExp (pt_cmpR op_lt (pv 4) pe_int (nomark _)) pe_int pe_int))))
        (pss_one (ps_if (pt_cmpR (op_neD hu0) (pe_lc (te := tVar 11) (tt := tNot (tB (tCall (sp__law_right Pt) [] E0 (tCons (tVar 5) (tCons (tVar 8) (tCons (tVar 11) tNil)))))) (own := [("_law_far", 11)]) rfl sc_law.nd (pi_list (pe_op op_cat (pv 10) (pe_lst (pa_cons (pv 9) pa_nil)))) (blkOk_by (own := [("_law_far", 11)]) (N := N_law) (sc := defScope s_law) (by decide +kernel)) (fun _ _ _ _ _ => (pg_name (i := 11) sc_law.nd rfl (Or.inl rfl))) (fun _ _ _ _ _ => (pts_one (pt_not (pt_val (right.pe hrg (by decide) rfl (pa_cons (pv 5) (pa_cons (pv 8) (pa_cons (pv 11) pa_nil)))))))) (fun _ _ _ _ _ => (pv 11))) (pe_lst pa_nil) (nomark _)) (pss_one (ps_ret pe_bl)) pss_nil))))))))))))))
    (pss_one (ps_ret pe_bl)))), ?_⟩
    refine ⟨.ref p, rfl, H, p, ns, rfl, hp, hl, Ex.refl _, fun pm pg pc B1 H1 g1 _ _ _ _ hM1 => ?_⟩
    have hT1 := hT.ext g1.ex
    have hp1 := g1.ex.l hp
    dsimp only [gName]
    refine q_s1 ?_
    unfold tFor
    obtain ⟨tn, htn, etn⟩ : ∃ tn : Nat, tn ≤ 2 ∧ (1 : Int) + (if ((ns.length : Nat) : Int) / 10 < 1 then ((ns.length : Nat) : Int) / 10 else 1) = (tn : Int) := by
      by_cases h : ((ns.length : Nat) : Int) / 10 < 1
      · exact ⟨1, by omega, by rw [if_pos h]; omega⟩
      · exact ⟨2, by omega, by rw [if_neg h]; rfl⟩
    refine ⟨.ref p, rfl, p, ns.map V.int, rfl, .inl hp1, ?_⟩
    rw [List.length_map]
    refine ⟨((ns.length : Nat) : Int), 10, rfl, rfl, ⟨by omega, by decide⟩, 1, ((ns.length : Nat) : Int) / 10, rfl, 1, _, rfl, rfl, _, rfl, ?_⟩
    rw [etn, Int.toNat_natCast]
    refine ⟨by omega, by omega, ?_⟩
    refine ⟨fun i m σ1 H4 => m = tn - i ∧ i ≤ tn ∧ ∃ (s2 s3 s4 s5 s6 s7 s8 s9 s10 s11 : Option V) (spot : Nat), σ1 = [some (.ref p), some (.ref pm), s2, s3, s4, s5, s6, s7, s8, s9, s10, s11] ∧ IsM H4 pm pg pc spot ∧ spot ≤ 12000 * i ∧ LamX.Tabs [(Pt, qLam)] H4,
      ⟨tn, by simp, Nat.zero_le _, _, _, _, _, _, _, _, _, _, _, 0, rfl, hM1, Nat.le_refl _, hT1⟩, ?_⟩
    rintro i m σ1 Ha ⟨rfl, hin, s2, s3, s4, s5, s6, s7, s8, s9, s10, s11, spot, rfl, hMa, hsp, hTa⟩
    by_cases hlt : i < tn
    · refine .inr ⟨by show i < tn; exact hlt, _, fun σ' H' h => ⟨tn - (i + 1), by omega, rfl, hlt, h⟩, fun x H' y => ?_⟩
      obtain ⟨e1, e2⟩ := y
      subst e1
      have e2 : x = vN i := by rw [e2]; show V.int _ = V.int _; congr 1; omega
      subst e2
      dsimp only [gName]
      refine q_way hMa (by omega) rfl rfl fun w spot2 H2 hw g2 hM2 a2 b2 => ?_
      refine q_many hM2 (by omega) rfl rfl fun m0 spot3 H3 m2 m26 g3 hM3 a3 b3 => ?_
      refine q_26 rfl rfl m2 m26 fun n n2 n26 => ?_
      have hT3 := g3.tabs hM2 (g2.tabs hMa hTa)
      refine ⟨.ref pm, rfl, vN n, rfl, B0, pm, pg, pc, spot3, n, rfl, ⟨by omega, by omega⟩, by omega, rfl, rfl, hM3, B0_ex, fun u R spot4 B4 H4 g4 hR G a4 b4 hM4 => ?_⟩
      have hR4 := hR.up g4.sub
      have hT4 := g4.tabs hM3 hT3
      dsimp only [gName]
      have hrg' : rgV 0 (n : Int) = (List.range n).map vN := by
        unfold rgV
        rw [Int.sub_zero, Int.toNat_natCast]
        refine List.map_congr_left fun i _ => ?_
        rw [Int.zero_add]
      refine ⟨.ref pm, rfl, u, rfl, vN n, rfl, (n : Int), rfl, RgOk.of_le (by omega) (by omega) (by omega) (by omega), fun pr o ho hpr => ?_⟩
      rw [hrg']
      have e5 : Ex H4 (upd H4 pr (.frz o (.tup ((List.range n).map vN)))) := Ex.new hpr
      have hR5 := hR4.up e5
      have hM5 := hM4.ex2 e5
      have hT5 := hT4.ext e5
      have hr5 : upd H4 pr (.frz o (.tup ((List.range n).map vN))) pr = some (.frz o (.tup ((List.range n).map vN))) := upd_same
      generalize upd H4 pr (.frz o (.tup ((List.range n).map vN))) = H5 at e5 hR5 hM5 hT5 hr5 ⊢
      obtain ⟨im, ig⟩ : imm H5 pm = none ∧ imm H5 pg = none := by
        obtain ⟨kvs, gs, cs, h1, h2, h3, h4, h5, h6, h7, h8, h9⟩ := hM5
        exact ⟨imm_d h1, imm_l h8⟩
      refine ⟨vN n, rfl, 2, (n : Int), rfl, rfl, mulW (a := 2) (b := 6) (by decide) (by omega) (by omega), imm H5, pm, pg, pc, spot4, n, 2 * n, u, .ref pr, R, rfl, hR5.kp imm_kp, G, ⟨pr, rfl, o, ho, imm_kp _ _ (.inr ⟨_, _, rfl⟩) hr5⟩, by omega, by omega, im, ig, hM5, imm_ex, fun a x hv s spot6 B6 H6 g6 ha hrow6 hV a6 b6 hM6 => ?_⟩
      refine ⟨a, [x, hv], 1, hv, rfl, rfl, st_of (g6.sub _ _ ha), rfl, ?_⟩
      have hR6 := hR5.kp (g6.kp hM5)
      have hT6 := g6.tabs hM5 hT5
      obtain ⟨pw, rfl, hpw⟩ := hrow6
      have hpw6 := hpw.up g6.sub
      obtain ⟨pos, hP⟩ := hV.perm
      dsimp only [gName]
      refine w_41 rfl fun j hj => ?_
      refine ⟨fun i2 m2' σ2 H7 => m2' = j - i2 ∧ i2 ≤ j ∧ ∃ (s7 s8 s9 s10 s11 : Option V) (spot7 : Nat), σ2 = [some (.ref p), some (.ref pm), some (vN i), some (vN w), some (vN n), some u, some (.ref pw), s7, s8, s9, s10, s11] ∧ IsM H7 pm pg pc spot7 ∧ spot7 ≤ spot6 + 2 * i2 ∧ IsRkF H7 u R ∧ FT H7 pw ((Sw.rowAfter n s).map vN) ∧ LamX.Tabs [(Pt, qLam)] H7,
        ⟨j, by simp, Nat.zero_le _, _, _, _, _, _, spot6, rfl, hM6, Nat.le_refl _, hR6, hpw6, hT6⟩, ?_⟩
      rintro i2 m2' σ2 H7 ⟨rfl, hin2, s7, s8, s9, s10, s11, spot7, rfl, hM7, hsp7, hR7, hpw7, hT7⟩
      by_cases hlt2 : i2 < j
      · refine .inr ⟨by show i2 < j; exact hlt2, _, fun σ' H' h => ⟨j - (i2 + 1), by omega, rfl, hlt2, h⟩, fun x2 H' y => ?_⟩
        obtain ⟨e1, e2⟩ := y
        subst e1
        try dsimp only [gName]
        refine ⟨.ref pm, rfl, vN n, rfl, B0, pm, pg, pc, spot7, n, rfl, ⟨by omega, by omega⟩, by omega, rfl, rfl, hM7, B0_ex, fun t H8 ht g8 hM8 => ?_⟩
        have hR8 := hR7.kp (g8.kp hM7)
        have hT8 := g8.tabs hM7 hT7
        have hpw8 := hpw7.kp (g8.kp hM7)
        try dsimp only [gName]
        have hmem : t ∈ Sw.rowAfter n s := by
          have h1 := hP.plt t ht
          have := List.mem_of_getElem? (Sw.of_it (row := Sw.rowAfter n s) (i := pos t) (by rw [hP.len]; exact h1))
          rw [hP.ap t ht] at this
          exact this
        have hq := List.idxOf_lt_length_of_mem hmem
        have hit : Sw.it (Sw.rowAfter n s) ((Sw.rowAfter n s).idxOf t) = t := Sw.it_of (by rw [List.getElem?_eq_getElem hq, List.getElem_idxOf])
        rw [hP.len] at hq
        refine q_asg (Hc := H8) (v_index (f_var rfl hpw8) (v_var rfl) hmem) (Ex.refl _) fun v9 B9 H9 g9 e9 => ?_
        subst e9
        have hR9 := hR8.up g9.ex
        have hT9 := hT8.ext g9.ex
        have hpw9 := hpw8.up g9.ex
        have hM9 := hM8.ex2 g9.ex
        generalize (Sw.rowAfter n s).idxOf t = q at hq hit ⊢
        refine ⟨u, rfl, vN t, rfl, vN q, rfl, H9, u, n, t, q, R, rfl, hR9.rk, G, ht, hq, Ex.refl _, fun a w' v1 B10 H10 g10 ha hA => ?_⟩
        have hw' := ans_seq G ht hq hA hV hit
        subst hw'
        refine ⟨a, [.str "sequence", v1], 0, .str "sequence", rfl, rfl, st_of (g10.sub _ _ ha), rfl, rfl, _, rfl, ?_⟩
        show (if (!decide (V.str "sequence" = V.str "sequence")) = true then _ else _)
        rw [if_neg (by rw [decide_eq_true rfl]; decide)]
        dsimp only [tNext]
        have hR10 := hR9.up g10.ex
        have hT10 := hT9.ext g10.ex
        have hpw10 := hpw9.up g10.ex
        have hM10 := hM9.ex2 g10.ex
        refine q_beside hM10 (by omega) n2 n26 hq rfl rfl rfl fun bs pb spot11 H11 hbs hbl g11 hb hM11 a11 b11 => ?_
        have hR11 := hR10.kp (g11.kp hM10)
        have hT11 := g11.tabs hM10 hT10
        have hpw11 := hpw10.kp (g11.kp hM10)
        refine ⟨.ref pb, rfl, vN q, rfl, (by decide : 1 ≤ sizeLine), fun p1 hp1 => ⟨pb, p1, bs.map vN, [vN q], rfl, rfl, Ex.new hp1 _ _ hb, upd_same, Nat.le_trans (by rw [List.length_map]; show bs.length + 1 ≤ 4; omega) (by decide : 4 ≤ sizeLine), fun p2 hp2 => ⟨p2, rfl, ⟨_, sl_of upd_same⟩, fun Dl hDl => ?_⟩⟩⟩
        have e12 : Ex H11 (upd (upd H11 p1 (.lst [vN q])) p2 (.lst (bs.map vN ++ [vN q]))) := (Ex.new hp1).trans (Ex.new hp2)
        have h12 : upd (upd H11 p1 (.lst [vN q])) p2 (.lst (bs.map vN ++ [vN q])) p2 = some (.lst ((bs ++ [q]).map vN)) := by rw [upd_same, List.map_append]; rfl
        have hbs' : ∀ b ∈ bs ++ [q], b < n := fun b hb => by
          rcases List.mem_append.mp hb with h | h
          · exact hbs b h
          · rw [List.mem_singleton] at h; omega
        generalize upd (upd H11 p1 (.lst [vN q])) p2 (.lst (bs.map vN ++ [vN q])) = H12 at e12 h12 hDl ⊢
        generalize bs ++ [q] = xs at h12 hbs'
        have eD : Ex H12 (upd H12 Dl (.lst [])) := Ex.new hDl
        refine ⟨fun i3 m3 H13 => m3 = xs.length - i3 ∧ i3 ≤ xs.length ∧ H13 Dl = some (.lst []) ∧ H13 p2 = some (.lst (xs.map vN)) ∧ IsM H13 pm pg pc spot11 ∧ IsRkF H13 u R ∧ FT H13 pw ((Sw.rowAfter n s).map vN) ∧ LamX.Tabs [(Pt, qLam)] H13,
          ⟨xs.length, by simp, Nat.zero_le _, upd_same, eD _ _ h12, hM11.ex2 (e12.trans eD), hR11.up (e12.trans eD), hpw11.up (e12.trans eD), hT11.ext (e12.trans eD)⟩, ?_⟩
        rintro i3 m3 H13 ⟨rfl, hin3, hD3, hp3, hM13, hR13, hpw13, hT13⟩
        by_cases hlt3 : i3 < xs.length
        · refine .inr ⟨⟨_, vN xs[i3], sl_of hp3, by rw [List.getElem?_map, List.getElem?_eq_getElem hlt3]; rfl⟩, _, fun H'' h => ⟨xs.length - (i3 + 1), by omega, rfl, hlt3, h⟩, fun x3 H14 y3 => ?_⟩
          obtain ⟨e1, e2⟩ := y3
          subst e1
          have e3 := e2 _ (sl_of hp3)
          rw [List.getElem?_map, List.getElem?_eq_getElem hlt3] at e3
          have e3 : x3 = vN xs[i3] := (Option.some.inj e3).symm
          subst e3
          have hy := hbs' _ (List.getElem_mem hlt3)
          generalize xs[i3] = y at hy
          refine ⟨rfl, u, rfl, vN t, rfl, vN y, rfl, u, n, t, y, R, rfl, hR13, G, ht, hy, hT13, fun H15 eN T15 => ⟨true, rfl, ?_⟩⟩
          show (if (!true) = true then _ else _)
          rw [if_neg (by decide)]
          exact ⟨eN _ _ hD3 (fun _ z => by cases z), eN _ _ hp3 (fun _ z => by cases z), hM13.extN eN, hR13.kp (Kp.extN eN), hpw13.kp (Kp.extN eN), T15⟩
        · refine .inl ⟨⟨_, sl_of hp3, by rw [List.length_map]; omega⟩, ?_⟩
          refine ⟨Nat.zero_le _, fun p4 hp4 => ⟨.list [], .list [], .lst (sl_of (Ex.new hp4 _ _ hD3)) .nil, .lst (sl_of upd_same) .nil, rfl, rfl, _, rfl, ?_⟩⟩
          show (if (!PyData.eqv (.list []) (.list [])) = true then _ else _)
          rw [if_neg (by decide)]
          have e4 : Ex H13 (upd H13 p4 (.lst [])) := Ex.new hp4
          exact ⟨_, _, _, _, _, spot11, rfl, hM13.ex2 e4, by omega, hR13.up e4, hpw13.up e4, hT13.ext e4⟩
      · refine .inl ⟨by show j ≤ i2; omega, ?_⟩
        exact ⟨_, _, _, _, _, _, _, _, _, _, spot7, rfl, hM7, by omega, hT7⟩
    · exact .inl ⟨by show tn ≤ i; omega, qq _⟩
end
end Sk

/-! The end of the law's row: the call of law by the row's caller, with no guard under way. -/
namespace Sk
open PySem PySem.Spec PyProof.Rows L2
/-- the script's list as an object -/
abbrev lstO (vs : List Value) : Obj := { cls := .type "list", data := .seq vs.toArray }
/-- an empty table -/
abbrev tabO : Obj := { cls := .none, data := .fields #[] }
/-- what is tracked at the start: the table, and the script where the kept part does not know it -/
theorem start_heap {K : PySem.W.Frag} {h : Heap} {a Pt : Addr} {vs : List Value} {ns : List Int} (KX : K.In h) (hT : h.get? Pt = some tabO) (ha : h.get? a = some (lstO vs)) (hi : IntsAre vs ns) (hl : ns.length ≤ sizeLine) :
    ∃ H0 : Hp, H0 Pt = some (.tbl #[]) ∧ SqL K H0 a (ns.map V.int) ∧ ∀ b u, H0 b = some u → (b = Pt ∧ u = .tbl #[]) ∨ (b = a ∧ K.lookup a = none ∧ u = .frz (lstO vs) (.lst (ns.map V.int))) := by
  have ne : a ≠ Pt := fun z => by
    rw [z, hT] at ha
    cases ha
  have base : ∀ b u, (fun b => if b = Pt then some (HO.tbl #[]) else none : Hp) b = some u → b = Pt ∧ u = .tbl #[] := fun b u e => by
    by_cases z : b = Pt
    · exact ⟨z, by have := (if_pos z).symm.trans e; exact (Option.some.inj this).symm⟩
    · have := (if_neg z).symm.trans e
      cases this
  cases hk : K.lookup a with
  | some o =>
    have eo : o = lstO vs := Option.some.inj ((KX a o hk).symm.trans ha)
    subst eo
    refine ⟨fun b => if b = Pt then some (.tbl #[]) else none, if_pos rfl, .inr ⟨lstO vs, vs.toArray, _, hk, rfl, rfl, rfl, ?_, ?_⟩, fun b u e => .inl (base b u e)⟩
    · rw [List.size_toArray, hi.length]; exact hl
    · rw [List.toList_toArray]; exact vals_ints hi
  | none =>
    refine ⟨upd (fun b => if b = Pt then some (.tbl #[]) else none) a (.frz (lstO vs) (.lst (ns.map V.int))), ?_, .inl (.inr ⟨lstO vs, upd_same⟩), fun b u e => ?_⟩
    · rw [upd_ne ne.symm]; exact if_pos rfl
    · by_cases z : b = a
      · rw [z, upd_same] at e
        exact .inr ⟨z, rfl, (Option.some.inj e).symm⟩
      · rw [upd_ne z] at e
        exact .inl (base b u e)
/-- law, called by the row's caller -/
theorem law_callG {P : Program} {w : World} {K : PySem.W.Frag} {mg mb : Str → Option Value} {k : Nat} {fa a c Pt : Addr} {x : Str} {sp : Sp} {s₁ : Shared} {vs : List Value} {ns : List Int} {q : Program} {loose : List Str} {mean : ExcName → Option Value}
    (KX : K.In s₁.heap) (tp : PyProof.Rows.Top q loose mean mg mb s₁.heap) (hg : s₁.gens = #[]) (hT : s₁.heap.get? Pt = some tabO) (nT : K.lookup Pt = none) (hC : PySem.W.codeHdIn K c Pt = true)
    (ha : s₁.heap.get? a = some (lstO vs)) (hi : IntsAre vs ns) (hl : ns.length ≤ sizeLine) (hr : RoomG k callerA)
    (F : ∀ base : Heap, K.In base → base.Ns mainGlobals mg → LamX.TabB base mg c Pt → ∃ fd : FuncData, FnOkG P w K mg base CX0 k fa fd [x] sp ∧ BindsTo s₁ fd ⟨[.ref a], []⟩ [(x, .ref a)])
    (hsp : ∀ H : Hp, H Pt = some (.tbl #[]) → SqL K H a (ns.map V.int) → sp [.ref a] H (fun v _ => v = .bl true) E0) :
    codeAny (model P w) callerA (.call (.ref fa) ⟨[.ref a], []⟩) (fun r s' => r = .ok (.ret (.bool true)) ∧ OldK s₁.heap s'.heap ∧ s'.os = s₁.os ∧ AllBare s'.gens) s₁ := by
  obtain ⟨H0, hT0, hS0, only⟩ := start_heap KX hT ha hi hl
  -- every other object is seen in the fixed part
  have seen : ∀ {b : Addr} {o : Obj}, s₁.heap.get? b = some o → o ≠ tabO → o ≠ lstO vs → (hidT s₁.heap H0).get? b = some o := fun {b o} e n1 n2 => by
    refine hidT_get e ?_
    cases z : H0 b with
    | none => rfl
    | some u =>
      rcases only b u z with ⟨e2, _⟩ | ⟨e2, _⟩
      · rw [e2, hT] at e
        exact absurd (Option.some.inj e).symm n1
      · rw [e2, ha] at e
        exact absurd (Option.some.inj e).symm n2
  have spaces : ∀ {b : Addr} {m : Str → Option Value}, s₁.heap.Ns b m → (hidT s₁.heap H0).Ns b m := fun {b m} ⟨o, es, ep, e1, e2, rest⟩ =>
    ⟨o, es, ep, seen e1 (fun z => by rw [z] at e2; cases e2) (fun z => by rw [z] at e2; cases e2), e2, rest⟩
  have kin : K.In (hidT s₁.heap H0) := fun b o e => by
    refine hidT_get (KX b o e) ?_
    cases z : H0 b with
    | none => rfl
    | some u =>
      rcases only b u z with ⟨e2, _⟩ | ⟨e2, e3, _⟩
      · rw [e2, nT] at e; cases e
      · rw [e2, e3] at e; cases e
  have md : L2.Mod K mg (hidT s₁.heap H0) := by
    obtain ⟨mc, l1, l2⟩ := tp.nolimit
    exact ⟨kin, spaces tp.g, ⟨mb, spaces tp.b, tp.builtins⟩, mc, spaces l1, l2⟩
  have tb : LamX.TabB (hidT s₁.heap H0) mg c Pt := by
    obtain ⟨og, esg, epg, eg, dg, _⟩ := tp.g
    obtain ⟨bm, ob, b1, b2, b3, b4, b5, b6⟩ := tp.bmain
    refine ⟨PySem.W.codeHd_of_K kin hC, ⟨bm, ob, b1, b2, fun z => ?_, fun z => ?_, seen b3 (fun z => ?_) (fun z => ?_), b4, b5, b6⟩, fun z => ?_⟩
    · rw [z, eg] at b3
      cases b3
      rw [dg] at b6; cases b6
    · rw [z, hT] at b3
      cases b3
      cases b6
    · rw [z] at b6; cases b6
    · rw [z] at b6; cases b6
    · rw [z, hT] at eg
      cases eg
      cases dg
  have held : HOk P w H0 s₁.heap := fun b u e => by
    rcases only b u e with ⟨rfl, rfl⟩ | ⟨rfl, _, rfl⟩
    · exact hT
    · exact ⟨ha, by rw [List.length_map]; exact hl, vs, _, vals_ints hi, ha⟩
  have env : Env0 P w K mg (hidT s₁.heap H0) callerA [] s₁ H0 := ⟨rfl, md, fun b o e => of_hidT e, Nat.le_of_eq (hidT_size _ _), trivial, fun b hb => absurd hb List.not_mem_nil, held, .of_eq hg⟩
  obtain ⟨fd, ok, bound⟩ := F _ kin (spaces tp.g) tb
  refine codeAny_mono (ok.run callerA [] s₁ H0 ⟨[.ref a], []⟩ [.ref a] [.ref a] _ _ hr env bound (.cons rfl .nil) (hsp H0 hT0 hS0)) fun r s' out => ?_
  cases r with
  | error e => exact False.elim out
  | ok fl =>
    cases fl with
    | next => exact False.elim out
    | brk => exact False.elim out
    | cont => exact False.elim out
    | ret u =>
      obtain ⟨v, H', os, bare, un, hok', rv, hv⟩ := out
      have hv : v = .bl true := hv
      subst hv
      obtain rfl : u = Value.bool true := rv
      obtain ⟨more, grown⟩ := un.tbls Pt #[] hT0
      have grown' : s'.heap.get? Pt = some { cls := .none, data := .fields (#[] ++ more) } := hok' Pt _ grown
      have stays : ∀ b o, b ≠ Pt → s₁.heap.get? b = some o → s'.heap.get? b = some o := fun b o nb e => by
        cases z : H0 b with
        | none => exact un.keep b o e z List.not_mem_nil List.not_mem_nil
        | some u =>
          rcases only b u z with ⟨e2, _⟩ | ⟨e2, _, e3⟩
          · exact absurd e2 nb
          · subst e3
            have now := (hok' b _ (un.frzs b _ _ z)).1
            rw [e2, ha] at e
            cases e
            exact now
      refine ⟨rfl, ⟨fun b o e => ?_, fun b o e => ?_⟩, os, bare⟩
      · by_cases nb : b = Pt
        · subst nb
          rw [hT] at e
          cases e
          exact .inr (.inl ⟨((PySem.W.codeHd_of_K KX hC).tab hT).isCodeTable, rfl, #[], more, rfl, grown'⟩)
        · exact .inl (stays b o nb e)
      · by_cases nb : b = Pt
        · subst nb
          exact ⟨_, grown'⟩
        · exact ⟨o, stays b o nb e⟩
/-! ### the kept part's facts -/
section
variable {K : PySem.W.Frag} {h : Heap} {mg : Str → Option Value} {f C : Addr} {oc kV dc pm cd ct : Value} {od an : Option Addr} {sl : Array (Option Value)} {st : Stmt}
theorem df_mk {x : Str} (X : K.In h) (G : h.Ns mainGlobals mg) (a : PySem.W.nsIn K mainGlobals x = some (some (.ref f))) (l : K.lookup f = some ⟨oc, od, .func (PySem.W.fnOf x x (defArgs st) (defBody st) (defScope st) .none kV dc pm an cd ct), sl⟩)
    (c : PySem.W.codeIn K cd x = true) (k : PySem.W.keepIn K (.ref f) = true) : Df K mg x st := ⟨f, _, fun_mk l c k, PySem.W.mg_of X G a⟩
theorem mf_mk {m qual : Str} (a : PySem.W.findIn K (.ref C) m = some (some (.ref f))) (i : PySem.W.isFn K (.ref f) = true) (l : K.lookup f = some ⟨oc, od, .func (PySem.W.fnOf m qual (defArgs st) (defBody st) (defScope st) .none kV dc pm an cd ct), sl⟩)
    (c : PySem.W.codeIn K cd qual = true) (k : PySem.W.keepIn K (.ref f) = true) : Mf K C m qual st := ⟨f, _, fun_mk l c k, ⟨a, i, k⟩⟩
theorem cdAt_of {x : Str} {c Pt : Addr} (X : K.In h) (G : h.Ns mainGlobals mg) (ht : PySem.W.tabIn K x = some (c, Pt)) : CdAt K mg x st c := by
  intro f oc od kV doc pm an cdv ct osl hm hl
  unfold PySem.W.tabIn at ht
  split at ht
  · rename_i f' hf
    have e1 := PySem.W.mg_of X G hf
    rw [hm] at e1
    cases e1
    rw [hl] at ht
    dsimp only [PySem.W.fnOf] at ht
    split at ht
    · rename_i c2 e2
      split at ht
      · split at ht
        · cases ht
          first | exact e2 | rfl
        · cases ht
      · cases ht
    · cases ht
  · cases ht
end
/-- a def's code object and its table -/
theorem tab_mk {K : PySem.W.Frag} {x : Str} {f c P : Addr} {oc oc2 : Value} {od od2 : Option Addr} {sl sl2 : Array (Option Value)} {fd : FuncData} {vs : Array Value} (a : PySem.W.nsIn K mainGlobals x = some (some (.ref f))) (l : K.lookup f = some ⟨oc, od, .func fd, sl⟩) (hc : fd.code = .ref c)
    (lc : K.lookup c = some ⟨oc2, od2, .fields vs, sl2⟩) (hv : (vs[11]? : Option Value) = some (.ref P)) : PySem.W.tabIn K x = some (c, P) := by
  unfold PySem.W.tabIn
  rw [a]
  dsimp only
  rw [l]
  dsimp only
  rw [hc]
  dsimp only
  rw [lc]
  dsimp only
  rw [hv]
theorem chd_mk {K : PySem.W.Frag} {c P : Addr} {o : Obj} (lc : K.lookup c = some o) (e : PySem.W.codeHdIn [(c, o)] c P = true) : PySem.W.codeHdIn K c P = true := by
  rw [← e]
  unfold PySem.W.codeHdIn
  rw [lc, List.lookup_cons_self]
theorem str_mk {K : PySem.W.Frag} {h : Heap} {mg : Str → Option Value} {x z : Str} {t : Tok} (X : K.In h) (G : h.Ns mainGlobals mg) (a : PySem.W.nsIn K mainGlobals x = some (some (.str z t))) : ∃ t, mg x = some (.str z t) := ⟨t, PySem.W.mg_of X G a⟩
theorem int_mk {K : PySem.W.Frag} {h : Heap} {mg : Str → Option Value} {x : Str} {z : Int} {t : Tok} (X : K.In h) (G : h.Ns mainGlobals mg) (a : PySem.W.nsIn K mainGlobals x = some (some (.int z t))) : ∃ t, mg x = some (.int z t) := ⟨t, PySem.W.mg_of X G a⟩
theorem makes_mk {K : PySem.W.Frag} {C f : Addr} {oc kV dc pm cd ct : Value} {od an : Option Addr} {sl : Array (Option Value)} {m qual : Str} {st : Stmt} (i : PySem.W.findIn K (.ref C) "__init__" = some (some (.ref f))) (l : K.lookup f = some ⟨oc, od, .func (PySem.W.fnOf m qual (defArgs st) (defBody st) (defScope st) .none kV dc pm an cd ct), sl⟩)
    (c : PySem.W.codeIn K cd qual = true) (k : PySem.W.keepIn K (.ref f) = true) (mk : PySem.W.makesIn K C = true) (fn : PySem.W.isFn K (.ref f) = true) (kp : PySem.W.keepIn K (.ref C) = true) : ∃ (f : Addr) (fd : FuncData), Fun K m qual st f fd ∧ Mk K C f := ⟨f, _, fun_mk l c k, ⟨mk, i, fn, kp⟩⟩
theorem ends_mk {K : PySem.W.Frag} {mg : Str → Option Value} {ts : List Addr} {C c Pt : Addr} (g : PySem.W.nsIn K mainGlobals "Choices" = some (some (.ref C))) (t : PySem.W.tabIn K "_law_right" = some (c, Pt)) (hc : PySem.W.codeHdIn K c Pt = true) (n : K.lookup Pt = none) (m : Pt ∈ ts) (T : Top K mg C) :
    ∃ C c Pt, PySem.W.nsIn K mainGlobals "Choices" = some (some (.ref C)) ∧ PySem.W.tabIn K "_law_right" = some (c, Pt) ∧ PySem.W.codeHdIn K c Pt = true ∧ K.lookup Pt = none ∧ Pt ∈ ts ∧ Top K mg C := ⟨C, c, Pt, g, t, hc, n, m, T⟩
/-- the end: from the facts of the kept part to the row's walk -/
theorem walk_law {l : PySem.W.OpenLaw} {q : Program} {loose : List Str} {XP : (Str → Option Value) → Heap → Prop} {YP : World → Heap → Prop} {d : DefRec} {ts : List Addr} {K : Params → PySem.W.Frag}
    (hn : l.most = some 63) (hdf : d.params.defaults = []) (hname : d.name = "law") (hY : ∀ (w : World) (h : Heap), YP w h → (K w.params).In h) (hts : ∀ (w : World) (h : Heap), YP w h → ∀ p ∈ ts, h.get? p = some tabO)
    (hF : ∀ (w : World) (mg : Str → Option Value) (h : Heap), (K w.params).In h → h.Ns mainGlobals mg → ∃ C c Pt, PySem.W.nsIn (K w.params) mainGlobals "Choices" = some (some (.ref C)) ∧ PySem.W.tabIn (K w.params) "_law_right" = some (c, Pt) ∧ PySem.W.codeHdIn (K w.params) c Pt = true ∧ (K w.params).lookup Pt = none ∧ Pt ∈ ts ∧ Top (K w.params) mg C) :
    PySem.W.WalkO q loose XP YP l.row.toRowW d [] (fun f vs => PySem.call f vs) := by
  refine Att.attach_callB hn hdf fun w s₀ s₁ mg mb fa o pm cd doc a vs ns G Y ho hd hcd hmg hobj hints hlen hbits hg => ?_
  have KX := hY w _ Y
  obtain ⟨C, c, Pt, _, ht, hC, nT, hPt, T⟩ := hF w mg _ KX G.T.g
  have hcr : CdAt (K w.params) mg "_law_right" s__law_right c := cdAt_of KX G.T.g ht
  have hT := hts w _ Y Pt hPt
  rw [hname] at hmg
  refine law_callG (sp := sp_law (K w.params) Pt) (x := "_law_script") (k := 14) KX G.T hg hT nT hC hobj hints (Nat.le_trans hlen (by decide)) ⟨⟨rfl, by decide, by decide⟩, rfl⟩ (fun base kb gb TB => ?_) fun H hPt hS => ⟨a, ns, rfl, hS, by omega, fun p hp => by
    rw [List.mem_singleton.mp hp]
    exact LamX.TabS.nil hPt, fun H1 => rfl⟩
  obtain ⟨f, fd, ok, hf, _, hb⟩ := (cal_law (P := l.prog) (w₀ := w) (base := base) T hcr TB).ex
  rw [hf] at hmg
  cases hmg
  exact ⟨fd, ok, hb s₁ [.ref a] KX rfl⟩
end Sk

open PySem PySem.W PyProof.Rows
set_option maxHeartbeats 0 in
theorem PySem.Challenge.cw_swaprow_k21_whole_reach_for_many_holds : PySem.Challenge.rw_swaprow_k21_whole_reach_for_many.Holds := by
  w_on; o_law; k_head; (case hw => w_witness2)
  k_fill
  refine Sk.walk_law (l := PySem.Challenge.rw_swaprow_k21_whole_reach_for_many) rfl rfl rfl (fun w h Y => PySem.W.km_in_of Y) (fun w h Y => PySem.W.km_tabs_of Y) ?F
  case F =>
    intro w mg h KX G
    refine' Sk.ends_mk ?g ?t ?c ?n ?m ?T
    case g => k_is
    case t =>
      refine' Sk.tab_mk ?tabA ?tabL ?tabD ?tabC ?tabV
      (case tabA => k_is); (case tabL => k_is); (case tabD => rfl); (case tabC => k_is); (case tabV => rfl)
    case c =>
      refine' Sk.chd_mk ?chdL ?chdE
      (case chdL => k_is); (case chdE => rfl)
    case n => kernel_rfl
    case m => first | exact .head _ | decide
    case T =>
      refine' ⟨?d_is_integer, ?d_is_number_below, ?d_is_ranking, ?d_check_rankings, ?d_check_person, ?d_check_item, ?d_mirrored_rankings, ?d_rank_tables, ?d_opposite, ?d_is_choice, ?d_check_arrangement, ?d_check_fitting, ?d_goals_of, ?d_inversions_of, ?d_is_allowed_there, ?d_swapped, ?d_history, ?d_sequence_to, ?d_all_choices, ?d_implications, ?d_implied_by, ?d_path_to, ?d_solved, ?d_arrangement_for, ?d_reach_right, ?d_check_arguments, ?d_reach, ?d_is_walk, ?d_is_reason, ?d_is_block, ?d_blocks, ?d_brings, ?d_check_reach, ?d__law_mixed, ?d__law_folded, ?d__law_draw, ?d__law_begun, ?d__law_mixed_up, ?d__law_walked, ?d__law_lists, ?d__law_likes, ?d__law_may, ?d__law_after, ?d__law_moves, ?d__law_left_index, ?d__law_stay_index, ?d__law_index, ?d__law_counts, ?d__law_wrong, ?d__law_clash, ?d__law_turned, ?d__law_picks, ?d__law_mirrored, ?d__law_accepted, ?d__law_brings, ?d__law_is_walk, ?d__law_is_block, ?d__law_right, ?d_law, ?m___init__, ?m_likes, ?m_left_index, ?m_stay_index, ?m_last_fits, ?m_before, ?m_beyond, ?m_is_wrong, ?m_pass_each_other, ?m_clash, ?m_implies, ?b_len, ?b_range, ?b_isinstance, ?b_int, ?b_bool, ?b_tuple, ?b_all, ?b_any, ?b_set, ?b_enumerate, ?b_min, ?b_max, ?b_sorted, ?b_list, ?b_zip, ?b_str, ?b_repr, ?g_LEFT, ?g_STAY, ?g_MAX_PEOPLE, ?g_Choices, ?cl, ?makes, ?nf_tables, ?nf_item, ?nf_person, ?nf_last, ?nf_known⟩
      case d_is_integer =>
        refine' Sk.df_mk KX G ?a ?l ?c ?k
        (case a => k_is); (case l => k_is); (case c => k_is); (case k => k_is)
      case d_is_number_below =>
        refine' Sk.df_mk KX G ?a ?l ?c ?k
        (case a => k_is); (case l => k_is); (case c => k_is); (case k => k_is)
      case d_is_ranking =>
        refine' Sk.df_mk KX G ?a ?l ?c ?k
        (case a => k_is); (case l => k_is); (case c => k_is); (case k => k_is)
      case d_check_rankings =>
        refine' Sk.df_mk KX G ?a ?l ?c ?k
        (case a => k_is); (case l => k_is); (case c => k_is); (case k => k_is)
      case d_check_person =>
        refine' Sk.df_mk KX G ?a ?l ?c ?k
        (case a => k_is); (case l => k_is); (case c => k_is); (case k => k_is)
      case d_check_item =>
        refine' Sk.df_mk KX G ?a ?l ?c ?k
        (case a => k_is); (case l => k_is); (case c => k_is); (case k => k_is)
      case d_mirrored_rankings =>
        refine' Sk.df_mk KX G ?a ?l ?c ?k
        (case a => k_is); (case l => k_is); (case c => k_is); (case k => k_is)
      case d_rank_tables =>
        refine' Sk.df_mk KX G ?a ?l ?c ?k
        (case a => k_is); (case l => k_is); (case c => k_is); (case k => k_is)
      case d_opposite =>
        refine' Sk.df_mk KX G ?a ?l ?c ?k
        (case a => k_is); (case l => k_is); (case c => k_is); (case k => k_is)
      case d_is_choice =>
        refine' Sk.df_mk KX G ?a ?l ?c ?k
        (case a => k_is); (case l => k_is); (case c => k_is); (case k => k_is)
      case d_check_arrangement =>
        refine' Sk.df_mk KX G ?a ?l ?c ?k
        (case a => k_is); (case l => k_is); (case c => k_is); (case k => k_is)
      case d_check_fitting =>
        refine' Sk.df_mk KX G ?a ?l ?c ?k
        (case a => k_is); (case l => k_is); (case c => k_is); (case k => k_is)
      case d_goals_of =>
        refine' Sk.df_mk KX G ?a ?l ?c ?k
        (case a => k_is); (case l => k_is); (case c => k_is); (case k => k_is)
      case d_inversions_of =>
        refine' Sk.df_mk KX G ?a ?l ?c ?k
        (case a => k_is); (case l => k_is); (case c => k_is); (case k => k_is)
      case d_is_allowed_there =>
        refine' Sk.df_mk KX G ?a ?l ?c ?k
        (case a => k_is); (case l => k_is); (case c => k_is); (case k => k_is)
      case d_swapped =>
        refine' Sk.df_mk KX G ?a ?l ?c ?k
        (case a => k_is); (case l => k_is); (case c => k_is); (case k => k_is)
      case d_history =>
        refine' Sk.df_mk KX G ?a ?l ?c ?k
        (case a => k_is); (case l => k_is); (case c => k_is); (case k => k_is)
      case d_sequence_to =>
        refine' Sk.df_mk KX G ?a ?l ?c ?k
        (case a => k_is); (case l => k_is); (case c => k_is); (case k => k_is)
      case d_all_choices =>
        refine' Sk.df_mk KX G ?a ?l ?c ?k
        (case a => k_is); (case l => k_is); (case c => k_is); (case k => k_is)
      case d_implications =>
        refine' Sk.df_mk KX G ?a ?l ?c ?k
        (case a => k_is); (case l => k_is); (case c => k_is); (case k => k_is)
      case d_implied_by =>
        refine' Sk.df_mk KX G ?a ?l ?c ?k
        (case a => k_is); (case l => k_is); (case c => k_is); (case k => k_is)
      case d_path_to =>
        refine' Sk.df_mk KX G ?a ?l ?c ?k
        (case a => k_is); (case l => k_is); (case c => k_is); (case k => k_is)
      case d_solved =>
        refine' Sk.df_mk KX G ?a ?l ?c ?k
        (case a => k_is); (case l => k_is); (case c => k_is); (case k => k_is)
      case d_arrangement_for =>
        refine' Sk.df_mk KX G ?a ?l ?c ?k
        (case a => k_is); (case l => k_is); (case c => k_is); (case k => k_is)
      case d_reach_right =>
        refine' Sk.df_mk KX G ?a ?l ?c ?k
        (case a => k_is); (case l => k_is); (case c => k_is); (case k => k_is)
      case d_check_arguments =>
        refine' Sk.df_mk KX G ?a ?l ?c ?k
        (case a => k_is); (case l => k_is); (case c => k_is); (case k => k_is)
      case d_reach =>
        refine' Sk.df_mk KX G ?a ?l ?c ?k
        (case a => k_is); (case l => k_is); (case c => k_is); (case k => k_is)
      case d_is_walk =>
        refine' Sk.df_mk KX G ?a ?l ?c ?k
        (case a => k_is); (case l => k_is); (case c => k_is); (case k => k_is)
      case d_is_reason =>
        refine' Sk.df_mk KX G ?a ?l ?c ?k
        (case a => k_is); (case l => k_is); (case c => k_is); (case k => k_is)
      case d_is_block =>
        refine' Sk.df_mk KX G ?a ?l ?c ?k
        (case a => k_is); (case l => k_is); (case c => k_is); (case k => k_is)
      case d_blocks =>
        refine' Sk.df_mk KX G ?a ?l ?c ?k
        (case a => k_is); (case l => k_is); (case c => k_is); (case k => k_is)
      case d_brings =>
        refine' Sk.df_mk KX G ?a ?l ?c ?k
        (case a => k_is); (case l => k_is); (case c => k_is); (case k => k_is)
      case d_check_reach =>
        refine' Sk.df_mk KX G ?a ?l ?c ?k
        (case a => k_is); (case l => k_is); (case c => k_is); (case k => k_is)
      case d__law_mixed =>
        refine' Sk.df_mk KX G ?a ?l ?c ?k
        (case a => k_is); (case l => k_is); (case c => k_is); (case k => k_is)
      case d__law_folded =>
        refine' Sk.df_mk KX G ?a ?l ?c ?k
        (case a => k_is); (case l => k_is); (case c => k_is); (case k => k_is)
      case d__law_draw =>
        refine' Sk.df_mk KX G ?a ?l ?c ?k
        (case a => k_is); (case l => k_is); (case c => k_is); (case k => k_is)
      case d__law_begun =>
        refine' Sk.df_mk KX G ?a ?l ?c ?k
        (case a => k_is); (case l => k_is); (case c => k_is); (case k => k_is)
      case d__law_mixed_up =>
        refine' Sk.df_mk KX G ?a ?l ?c ?k
        (case a => k_is); (case l => k_is); (case c => k_is); (case k => k_is)
      case d__law_walked =>
        refine' Sk.df_mk KX G ?a ?l ?c ?k
        (case a => k_is); (case l => k_is); (case c => k_is); (case k => k_is)
      case d__law_lists =>
        refine' Sk.df_mk KX G ?a ?l ?c ?k
        (case a => k_is); (case l => k_is); (case c => k_is); (case k => k_is)
      case d__law_likes =>
        refine' Sk.df_mk KX G ?a ?l ?c ?k
        (case a => k_is); (case l => k_is); (case c => k_is); (case k => k_is)
      case d__law_may =>
        refine' Sk.df_mk KX G ?a ?l ?c ?k
        (case a => k_is); (case l => k_is); (case c => k_is); (case k => k_is)
      case d__law_after =>
        refine' Sk.df_mk KX G ?a ?l ?c ?k
        (case a => k_is); (case l => k_is); (case c => k_is); (case k => k_is)
      case d__law_moves =>
        refine' Sk.df_mk KX G ?a ?l ?c ?k
        (case a => k_is); (case l => k_is); (case c => k_is); (case k => k_is)
      case d__law_left_index =>
        refine' Sk.df_mk KX G ?a ?l ?c ?k
        (case a => k_is); (case l => k_is); (case c => k_is); (case k => k_is)
      case d__law_stay_index =>
        refine' Sk.df_mk KX G ?a ?l ?c ?k
        (case a => k_is); (case l => k_is); (case c => k_is); (case k => k_is)
      case d__law_index =>
        refine' Sk.df_mk KX G ?a ?l ?c ?k
        (case a => k_is); (case l => k_is); (case c => k_is); (case k => k_is)
      case d__law_counts =>
        refine' Sk.df_mk KX G ?a ?l ?c ?k
        (case a => k_is); (case l => k_is); (case c => k_is); (case k => k_is)
      case d__law_wrong =>
        refine' Sk.df_mk KX G ?a ?l ?c ?k
        (case a => k_is); (case l => k_is); (case c => k_is); (case k => k_is)
      case d__law_clash =>
        refine' Sk.df_mk KX G ?a ?l ?c ?k
        (case a => k_is); (case l => k_is); (case c => k_is); (case k => k_is)
      case d__law_turned =>
        refine' Sk.df_mk KX G ?a ?l ?c ?k
        (case a => k_is); (case l => k_is); (case c => k_is); (case k => k_is)
      case d__law_picks =>
        refine' Sk.df_mk KX G ?a ?l ?c ?k
        (case a => k_is); (case l => k_is); (case c => k_is); (case k => k_is)
      case d__law_mirrored =>
        refine' Sk.df_mk KX G ?a ?l ?c ?k
        (case a => k_is); (case l => k_is); (case c => k_is); (case k => k_is)
      case d__law_accepted =>
        refine' Sk.df_mk KX G ?a ?l ?c ?k
        (case a => k_is); (case l => k_is); (case c => k_is); (case k => k_is)
      case d__law_brings =>
        refine' Sk.df_mk KX G ?a ?l ?c ?k
        (case a => k_is); (case l => k_is); (case c => k_is); (case k => k_is)
      case d__law_is_walk =>
        refine' Sk.df_mk KX G ?a ?l ?c ?k
        (case a => k_is); (case l => k_is); (case c => k_is); (case k => k_is)
      case d__law_is_block =>
        refine' Sk.df_mk KX G ?a ?l ?c ?k
        (case a => k_is); (case l => k_is); (case c => k_is); (case k => k_is)
      case d__law_right =>
        refine' Sk.df_mk KX G ?a ?l ?c ?k
        (case a => k_is); (case l => k_is); (case c => k_is); (case k => k_is)
      case d_law =>
        refine' Sk.df_mk KX G ?a ?l ?c ?k
        (case a => k_is); (case l => k_is); (case c => k_is); (case k => k_is)
      case m___init__ =>
        refine' Sk.mf_mk ?a ?i ?l ?c ?k
        (case a => k_is); (case i => k_is); (case l => k_is); (case c => k_is); (case k => k_is)
      case m_likes =>
        refine' Sk.mf_mk ?a ?i ?l ?c ?k
        (case a => k_is); (case i => k_is); (case l => k_is); (case c => k_is); (case k => k_is)
      case m_left_index =>
        refine' Sk.mf_mk ?a ?i ?l ?c ?k
        (case a => k_is); (case i => k_is); (case l => k_is); (case c => k_is); (case k => k_is)
      case m_stay_index =>
        refine' Sk.mf_mk ?a ?i ?l ?c ?k
        (case a => k_is); (case i => k_is); (case l => k_is); (case c => k_is); (case k => k_is)
      case m_last_fits =>
        refine' Sk.mf_mk ?a ?i ?l ?c ?k
        (case a => k_is); (case i => k_is); (case l => k_is); (case c => k_is); (case k => k_is)
      case m_before =>
        refine' Sk.mf_mk ?a ?i ?l ?c ?k
        (case a => k_is); (case i => k_is); (case l => k_is); (case c => k_is); (case k => k_is)
      case m_beyond =>
        refine' Sk.mf_mk ?a ?i ?l ?c ?k
        (case a => k_is); (case i => k_is); (case l => k_is); (case c => k_is); (case k => k_is)
      case m_is_wrong =>
        refine' Sk.mf_mk ?a ?i ?l ?c ?k
        (case a => k_is); (case i => k_is); (case l => k_is); (case c => k_is); (case k => k_is)
      case m_pass_each_other =>
        refine' Sk.mf_mk ?a ?i ?l ?c ?k
        (case a => k_is); (case i => k_is); (case l => k_is); (case c => k_is); (case k => k_is)
      case m_clash =>
        refine' Sk.mf_mk ?a ?i ?l ?c ?k
        (case a => k_is); (case i => k_is); (case l => k_is); (case c => k_is); (case k => k_is)
      case m_implies =>
        refine' Sk.mf_mk ?a ?i ?l ?c ?k
        (case a => k_is); (case i => k_is); (case l => k_is); (case c => k_is); (case k => k_is)
      case b_len => exact PySem.W.mg_none_of KX G (by k_is)
      case b_range => exact PySem.W.mg_none_of KX G (by k_is)
      case b_isinstance => exact PySem.W.mg_none_of KX G (by k_is)
      case b_int => exact PySem.W.mg_none_of KX G (by k_is)
      case b_bool => exact PySem.W.mg_none_of KX G (by k_is)
      case b_tuple => exact PySem.W.mg_none_of KX G (by k_is)
      case b_all => exact PySem.W.mg_none_of KX G (by k_is)
      case b_any => exact PySem.W.mg_none_of KX G (by k_is)
      case b_set => exact PySem.W.mg_none_of KX G (by k_is)
      case b_enumerate => exact PySem.W.mg_none_of KX G (by k_is)
      case b_min => exact PySem.W.mg_none_of KX G (by k_is)
      case b_max => exact PySem.W.mg_none_of KX G (by k_is)
      case b_sorted => exact PySem.W.mg_none_of KX G (by k_is)
      case b_list => exact PySem.W.mg_none_of KX G (by k_is)
      case b_zip => exact PySem.W.mg_none_of KX G (by k_is)
      case b_str => exact PySem.W.mg_none_of KX G (by k_is)
      case b_repr => exact PySem.W.mg_none_of KX G (by k_is)
      case g_LEFT =>
        refine' Sk.str_mk KX G ?a
        (case a => k_is)
      case g_STAY =>
        refine' Sk.str_mk KX G ?a
        (case a => k_is)
      case g_MAX_PEOPLE =>
        refine' Sk.int_mk KX G ?a
        (case a => k_is)
      case g_Choices => exact PySem.W.mg_of KX G (by k_is)
      case cl => exact ⟨by k_is, by k_is, by k_is, by k_is⟩
      case makes =>
        refine' Sk.makes_mk ?i ?l ?c ?k ?m ?f ?kp
        (case i => k_is); (case l => k_is); (case c => k_is); (case k => k_is); (case m => k_is); (case f => k_is); (case kp => k_is)
      case nf_tables =>
        unfold L2.NoAttr
        k_is
      case nf_item =>
        unfold L2.NoAttr
        k_is
      case nf_person =>
        unfold L2.NoAttr
        k_is
      case nf_last =>
        unfold L2.NoAttr
        k_is
      case nf_known =>
        unfold L2.NoAttr
        k_is
